import PyProof.Rows.All
import Wide.All
import OpenK.AllK
import Wide.FinOn
import HandS.ForMost
import HandS.Zip
import HandS.IsInst
import HandS.Wide
import HandS.TupAny
import HandS.TupMul
import HandS.Flow
import HandS.Conv
import PySem.Challenge.RW_surepilot_k42_whole_tests_of_great_numbe
set_option Elab.async false
set_option linter.all false
set_option maxRecDepth 100000
set_option maxHeartbeats 1000000
namespace FL
open PySem L2

/-! data in place of heaps: a slot holds a datum, or a cell of the store (a list that is still written) -/
inductive S where
  | d (x : PyData)
  | ref (n : Nat)
abbrev Sto := List (Option (List S))
abbrev Ev := List (Option S)
abbrev si (i : Int) : S := .d (.int i)
abbrev sb (b : Bool) : S := .d (.bool b)

theorem nodup_get : ∀ {l : List Addr} {i j : Nat} {a : Addr}, l.Nodup → l[i]? = some a → l[j]? = some a → i = j
  | [], i, j, a, _, h, _ => by simp at h
  | b :: l, 0, 0, a, _, _, _ => rfl
  | b :: l, 0, j + 1, a, n, h1, h2 => by
    simp at h1 h2
    subst h1
    exact absurd (List.mem_of_getElem? h2) (List.nodup_cons.mp n).1
  | b :: l, i + 1, 0, a, n, h1, h2 => by
    simp at h1 h2
    subst h2
    exact absurd (List.mem_of_getElem? h1) (List.nodup_cons.mp n).1
  | b :: l, i + 1, j + 1, a, n, h1, h2 => by
    simp at h1 h2
    rw [nodup_get (List.nodup_cons.mp n).2 h1 h2]
section
variable {K : PySem.W.Frag} {G G1 G2 H H1 H2 : Hp} {π π1 π2 : List Addr} {cs cs1 cs2 : Sto} {v w : V} {x y : S} {vs ws : List V} {xs ys : List S} {σ : L2.St} {ρ : Ev}

theorem seqT_mono {a : Addr} (e : Same G G1) (h : SqT K G a vs) : SqT K G1 a vs := by
  rcases h with (h | ⟨o, h⟩) | h
  · exact .inl (.inl (e _ _ h))
  · exact .inl (.inr ⟨o, e _ _ h⟩)
  · exact .inr h
mutual
theorem dp_mono (e : Same G G1) : ∀ {v : V} {d : PyData}, Dp K G v d → Dp K G1 v d
  | _, _, .non => .non
  | _, _, .bl b => .bl b
  | _, _, .int i => .int i
  | _, _, .str x => .str x
  | _, _, .lst h r => .lst (e.seq h) (dpAll_mono e r)
  | _, _, .tup h r => .tup (seqT_mono e h) (dpAll_mono e r)
theorem dpAll_mono (e : Same G G1) : ∀ {vs : List V} {ds : List PyData}, DpAll K G vs ds → DpAll K G1 vs ds
  | _, _, .nil => .nil
  | _, _, .cons h r => .cons (dp_mono e h) (dpAll_mono e r)
end

inductive RepS (K : PySem.W.Frag) (G : Hp) (π : List Addr) : V → S → Prop
  | d {v : V} {x : PyData} (h : Dp K G v x) : RepS K G π v (.d x)
  | ref {n : Nat} {a : Addr} (h : π[n]? = some a) : RepS K G π (.ref a) (.ref n)
abbrev RepL (K : PySem.W.Frag) (G : Hp) (π : List Addr) : List V → List S → Prop := Paired (RepS K G π)

theorem RepS.mono (e : Same G G1) (p : ∃ πn, π1 = π ++ πn) (h : RepS K G π v x) : RepS K G1 π1 v x := by
  obtain ⟨πn, rfl⟩ := p
  cases h with
  | d h => exact .d (dp_mono e h)
  | ref h => exact .ref (by rw [List.getElem?_append_left (List.getElem?_eq_some_iff.mp h).1]; exact h)
theorem RepL.mono (e : Same G G1) (p : ∃ πn, π1 = π ++ πn) (h : RepL K G π vs xs) : RepL K G1 π1 vs xs := Paired.mapP h fun _ _ q => q.mono e p
theorem repL_d : ∀ {vs : List V} {ds : List PyData}, DpAll K G vs ds → RepL K G π vs (ds.map S.d)
  | _, _, .nil => .nil
  | _, _, .cons h r => .cons (.d h) (repL_d r)
theorem dpAll_of : ∀ {ds : List PyData} {vs : List V}, RepL K G π vs (ds.map S.d) → DpAll K G vs ds
  | [], _, h => by cases h; exact .nil
  | d :: ds, _, h => by
    cases h with
    | cons h r =>
      cases h with
      | d h => exact .cons h (dpAll_of r)
theorem RepL.len (h : RepL K G π vs xs) : vs.length = xs.length := Paired.length h
theorem RepL.get : ∀ {vs : List V} {xs : List S} {i : Nat} {x : S}, RepL K G π vs xs → xs[i]? = some x → ∃ v, vs[i]? = some v ∧ RepS K G π v x
  | _, _, i, x, .nil, e => by simp at e
  | _, _, 0, x, .cons h r, e => by simp at e; subst e; exact ⟨_, rfl, h⟩
  | _, _, i + 1, x, .cons h r, e => by
    obtain ⟨u, h1, h2⟩ := RepL.get (i := i) (x := x) r (by simpa using e)
    exact ⟨u, by simpa using h1, h2⟩
theorem DpAll.len : ∀ {vs : List V} {ds : List PyData}, DpAll K G vs ds → vs.length = ds.length
  | _, _, .nil => rfl
  | _, _, .cons _ r => by simp [DpAll.len r]
theorem DpAll.get : ∀ {vs : List V} {ds : List PyData} {i : Nat} {d : PyData}, DpAll K G vs ds → ds[i]? = some d → ∃ v, vs[i]? = some v ∧ Dp K G v d
  | _, _, i, x, .nil, e => by simp at e
  | _, _, 0, x, .cons h r, e => by simp at e; subst e; exact ⟨_, rfl, h⟩
  | _, _, i + 1, x, .cons h r, e => by
    obtain ⟨u, h1, h2⟩ := DpAll.get (i := i) (d := x) r (by simpa using e)
    exact ⟨u, by simpa using h1, h2⟩
theorem RepL.app : ∀ {vs ws : List V} {xs ys : List S}, RepL K G π vs xs → RepL K G π ws ys → RepL K G π (vs ++ ws) (xs ++ ys)
  | _, _, _, _, .nil, s => s
  | _, _, _, _, .cons r t, s => .cons r (RepL.app t s)
theorem RepL.set : ∀ {vs : List V} {xs : List S} (i : Nat), RepL K G π vs xs → RepS K G π v x → RepL K G π (vs.set i v) (xs.set i x)
  | _, _, _, .nil, _ => .nil
  | _, _, 0, .cons _ t, r => .cons r t
  | _, _, i + 1, .cons q t, r => .cons q (RepL.set i t r)
theorem DpAll.take : ∀ {vs : List V} {ds : List PyData} (n : Nat), DpAll K G vs ds → DpAll K G (vs.take n) (ds.take n)
  | _, _, 0, _ => .nil
  | _, _, _ + 1, .nil => .nil
  | _, _, n + 1, .cons r t => .cons r (DpAll.take n t)
theorem DpAll.drop : ∀ {vs : List V} {ds : List PyData} (n : Nat), DpAll K G vs ds → DpAll K G (vs.drop n) (ds.drop n)
  | _, _, 0, r => r
  | _, _, _ + 1, .nil => .nil
  | _, _, n + 1, .cons _ t => DpAll.drop n t
theorem DpAll.app : ∀ {vs ws : List V} {ds es : List PyData}, DpAll K G vs ds → DpAll K G ws es → DpAll K G (vs ++ ws) (ds ++ es)
  | _, _, _, _, .nil, s => s
  | _, _, _, _, .cons r t, s => .cons r (DpAll.app t s)

/-- G: what is known for ever; the cells of the store at the addresses π -/
structure At (K : PySem.W.Frag) (G : Hp) (π : List Addr) (cs : Sto) (H : Hp) : Prop where
  kn : Same G H
  len : π.length = cs.length
  nd : π.Nodup
  tr : ∀ a ∈ π, ∃ o, H a = some o
  st : ∀ (n : Nat) (a : Addr) (xs : List S), π[n]? = some a → cs[n]? = some (some xs) → G a = none ∧ ∃ vs, H a = some (.lst vs) ∧ RepL K G π vs xs
structure Ext (G : Hp) (π : List Addr) (H G' : Hp) (π' : List Addr) (H' : Hp) : Prop where
  g : Same G G'
  p : ∃ πn, π' = π ++ πn ∧ ∀ a ∈ πn, H a = none
  f : ∀ a o, a ∉ π → H a = some o → H' a = some o
  dm : ∀ a, H' a = none → H a = none
  gn : ∀ a o, G' a = some o → G a = some o ∨ H a = none ∨ a ∈ π
theorem Ext.refl : Ext G π H G π H := ⟨Same.refl _, ⟨[], by simp, by simp⟩, fun _ _ _ e => e, fun _ e => e, fun _ _ e => .inl e⟩
theorem Ext.trans (a : Ext G π H G1 π1 H1) (b : Ext G1 π1 H1 G2 π2 H2) : Ext G π H G2 π2 H2 := by
  obtain ⟨p1, e1, f1⟩ := a.p
  obtain ⟨p2, e2, f2⟩ := b.p
  refine ⟨a.g.trans b.g, ⟨p1 ++ p2, by rw [e2, e1, List.append_assoc], fun c hc => ?_⟩, fun c o hc e => ?_, fun c e => a.dm c (b.dm c e), fun c o e => ?_⟩
  rotate_left 2
  · rcases b.gn c o e with h | h | h
    · exact a.gn c o h
    · exact .inr (.inl (a.dm c h))
    · rw [e1] at h
      rcases List.mem_append.mp h with h | h
      · exact .inr (.inr h)
      · exact .inr (.inl (f1 c h))
  · rcases List.mem_append.mp hc with hc | hc
    · exact f1 c hc
    · exact a.dm c (f2 c hc)
  · refine b.f c o (fun hm => ?_) (a.f c o hc e)
    rw [e1] at hm
    rcases List.mem_append.mp hm with hm | hm
    · exact hc hm
    · rw [f1 c hm] at e; cases e
theorem Ext.pp (a : Ext G π H G1 π1 H1) : ∃ πn, π1 = π ++ πn := let ⟨q, e, _⟩ := a.p; ⟨q, e⟩
theorem RepS.ext (a : Ext G π H G1 π1 H1) (h : RepS K G π v x) : RepS K G1 π1 v x := h.mono a.g a.pp
theorem RepL.ext (a : Ext G π H G1 π1 H1) (h : RepL K G π vs xs) : RepL K G1 π1 vs xs := RepL.mono a.g a.pp h
theorem At.free (A : At K G π cs H) {p : Addr} (hp : H p = none) : G p = none := A.kn.free hp
theorem At.nin (A : At K G π cs H) {p : Addr} (hp : H p = none) : p ∉ π := fun hm => by
  obtain ⟨o, e⟩ := A.tr p hm
  rw [e] at hp; cases hp
theorem At.ne (A : At K G π cs H) {p a : Addr} {n : Nat} (hp : H p = none) (ha : π[n]? = some a) : a ≠ p := fun e => A.nin hp (e ▸ List.mem_of_getElem? ha)
theorem same_new {p : Addr} {o : HO} (h : G p = none) : Same G (upd G p o) := fun b u e => by rw [upd_ne (ne_of_none e h)]; exact e
/-- a new object that stays -/
theorem At.new (A : At K G π cs H) {p : Addr} (hp : H p = none) (o : HO) : At K (upd G p o) π cs (upd H p o) ∧ Ext G π H (upd G p o) π (upd H p o) := by
  have hg := A.free hp
  refine ⟨⟨fun b u e => ?_, A.len, A.nd, fun a ha => ?_, fun n a xs h1 h2 => ?_⟩, ⟨same_new hg, ⟨[], by simp, by simp⟩, fun a u _ e => by rw [upd_ne (ne_of_none e hp)]; exact e, fun a e => ?_, fun a u e => ?_⟩⟩
  rotate_right 1
  · by_cases hb : a = p
    · subst hb; exact .inr (.inl hp)
    · rw [upd_ne hb] at e; exact .inl e
  · by_cases hb : b = p
    · subst hb; rw [upd_same] at e ⊢; exact e
    · rw [upd_ne hb] at e ⊢; exact A.kn b u e
  · obtain ⟨u, e⟩ := A.tr a ha
    exact ⟨u, by rw [upd_ne (ne_of_none e hp)]; exact e⟩
  · obtain ⟨g, vs, e, r⟩ := A.st n a xs h1 h2
    have hne := A.ne hp h1
    exact ⟨by rw [upd_ne hne]; exact g, vs, by rw [upd_ne hne]; exact e, RepL.mono (same_new hg) ⟨[], by simp⟩ r⟩
  · by_cases hb : a = p
    · subst hb; exact hp
    · rw [upd_ne hb] at e; exact e
/-- a new object that nobody knows -/
theorem At.junk (A : At K G π cs H) {p : Addr} (hp : H p = none) (o : HO) : At K G π cs (upd H p o) ∧ Ext G π H G π (upd H p o) := by
  refine ⟨⟨fun b u e => by rw [upd_ne (ne_of_none (A.kn b u e) hp)]; exact A.kn b u e, A.len, A.nd, fun a ha => ?_, fun n a xs h1 h2 => ?_⟩, ⟨Same.refl _, ⟨[], by simp, by simp⟩, fun a u _ e => by rw [upd_ne (ne_of_none e hp)]; exact e, fun a e => ?_, fun _ _ e => .inl e⟩⟩
  · obtain ⟨u, e⟩ := A.tr a ha
    exact ⟨u, by rw [upd_ne (ne_of_none e hp)]; exact e⟩
  · obtain ⟨g, vs, e, r⟩ := A.st n a xs h1 h2
    exact ⟨g, vs, by rw [upd_ne (A.ne hp h1)]; exact e, r⟩
  · by_cases hb : a = p
    · subst hb; exact hp
    · rw [upd_ne hb] at e; exact e
/-- a list that stands becomes a cell -/
theorem At.cell (A : At K G π cs H) {p : Addr} (hp : G p = none) (hn : p ∉ π) (e : H p = some (.lst vs)) (r : RepL K G π vs xs) : At K G (π ++ [p]) (cs ++ [some xs]) H := by
  refine ⟨A.kn, by simp [A.len], List.nodup_append.mpr ⟨A.nd, by simp, fun a ha b hb => by
    have : b = p := by simpa using hb
    subst this; exact fun q => hn (q ▸ ha)⟩, fun a ha => ?_, fun n a ys h1 h2 => ?_⟩
  · rcases List.mem_append.mp ha with ha | ha
    · exact A.tr a ha
    · have : a = p := by simpa using ha
      subst this; exact ⟨_, e⟩
  · by_cases hlt : n < π.length
    · rw [List.getElem?_append_left hlt] at h1
      rw [List.getElem?_append_left (by rw [← A.len]; exact hlt)] at h2
      obtain ⟨g, ws, e, r⟩ := A.st n a ys h1 h2
      exact ⟨g, ws, e, RepL.mono (Same.refl _) ⟨[p], rfl⟩ r⟩
    · have hn : n = π.length := by
        have := (List.getElem?_eq_some_iff.mp h1).1
        simp at this; omega
      subst hn
      rw [List.getElem?_append_right (Nat.le_refl _), Nat.sub_self] at h1
      rw [A.len, List.getElem?_append_right (Nat.le_refl _), Nat.sub_self] at h2
      simp at h1 h2
      subst h1 h2
      exact ⟨hp, vs, e, RepL.mono (Same.refl _) ⟨[p], rfl⟩ r⟩
/-- a new list that will be written -/
theorem At.newM (A : At K G π cs H) {p : Addr} (hp : H p = none) (r : RepL K G π vs xs) : At K G (π ++ [p]) (cs ++ [some xs]) (upd H p (.lst vs)) ∧ Ext G π H G (π ++ [p]) (upd H p (.lst vs)) := by
  obtain ⟨A1, E1⟩ := A.junk hp (.lst vs)
  refine ⟨A1.cell (A.free hp) (A.nin hp) upd_same r, ⟨Same.refl _, ⟨[p], rfl, fun a ha => ?_⟩, E1.f, E1.dm, fun _ _ e => .inl e⟩⟩
  have : a = p := by simpa using ha
  subst this; exact hp
/-- a cell is written -/
theorem At.put (A : At K G π cs H) {n : Nat} {a : Addr} (ha : π[n]? = some a) (hc : cs[n]? = some (some xs)) (r : RepL K G π ws ys) : At K G π (cs.set n (some ys)) (upd H a (.lst ws)) ∧ Ext G π H G π (upd H a (.lst ws)) := by
  obtain ⟨g, vs, e, _⟩ := A.st n a xs ha hc
  have hlt := (List.getElem?_eq_some_iff.mp ha).1
  refine ⟨⟨fun b u q => ?_, by simp [A.len], A.nd, fun b hb => ?_, fun m b zs h1 h2 => ?_⟩, ⟨Same.refl _, ⟨[], by simp, by simp⟩, fun b u hb q => ?_, fun b q => ?_, fun _ _ e => .inl e⟩⟩
  · rw [upd_ne (ne_of_none q g)]; exact A.kn b u q
  · by_cases hx : b = a
    · subst hx; exact ⟨_, upd_same⟩
    · rw [upd_ne hx]; exact A.tr b hb
  · by_cases hm : m = n
    · subst hm
      rw [ha] at h1; cases h1
      rw [List.getElem?_set_self (by rw [← A.len]; exact hlt)] at h2
      cases h2
      exact ⟨g, ws, upd_same, r⟩
    · rw [List.getElem?_set_ne (Ne.symm hm)] at h2
      have hx : b ≠ a := fun q => by
        subst q
        exact hm (nodup_get A.nd h1 ha)
      rw [upd_ne hx]
      exact A.st m b zs h1 h2
  · have hx : b ≠ a := fun q => hb (q ▸ List.mem_of_getElem? ha)
    rw [upd_ne hx]; exact q
  · by_cases hx : b = a
    · subst hx; rw [upd_same] at q; cases q
    · rw [upd_ne hx] at q; exact q
/-- a cell is written no more: it is a datum -/
theorem At.frz (A : At K G π cs H) {n : Nat} {a : Addr} {ds : List PyData} (ha : π[n]? = some a) (hc : cs[n]? = some (some (ds.map S.d))) :
    ∃ G', At K G' π (cs.set n none) H ∧ Ext G π H G' π H ∧ Dp K G' (.ref a) (.list ds) := by
  obtain ⟨g, vs, e, r⟩ := A.st n a _ ha hc
  have hlt := (List.getElem?_eq_some_iff.mp ha).1
  have sm : Same G (upd G a (.lst vs)) := same_new g
  refine ⟨upd G a (.lst vs), ⟨fun b u q => ?_, by simp [A.len], A.nd, A.tr, fun m b zs h1 h2 => ?_⟩, ⟨sm, ⟨[], by simp, by simp⟩, fun _ _ _ q => q, fun _ q => q, fun b u q => (by
    by_cases hb : b = a
    · subst hb; exact .inr (.inr (List.mem_of_getElem? ha))
    · rw [upd_ne hb] at q; exact .inl q)⟩, .lst (.of upd_same) (dpAll_mono sm (dpAll_of r))⟩
  · by_cases hb : b = a
    · subst hb; rw [upd_same] at q; cases q; exact e
    · rw [upd_ne hb] at q; exact A.kn b u q
  · have hm : m ≠ n := fun q => by
      subst q
      rw [List.getElem?_set_self (by rw [← A.len]; exact hlt)] at h2
      cases h2
    rw [List.getElem?_set_ne (Ne.symm hm)] at h2
    have hx : b ≠ a := fun q => by
      subst q
      exact hm (nodup_get A.nd h1 ha)
    obtain ⟨g2, ws, e2, r2⟩ := A.st m b zs h1 h2
    exact ⟨by rw [upd_ne hx]; exact g2, ws, e2, RepL.mono sm ⟨[], by simp⟩ r2⟩

/-! what a def hands back: cells made within may be forgotten -/
def Okx (n : Nat) : S → Prop
  | .d _ => True
  | .ref m => m < n
def Okc (n : Nat) (cs : Sto) : Prop := ∀ (k : Nat) (xs : List S), cs[k]? = some (some xs) → ∀ x ∈ xs, Okx n x
theorem repS_okx (h : RepS K G π v x) : Okx π.length x := by
  cases h with
  | d _ => trivial
  | ref h => exact (List.getElem?_eq_some_iff.mp h).1
theorem repL_okx : ∀ {vs : List V} {xs : List S}, RepL K G π vs xs → ∀ x ∈ xs, Okx π.length x
  | _, _, .nil, x, h => by cases h
  | _, _, .cons r t, x, h => by
    rcases List.mem_cons.mp h with rfl | h
    · exact repS_okx r
    · exact repL_okx t x h
theorem At.okc (A : At K G π cs H) : Okc cs.length cs := fun k xs e x hx => by
  have hk := (List.getElem?_eq_some_iff.mp e).1
  have hk' : k < π.length := by rw [A.len]; exact hk
  obtain ⟨_, vs, _, r⟩ := A.st k π[k] xs (by simp [hk']) e
  rw [← A.len]
  exact repL_okx r x hx
theorem repS_back {πn : List Addr} (h : RepS K G (π ++ πn) v x) (ok : Okx π.length x) : RepS K G π v x := by
  cases h with
  | d h => exact .d h
  | ref h =>
    rw [List.getElem?_append_left ok] at h
    exact .ref h
theorem repL_back {πn : List Addr} : ∀ {vs : List V} {xs : List S}, RepL K G (π ++ πn) vs xs → (∀ x ∈ xs, Okx π.length x) → RepL K G π vs xs
  | _, _, .nil, _ => .nil
  | _, _, .cons r t, h => .cons (repS_back r (h _ List.mem_cons_self)) (repL_back t fun x hx => h x (List.mem_cons_of_mem _ hx))
theorem At.drop {πn : List Addr} {gs : Sto} (A : At K G (π ++ πn) (cs ++ gs) H) (hl : π.length = cs.length) (ok : Okc cs.length cs) : At K G π cs H := by
  refine ⟨A.kn, hl, (List.nodup_append.mp A.nd).1, fun a ha => A.tr a (List.mem_append_left _ ha), fun n a xs h1 h2 => ?_⟩
  obtain ⟨g, vs, e, r⟩ := A.st n a xs (by rw [List.getElem?_append_left (List.getElem?_eq_some_iff.mp h1).1]; exact h1) (by rw [List.getElem?_append_left (List.getElem?_eq_some_iff.mp h2).1]; exact h2)
  exact ⟨g, vs, e, repL_back r fun x hx => by rw [hl]; exact ok n xs h2 x hx⟩
theorem okc_set {n m : Nat} {ys : List S} (h : Okc n cs) (hy : ∀ x ∈ ys, Okx n x) : Okc n (cs.set m (some ys)) := fun k xs e x hx => by
  by_cases hk : k = m
  · subst hk
    by_cases hl : k < cs.length
    · rw [List.getElem?_set_self hl] at e; cases e; exact hy x hx
    · rw [List.getElem?_eq_none (by simpa using hl)] at e; cases e
  · rw [List.getElem?_set_ne (Ne.symm hk)] at e
    exact h k xs e x hx

/-! slots -/
structure Sl (K : PySem.W.Frag) (G : Hp) (π : List Addr) (σ : L2.St) (ρ : Ev) : Prop where
  len : σ.length = ρ.length
  at_ : ∀ (i : Nat) (x : S), ρ[i]? = some (some x) → ∃ v, σ[i]? = some (some v) ∧ RepS K G π v x
theorem Sl.ext (a : Ext G π H G1 π1 H1) (s : Sl K G π σ ρ) : Sl K G1 π1 σ ρ := ⟨s.len, fun i x e => let ⟨v, h, r⟩ := s.at_ i x e; ⟨v, h, r.ext a⟩⟩
theorem Sl.set (s : Sl K G π σ ρ) (i : Nat) (r : RepS K G π v x) : Sl K G π (σ.set i (some v)) (ρ.set i (some x)) := by
  refine ⟨by simp [s.len], fun j y e => ?_⟩
  by_cases hj : j = i
  · subst hj
    by_cases hl : j < ρ.length
    · rw [List.getElem?_set_self hl] at e
      cases e
      exact ⟨v, by rw [List.getElem?_set_self (by rw [s.len]; exact hl)], r⟩
    · rw [List.getElem?_eq_none (by simpa using hl)] at e; cases e
  · rw [List.getElem?_set_ne (Ne.symm hj)] at e ⊢
    exact s.at_ j y e
def wip (ρ : Ev) : List Nat → Ev
  | [] => ρ
  | i :: is => (wip ρ is).set i none
theorem Sl.unset (s : Sl K G π σ ρ) (i : Nat) : Sl K G π (σ.set i none) (ρ.set i none) := by
  refine ⟨by simp [s.len], fun j y e => ?_⟩
  by_cases hj : j = i
  · subst hj
    by_cases hl : j < ρ.length
    · rw [List.getElem?_set_self hl] at e; cases e
    · rw [List.getElem?_eq_none (by simpa using hl)] at e; cases e
  · rw [List.getElem?_set_ne (Ne.symm hj)] at e ⊢
    exact s.at_ j y e
theorem Sl.wip (s : Sl K G π σ ρ) : ∀ is : List Nat, Sl K G π (wipe σ is) (wip ρ is)
  | [] => s
  | i :: is => (Sl.wip s is).unset i
end
end FL

set_option Elab.async false
set_option linter.all false
set_option maxRecDepth 100000
set_option maxHeartbeats 1000000
namespace FL
open PySem L2

/-! readings over data -/
abbrev RK := S → Sto → Prop
abbrev TD := Ev → Sto → RK → Prop
abbrev TTD := Ev → Sto → (Bool → Sto → Prop) → Prop
abbrev TAD := Ev → Sto → (List S → Sto → Prop) → Prop
structure EndsD where
  nx : Ev → Sto → Prop
  rt : RK
  bk : Ev → Sto → Prop
  ct : Ev → Sto → Prop
abbrev TSD := EndsD → Ev → Sto → Prop
abbrev TGD := S → Ev → Sto → (Ev → Sto → Prop) → Prop
abbrev RD1 := S → Sto → RK → Prop
abbrev RD2 := S → S → Sto → RK → Prop
abbrev RDL := List S → Sto → RK → Prop

section
variable (K : PySem.W.Frag)
def upE (t : TD) : TE := fun σ H Q => ∃ G π ρ cs R, At K G π cs H ∧ Sl K G π σ ρ ∧ t ρ cs R ∧ ∀ v H' x cs' G' π', Ext G π H G' π' H' → At K G' π' cs' H' → RepS K G' π' v x → R x cs' → Q v H'
def upT (t : TTD) : TT := fun σ H Q => ∃ G π ρ cs R, At K G π cs H ∧ Sl K G π σ ρ ∧ t ρ cs R ∧ ∀ b H' cs' G' π', Ext G π H G' π' H' → At K G' π' cs' H' → R b cs' → Q b H'
def upA (t : TAD) : TA := fun σ H Q => ∃ G π ρ cs R, At K G π cs H ∧ Sl K G π σ ρ ∧ t ρ cs R ∧ ∀ vs H' xs cs' G' π', Ext G π H G' π' H' → At K G' π' cs' H' → RepL K G' π' vs xs → R xs cs' → Q vs H'
structure Cn (G : Hp) (π : List Addr) (H : Hp) (d : EndsD) (D : Ends) : Prop where
  nx : ∀ σ' H' ρ' cs' G' π', Ext G π H G' π' H' → At K G' π' cs' H' → Sl K G' π' σ' ρ' → d.nx ρ' cs' → D.nx σ' H'
  bk : ∀ σ' H' ρ' cs' G' π', Ext G π H G' π' H' → At K G' π' cs' H' → Sl K G' π' σ' ρ' → d.bk ρ' cs' → D.bk σ' H'
  ct : ∀ σ' H' ρ' cs' G' π', Ext G π H G' π' H' → At K G' π' cs' H' → Sl K G' π' σ' ρ' → d.ct ρ' cs' → D.ct σ' H'
  rt : ∀ v H' x cs' G' π', Ext G π H G' π' H' → At K G' π' cs' H' → RepS K G' π' v x → d.rt x cs' → D.rt v H'
def upS (t : TSD) : TS := fun D σ H => ∃ G π ρ cs d, At K G π cs H ∧ Sl K G π σ ρ ∧ t d ρ cs ∧ Cn K G π H d D
/-- only the slots is are stored -/
def Chg (is : List Nat) (σ σ' : L2.St) : Prop := σ'.length = σ.length ∧ ∀ i, i ∉ is → σ'[i]? = σ[i]?
def upG (is : List Nat) (t : TGD) : TG := fun v σ H Q => ∃ G π ρ cs x R, At K G π cs H ∧ Sl K G π σ ρ ∧ RepS K G π v x ∧ t x ρ cs R ∧ ∀ σ' H' ρ' cs' G' π', Ext G π H G' π' H' → At K G' π' cs' H' → Sl K G' π' σ' ρ' → Chg is σ σ' → R ρ' cs' → Q σ' H'
def upGs (is : List Nat) (t : List S → Ev → Sto → (Ev → Sto → Prop) → Prop) : TGs := fun vs σ H Q => ∃ G π ρ cs xs R, At K G π cs H ∧ Sl K G π σ ρ ∧ RepL K G π vs xs ∧ t xs ρ cs R ∧ ∀ σ' H' ρ' cs' G' π', Ext G π H G' π' H' → At K G' π' cs' H' → Sl K G' π' σ' ρ' → Chg is σ σ' → R ρ' cs' → Q σ' H'
/-- a heap rule keeps a data rule -/
def Sim1 (r : V → Hp → VK → Prop) (rd : RD1) : Prop := ∀ G π cs H v x R Q, At K G π cs H → RepS K G π v x → rd x cs R → (∀ v' H' z cs' G' π', Ext G π H G' π' H' → At K G' π' cs' H' → RepS K G' π' v' z → R z cs' → Q v' H') → r v H Q
def Sim2 (r : R2) (rd : RD2) : Prop := ∀ G π cs H v w x y R Q, At K G π cs H → RepS K G π v x → RepS K G π w y → rd x y cs R → (∀ v' H' z cs' G' π', Ext G π H G' π' H' → At K G' π' cs' H' → RepS K G' π' v' z → R z cs' → Q v' H') → r v w H Q
def SimL (r : List V → Hp → VK → Prop) (rd : RDL) : Prop := ∀ G π cs H vs xs R Q, At K G π cs H → RepL K G π vs xs → rd xs cs R → (∀ v' H' z cs' G' π', Ext G π H G' π' H' → At K G' π' cs' H' → RepS K G' π' v' z → R z cs' → Q v' H') → r vs H Q
end

section
variable {K : PySem.W.Frag} {G G1 H H1 : Hp} {π π1 : List Addr} {cs : Sto} {d : EndsD} {D : Ends}
theorem Cn.step (c : Cn K G π H d D) (e : Ext G π H G1 π1 H1) : Cn K G1 π1 H1 d D :=
  ⟨fun _ _ _ _ _ _ e' => c.nx _ _ _ _ _ _ (e.trans e'), fun _ _ _ _ _ _ e' => c.bk _ _ _ _ _ _ (e.trans e'), fun _ _ _ _ _ _ e' => c.ct _ _ _ _ _ _ (e.trans e'), fun _ _ _ _ _ _ e' => c.rt _ _ _ _ _ _ (e.trans e')⟩
end

/-! ### names and constants -/
def getS : Ev → Nat → Option S
  | [], _ => none
  | x :: _, 0 => x
  | _ :: xs, n + 1 => getS xs n
theorem getS_eq : ∀ {ρ : Ev} {i : Nat} {x : S}, getS ρ i = some x → ρ[i]? = some (some x)
  | [], _, _, h => by cases h
  | x :: _, 0, _, h => by
    have : x = some _ := h
    subst this; rfl
  | _ :: xs, n + 1, x, h => by
    have := getS_eq (ρ := xs) (i := n) h
    simpa using this
def getC : Sto → Nat → Option (List S)
  | [], _ => none
  | x :: _, 0 => x
  | _ :: xs, n + 1 => getC xs n
theorem getC_eq : ∀ {cs : Sto} {i : Nat} {x : List S}, getC cs i = some x → cs[i]? = some (some x)
  | [], _, _, h => by cases h
  | x :: _, 0, _, h => by
    have : x = some _ := h
    subst this; rfl
  | _ :: xs, n + 1, x, h => by
    have := getC_eq (cs := xs) (i := n) h
    simpa using this
theorem getC_of : ∀ {cs : Sto} {i : Nat} {x : List S}, cs[i]? = some (some x) → getC cs i = some x
  | [], _, _, h => by simp at h
  | x :: _, 0, y, h => by
    have e : x = some y := by simpa using h
    subst e; rfl
  | _ :: xs, n + 1, x, h => getC_of (cs := xs) (i := n) (by simpa using h)
def dVar (i : Nat) : TD := fun ρ cs R => ∃ x, getS ρ i = some x ∧ R x cs
def dC (x : PyData) : TD := fun _ cs R => R (.d x) cs
/-- a name whose list is written no more from here on -/
def dVarF (i : Nat) : TD := fun ρ cs R => ∃ n ds, getS ρ i = some (.ref n) ∧ getC cs n = some (ds.map S.d) ∧ R (.d (.list ds)) (cs.set n none)

section
variable {X : Cx}
theorem _root_.L2.PE.weak {e : Expr} {t t' : TE} (h : PE X e t) (hw : ∀ σ H Q, t' σ H Q → t σ H Q) : PE X e t' := ⟨fun pins s σ H Q I q => h.run pins s σ H Q I (hw _ _ _ q)⟩
theorem _root_.L2.PT.weak {e : Expr} {t t' : TT} (h : PT X e t) (hw : ∀ σ H Q, t' σ H Q → t σ H Q) : PT X e t' := ⟨fun pins s σ H Q I q => h.run pins s σ H Q I (hw _ _ _ q)⟩
theorem _root_.L2.PW.weak {e : Expr} {t t' : TT} (h : PW X e t) (hw : ∀ σ H Q, t' σ H Q → t σ H Q) : PW X e t' := ⟨fun wh pins s σ H Q I q => h.run wh pins s σ H Q I (hw _ _ _ q)⟩
theorem _root_.L2.PA.weak {es : List Expr} {t t' : TA} (h : PA X es t) (hw : ∀ σ H Q, t' σ H Q → t σ H Q) : PA X es t' := ⟨fun p pins s σ H Q I q => h.run p pins s σ H Q I (hw _ _ _ q)⟩
theorem _root_.L2.PS.weak {st : Stmt} {t t' : TS} (h : PS X st t) (hw : ∀ D σ H, t' D σ H → t D σ H) : PS X st t' := ⟨fun pins s σ H D I q => h.run pins s σ H D I (hw _ _ _ q)⟩
theorem _root_.L2.PSs.weak {st : List Stmt} {t t' : TS} (h : PSs X st t) (hw : ∀ D σ H, t' D σ H → t D σ H) : PSs X st t' := ⟨fun pins s σ H D I q => h.run pins s σ H D I (hw _ _ _ q)⟩
theorem _root_.L2.PG.weak {e : Expr} {t t' : TG} (h : PG X e t) (hw : ∀ v σ H Q, t' v σ H Q → t v σ H Q) : PG X e t' := ⟨fun pins s σ H v u Q I r q => h.run pins s σ H v u Q I r (hw _ _ _ _ q)⟩

variable {K : PySem.W.Frag}
theorem up_var {i : Nat} : ∀ σ H Q, upE K (dVar i) σ H Q → tVar i σ H Q := by
  rintro σ H Q ⟨G, π, ρ, cs, R, A, s, ⟨x, e, q⟩, k⟩
  obtain ⟨v, e1, r⟩ := s.at_ i x (getS_eq e)
  exact ⟨v, e1, k v H x cs G π .refl A r q⟩
theorem up_varF {i : Nat} : ∀ σ H Q, upE K (dVarF i) σ H Q → tVar i σ H Q := by
  rintro σ H Q ⟨G, π, ρ, cs, R, A, s, ⟨n, ds, e, e2, q⟩, k⟩
  obtain ⟨v, e1, r⟩ := s.at_ i _ (getS_eq e)
  cases r with
  | ref ha =>
    obtain ⟨G', A', E', dd⟩ := A.frz ha (getC_eq e2)
    exact ⟨_, e1, k _ H _ _ G' π E' A' (.d dd) q⟩
theorem up_c {v : V} {x : PyData} (h : ∀ G, Dp K G v x) : ∀ σ H Q, upE K (dC x) σ H Q → tC v σ H Q := by
  rintro σ H Q ⟨G, π, ρ, cs, R, A, s, q, k⟩
  exact k v H _ cs G π .refl A (.d (h G)) q
theorem ee_var (i : Nat) {x : Str} {pos : Pos} (hN : X.N[i]? = some x := by rfl) (hv : Vis X.env.scope x := by first | exact Or.inl rfl | exact Or.inr (Or.inl rfl) | exact Or.inr (Or.inr rfl)) (hd : (x == ("__debug__" : Str)) = false := by decide)
    (hcd : (x == ("__classdict__" : Str)) = false := by decide) : PE X (.Name x pos) (upE X.K (dVar i)) := (pe_var hN hv hd hcd).weak up_var
theorem ee_varF (i : Nat) {x : Str} {pos : Pos} (hN : X.N[i]? = some x := by rfl) (hv : Vis X.env.scope x := by first | exact Or.inl rfl | exact Or.inr (Or.inl rfl) | exact Or.inr (Or.inr rfl)) (hd : (x == ("__debug__" : Str)) = false := by decide)
    (hcd : (x == ("__classdict__" : Str)) = false := by decide) : PE X (.Name x pos) (upE X.K (dVarF i)) := (pe_var hN hv hd hcd).weak up_varF
theorem ee_int {i j pos} : PE X (.Constant (.int i) j pos) (upE X.K (dC (.int i))) := pe_int.weak (up_c fun _ => .int i)
theorem ee_bl {b j pos} : PE X (.Constant (.bool b) j pos) (upE X.K (dC (.bool b))) := pe_bl.weak (up_c fun _ => .bl b)
theorem ee_non {j pos} : PE X (.Constant .none j pos) (upE X.K (dC .none)) := pe_non.weak (up_c fun _ => .non)
theorem ee_str {x j pos} : PE X (.Constant (.str x) j pos) (upE X.K (dC (.str x))) := pe_str.weak (up_c fun _ => .str x)
/-- a constant of the module -/
structure GlobD (K : PySem.W.Frag) (mg : Str → Option Value) (x : Str) (d : PyData) : Prop where
  ex : ∃ u v, mg x = some u ∧ RelV v u ∧ ∀ G, Dp K G v d
theorem ee_glob {x : Str} {d : PyData} {pos : Pos} (hg : Gl X x) (h : GlobD X.K X.mg x d) (hd : (x == ("__debug__" : Str)) = false := by decide) : PE X (.Name x pos) (upE X.K (dC d)) :=
  let ⟨_, _, hm, r, q⟩ := h.ex
  (pe_glob hg hm r hd).weak (up_c q)

/-! ### operators -/
def dOp (rd : RD2) (ta tb : TD) : TD := fun ρ cs R => ta ρ cs fun x cs1 => tb ρ cs1 fun y cs2 => rd x y cs2 R
def dUn (rd : RD1) (ta : TD) : TD := fun ρ cs R => ta ρ cs fun x cs1 => rd x cs1 R
theorem up_op {r : R2} {rd : RD2} {ta tb : TD} (h : Sim2 K r rd) : ∀ σ H Q, upE K (dOp rd ta tb) σ H Q → tOp r (upE K ta) (upE K tb) σ H Q := by
  rintro σ H Q ⟨G, π, ρ, cs, R, A, s, q, k⟩
  refine ⟨G, π, ρ, cs, _, A, s, q, fun v1 H1 x cs1 G1 π1 E1 A1 r1 q1 => ⟨G1, π1, ρ, cs1, _, A1, s.ext E1, q1, fun v2 H2 y cs2 G2 π2 E2 A2 r2 q2 => ?_⟩⟩
  exact h G2 π2 cs2 H2 v1 v2 x y R Q A2 (r1.ext E2) r2 q2 fun v3 H3 z cs3 G3 π3 E3 A3 r3 q3 => k _ _ _ _ _ _ (E1.trans (E2.trans E3)) A3 r3 q3
theorem up_un {r : V → Hp → VK → Prop} {rd : RD1} {ta : TD} (h : Sim1 K r rd) : ∀ σ H Q, upE K (dUn rd ta) σ H Q → tUn r (upE K ta) σ H Q := by
  rintro σ H Q ⟨G, π, ρ, cs, R, A, s, q, k⟩
  refine ⟨G, π, ρ, cs, _, A, s, q, fun v1 H1 x cs1 G1 π1 E1 A1 r1 q1 => ?_⟩
  exact h G1 π1 cs1 H1 v1 x R Q A1 r1 q1 fun v3 H3 z cs3 G3 π3 E3 A3 r3 q3 => k _ _ _ _ _ _ (E1.trans E3) A3 r3 q3
variable {a b c : Expr} {ta tb tc : TD} {pos : Pos}
theorem ee_op {op : Operator} {r : R2} {rd : RD2} (h : Sim2 X.K r rd) (ho : OpR X (binaryOp op) r) (ha : PE X a (upE X.K ta)) (hb : PE X b (upE X.K tb)) : PE X (.BinOp a op b pos) (upE X.K (dOp rd ta tb)) := (pe_op ho ha hb).weak (up_op h)
theorem ee_un {op : UnaryOp} {r : V → Hp → VK → Prop} {rd : RD1} (h : Sim1 X.K r rd) (ho : UnR X (unaryOp op) r) (ha : PE X a (upE X.K ta)) : PE X (.UnaryOp op a pos) (upE X.K (dUn rd ta)) := (pe_un ho ha).weak (up_un h)
theorem ee_cmp {op : CmpOp} {r : R2} {rd : RD2} (h : Sim2 X.K r rd) (ho : OpR X (compareOp op) r) (ha : PE X a (upE X.K ta)) (hb : PE X b (upE X.K tb)) (hm : behindInMarks op b = false) : PE X (.Compare a [op] [b] pos) (upE X.K (dOp rd ta tb)) :=
  (pe_cmpR ho ha hb hm).weak (up_op h)
def dTestR (t : TD) : TTD := fun ρ cs R => t ρ cs fun x cs1 => ∃ b, x = sb b ∧ R b cs1
theorem up_test {t : TD} {tt : TE} (h : ∀ σ H Q, upE K t σ H Q → tt σ H Q) : ∀ σ H Q, upT K (dTestR t) σ H Q → tTest tt σ H Q := by
  rintro σ H Q ⟨G, π, ρ, cs, R, A, s, q, k⟩
  refine h σ H _ ⟨G, π, ρ, cs, _, A, s, q, fun v1 H1 x cs1 G1 π1 E1 A1 r1 q1 => ?_⟩
  obtain ⟨b, rfl, q1⟩ := q1
  cases r1 with
  | d r1 => cases r1 with
    | bl => exact ⟨b, rfl, k _ _ _ _ _ E1 A1 q1⟩
theorem et_cmp {op : CmpOp} {r : R2} {rd : RD2} (h : Sim2 X.K r rd) (ho : OpR X (compareOp op) r) (ha : PE X a (upE X.K ta)) (hb : PE X b (upE X.K tb)) (hm : behindInMarks op b = false) : PT X (.Compare a [op] [b] pos) (upT X.K (dTestR (dOp rd ta tb))) :=
  (pt_cmpR ho ha hb hm).weak (up_test (up_op h))
/-- a < b < c -/
def dChain (rd rd' : RD2) (ta tb tc : TD) : TD := fun ρ cs R => ta ρ cs fun x cs1 => tb ρ cs1 fun y cs2 => rd x y cs2 fun z cs3 => ∃ b, z = sb b ∧ (b = true → tc ρ cs3 fun u cs4 => rd' y u cs4 R) ∧ (b = false → R (sb false) cs3)

/-! whole numbers -/
def qI (C : Int → Int → Prop) (g : Int → Int → PyData) : RD2 := fun x y cs R => ∃ i j, x = si i ∧ y = si j ∧ C i j ∧ R (.d (g i j)) cs
def qI0 (g : Int → Int → PyData) : RD2 := fun x y cs R => ∃ i j, x = si i ∧ y = si j ∧ R (.d (g i j)) cs
theorem sim_I {C : Int → Int → Prop} {g : Int → Int → Int} : Sim2 K (rI C fun i j => .int (g i j)) (qI C fun i j => .int (g i j)) := by
  rintro G π cs H v w x y R Q A rv rw ⟨i, j, rfl, rfl, hc, q⟩ k
  cases rv with
  | d rv => cases rv; cases rw with
    | d rw => cases rw; exact ⟨i, j, rfl, rfl, hc, k _ _ _ _ _ _ .refl A (.d (.int _)) q⟩
theorem sim_I0 {g : Int → Int → Int} : Sim2 K (rI0 fun i j => .int (g i j)) (qI0 fun i j => .int (g i j)) := by
  rintro G π cs H v w x y R Q A rv rw ⟨i, j, rfl, rfl, q⟩ k
  cases rv with
  | d rv => cases rv; cases rw with
    | d rw => cases rw; exact ⟨i, j, rfl, rfl, k _ _ _ _ _ _ .refl A (.d (.int _)) q⟩
theorem sim_B0 {g : Int → Int → Bool} : Sim2 K (rI0 fun i j => .bl (g i j)) (qI0 fun i j => .bool (g i j)) := by
  rintro G π cs H v w x y R Q A rv rw ⟨i, j, rfl, rfl, q⟩ k
  cases rv with
  | d rv => cases rv; cases rw with
    | d rw => cases rw; exact ⟨i, j, rfl, rfl, k _ _ _ _ _ _ .refl A (.d (.bl _)) q⟩
theorem sim_U {g : Int → Int} : Sim1 K (rU fun i => .int (g i)) (fun x cs R => ∃ i, x = si i ∧ R (si (g i)) cs) := by
  rintro G π cs H v x R Q A rv ⟨i, rfl, q⟩ k
  cases rv with
  | d rv => cases rv; exact ⟨i, rfl, k _ _ _ _ _ _ .refl A (.d (.int _)) q⟩
abbrev qAdd : RD2 := qI0 fun i j => .int (i + j)
abbrev qSub : RD2 := qI0 fun i j => .int (i - j)
abbrev qMul : RD2 := qI CMulW fun i j => .int (i * j)
abbrev qDiv : RD2 := qI CDivW fun i j => .int (i / j)
abbrev qMod : RD2 := qI (fun _ j => 0 < j) fun i j => .int (i % j)
abbrev qModN : RD2 := qI (fun _ j => j ≠ 0) fun i j => .int (i.fmod j)
abbrev qPow : RD2 := qI CPow fun i j => .int (i ^ j.toNat)
abbrev qLt : RD2 := qI0 fun i j => .bool (decide (i < j))
abbrev qLe : RD2 := qI0 fun i j => .bool (decide (i ≤ j))
abbrev qGt : RD2 := qI0 fun i j => .bool (decide (j < i))
abbrev qGe : RD2 := qI0 fun i j => .bool (decide (j ≤ i))
abbrev qNeg : RD1 := fun x cs R => ∃ i, x = si i ∧ R (si (-i)) cs
theorem ee_add (ha : PE X a (upE X.K ta)) (hb : PE X b (upE X.K tb)) : PE X (.BinOp a .Add b pos) (upE X.K (dOp qAdd ta tb)) := ee_op sim_I0 op_add ha hb
theorem ee_sub (ha : PE X a (upE X.K ta)) (hb : PE X b (upE X.K tb)) : PE X (.BinOp a .Sub b pos) (upE X.K (dOp qSub ta tb)) := ee_op sim_I0 op_sub ha hb
theorem ee_mul (ha : PE X a (upE X.K ta)) (hb : PE X b (upE X.K tb)) : PE X (.BinOp a .Mult b pos) (upE X.K (dOp qMul ta tb)) := ee_op sim_I op_mulW ha hb
theorem ee_div (ha : PE X a (upE X.K ta)) (hb : PE X b (upE X.K tb)) : PE X (.BinOp a .FloorDiv b pos) (upE X.K (dOp qDiv ta tb)) := ee_op sim_I op_fdivW ha hb
theorem ee_mod (ha : PE X a (upE X.K ta)) (hb : PE X b (upE X.K tb)) : PE X (.BinOp a .Mod b pos) (upE X.K (dOp qMod ta tb)) := ee_op sim_I op_mod ha hb
theorem ee_modN (ha : PE X a (upE X.K ta)) (hb : PE X b (upE X.K tb)) : PE X (.BinOp a .Mod b pos) (upE X.K (dOp qModN ta tb)) := ee_op sim_I op_modN ha hb
theorem ee_pow (ha : PE X a (upE X.K ta)) (hb : PE X b (upE X.K tb)) : PE X (.BinOp a .Pow b pos) (upE X.K (dOp qPow ta tb)) := ee_op sim_I op_pow ha hb
theorem ee_neg (ha : PE X a (upE X.K ta)) : PE X (.UnaryOp .USub a pos) (upE X.K (dUn qNeg ta)) := ee_un sim_U un_neg ha
theorem ee_lt (ha : PE X a (upE X.K ta)) (hb : PE X b (upE X.K tb)) : PE X (.Compare a [.Lt] [b] pos) (upE X.K (dOp qLt ta tb)) := ee_cmp sim_B0 op_lt ha hb (nomark _)
theorem ee_le (ha : PE X a (upE X.K ta)) (hb : PE X b (upE X.K tb)) : PE X (.Compare a [.LtE] [b] pos) (upE X.K (dOp qLe ta tb)) := ee_cmp sim_B0 op_le ha hb (nomark _)
theorem ee_gt (ha : PE X a (upE X.K ta)) (hb : PE X b (upE X.K tb)) : PE X (.Compare a [.Gt] [b] pos) (upE X.K (dOp qGt ta tb)) := ee_cmp sim_B0 op_gt ha hb (nomark _)
theorem ee_ge (ha : PE X a (upE X.K ta)) (hb : PE X b (upE X.K tb)) : PE X (.Compare a [.GtE] [b] pos) (upE X.K (dOp qGe ta tb)) := ee_cmp sim_B0 op_ge ha hb (nomark _)
theorem et_lt (ha : PE X a (upE X.K ta)) (hb : PE X b (upE X.K tb)) : PT X (.Compare a [.Lt] [b] pos) (upT X.K (dTestR (dOp qLt ta tb))) := et_cmp sim_B0 op_lt ha hb (nomark _)
theorem et_le (ha : PE X a (upE X.K ta)) (hb : PE X b (upE X.K tb)) : PT X (.Compare a [.LtE] [b] pos) (upT X.K (dTestR (dOp qLe ta tb))) := et_cmp sim_B0 op_le ha hb (nomark _)
theorem et_gt (ha : PE X a (upE X.K ta)) (hb : PE X b (upE X.K tb)) : PT X (.Compare a [.Gt] [b] pos) (upT X.K (dTestR (dOp qGt ta tb))) := et_cmp sim_B0 op_gt ha hb (nomark _)
theorem et_ge (ha : PE X a (upE X.K ta)) (hb : PE X b (upE X.K tb)) : PT X (.Compare a [.GtE] [b] pos) (upT X.K (dTestR (dOp qGe ta tb))) := et_cmp sim_B0 op_ge ha hb (nomark _)

/-! == and != of data; is None -/
def eqOk : PyData → PyData → Prop
  | .int _, .int _ => True
  | .bool _, .bool _ => True
  | .str _, .str _ => True
  | x, y => SeqAt.shaped x = true ∧ SeqAt.shaped y = true
def qEq : RD2 := fun x y cs R => ∃ d e, x = .d d ∧ y = .d e ∧ eqOk d e ∧ R (sb (PyData.eqv d e)) cs
def qNe : RD2 := fun x y cs R => ∃ d e, x = .d d ∧ y = .d e ∧ eqOk d e ∧ R (sb (!PyData.eqv d e)) cs
theorem str_beq_dec (a b : Str) : decide (V.str a = V.str b) = (a == b) := L2.dec_str
theorem sim_Eq : Sim2 K (fun x y H Q => rEq x y H Q ∨ rEqD K x y H Q) qEq := by
  rintro G π cs H v w x y R Q A rv rw ⟨d, e, rfl, rfl, hc, q⟩ k
  cases rv with
  | d rv => cases rw with
    | d rw =>
      have fin : ∀ b, b = PyData.eqv d e → Q (.bl b) H := fun b hb => k _ _ _ _ _ _ .refl A (.d (.bl b)) (hb ▸ q)
      have gen : SeqAt.shaped d = true ∧ SeqAt.shaped e = true → rEq v w H Q ∨ rEqD K v w H Q := fun h => .inr ⟨d, e, dp_mono A.kn rv, dp_mono A.kn rw, h.1, h.2, fin _ rfl⟩
      cases d <;> cases e <;> first
        | exact gen hc
        | (cases rv; cases rw; refine .inl ⟨rfl, fin _ ?_⟩; first | (rw [dec_int]; rfl) | (rw [dec_bl]; rfl) | (rw [L2.dec_str]; rfl))
theorem sim_Ne : Sim2 K (fun x y H Q => rNe x y H Q ∨ rNeD K x y H Q) qNe := by
  rintro G π cs H v w x y R Q A rv rw ⟨d, e, rfl, rfl, hc, q⟩ k
  cases rv with
  | d rv => cases rw with
    | d rw =>
      have fin : ∀ b, b = (!PyData.eqv d e) → Q (.bl b) H := fun b hb => k _ _ _ _ _ _ .refl A (.d (.bl b)) (hb ▸ q)
      have gen : SeqAt.shaped d = true ∧ SeqAt.shaped e = true → rNe v w H Q ∨ rNeD K v w H Q := fun h => .inr ⟨d, e, dp_mono A.kn rv, dp_mono A.kn rw, h.1, h.2, fin _ rfl⟩
      cases d <;> cases e <;> first
        | exact gen hc
        | (cases rv; cases rw; refine .inl ⟨rfl, fin _ ?_⟩; first | (rw [dec_int]; rfl) | (rw [dec_bl]; rfl) | (rw [L2.dec_str]; rfl))
theorem ee_eq (hu : X.A.units + 64 < cLine) (ha : PE X a (upE X.K ta)) (hb : PE X b (upE X.K tb)) : PE X (.Compare a [.Eq] [b] pos) (upE X.K (dOp qEq ta tb)) := ee_cmp sim_Eq (op_eq.or (op_eqD hu)) ha hb (nomark _)
theorem ee_ne (hu : X.A.units + 64 < cLine) (ha : PE X a (upE X.K ta)) (hb : PE X b (upE X.K tb)) : PE X (.Compare a [.NotEq] [b] pos) (upE X.K (dOp qNe ta tb)) := ee_cmp sim_Ne (op_ne.or (op_neD hu)) ha hb (nomark _)
theorem et_eq (hu : X.A.units + 64 < cLine) (ha : PE X a (upE X.K ta)) (hb : PE X b (upE X.K tb)) : PT X (.Compare a [.Eq] [b] pos) (upT X.K (dTestR (dOp qEq ta tb))) := et_cmp sim_Eq (op_eq.or (op_eqD hu)) ha hb (nomark _)
theorem et_ne (hu : X.A.units + 64 < cLine) (ha : PE X a (upE X.K ta)) (hb : PE X b (upE X.K tb)) : PT X (.Compare a [.NotEq] [b] pos) (upT X.K (dTestR (dOp qNe ta tb))) := et_cmp sim_Ne (op_ne.or (op_neD hu)) ha hb (nomark _)
def isNone : S → Bool
  | .d .none => true
  | _ => false
def qIsN : RD2 := fun x y cs R => y = .d .none ∧ R (sb (isNone x)) cs
def qNotN : RD2 := fun x y cs R => y = .d .none ∧ R (sb (!isNone x)) cs
theorem isNone_of {G : Hp} {π : List Addr} {v : V} {x : S} (r : RepS K G π v x) : decide (v = .non) = isNone x := by
  cases r with
  | d r => cases r <;> first | rfl | (refine decide_eq_false (fun z => ?_); cases z)
  | ref _ => exact decide_eq_false fun z => by cases z
theorem sim_IsN : Sim2 K (fun x y H Q => y = .non ∧ Q (.bl (decide (x = .non))) H) qIsN := by
  rintro G π cs H v w x y R Q A rv rw ⟨rfl, q⟩ k
  cases rw with
  | d rw => cases rw; exact ⟨rfl, k _ _ _ _ _ _ .refl A (.d (.bl _)) (by rw [isNone_of rv]; exact q)⟩
theorem sim_NotN : Sim2 K (fun x y H Q => y = .non ∧ Q (.bl (!decide (x = .non))) H) qNotN := by
  rintro G π cs H v w x y R Q A rv rw ⟨rfl, q⟩ k
  cases rw with
  | d rw => cases rw; exact ⟨rfl, k _ _ _ _ _ _ .refl A (.d (.bl _)) (by rw [isNone_of rv]; exact q)⟩
theorem ee_isN (ha : PE X a (upE X.K ta)) (hb : PE X b (upE X.K tb)) : PE X (.Compare a [.Is] [b] pos) (upE X.K (dOp qIsN ta tb)) := ee_cmp sim_IsN op_isN ha hb (nomark _)
theorem ee_notN (ha : PE X a (upE X.K ta)) (hb : PE X b (upE X.K tb)) : PE X (.Compare a [.IsNot] [b] pos) (upE X.K (dOp qNotN ta tb)) := ee_cmp sim_NotN op_notN ha hb (nomark _)
theorem et_isN (ha : PE X a (upE X.K ta)) (hb : PE X b (upE X.K tb)) : PT X (.Compare a [.Is] [b] pos) (upT X.K (dTestR (dOp qIsN ta tb))) := et_cmp sim_IsN op_isN ha hb (nomark _)
theorem et_notN (ha : PE X a (upE X.K ta)) (hb : PE X b (upE X.K tb)) : PT X (.Compare a [.IsNot] [b] pos) (upT X.K (dTestR (dOp qNotN ta tb))) := et_cmp sim_NotN op_notN ha hb (nomark _)
theorem up_chain {r r' : R2} {rd rd' : RD2} (h : Sim2 K r rd) (h' : Sim2 K r' rd') : ∀ σ H Q, upE K (dChain rd rd' ta tb tc) σ H Q → tChain r r' (upE K ta) (upE K tb) (upE K tc) σ H Q := by
  rintro σ H Q ⟨G, π, ρ, cs, R, A, s, q, k⟩
  refine ⟨G, π, ρ, cs, _, A, s, q, fun v1 H1 x cs1 G1 π1 E1 A1 r1 q1 => ⟨G1, π1, ρ, cs1, _, A1, s.ext E1, q1, fun v2 H2 y cs2 G2 π2 E2 A2 r2 q2 => ?_⟩⟩
  refine h G2 π2 cs2 H2 v1 v2 x y _ _ A2 (r1.ext E2) r2 q2 fun v3 H3 z cs3 G3 π3 E3 A3 r3 q3 => ?_
  obtain ⟨b, rfl, qt, qf⟩ := q3
  cases r3 with
  | d r3 =>
    cases r3
    refine ⟨b, rfl, ?_⟩
    cases b with
    | false => exact k _ _ _ _ _ _ (E1.trans (E2.trans E3)) A3 (.d (.bl false)) (qf rfl)
    | true =>
      refine ⟨G3, π3, ρ, cs3, _, A3, (s.ext E1).ext (E2.trans E3), qt rfl, fun v4 H4 u cs4 G4 π4 E4 A4 r4 q4 => ?_⟩
      exact h' G4 π4 cs4 H4 v2 v4 y u R Q A4 (r2.ext (E3.trans E4)) r4 q4 fun v5 H5 w cs5 G5 π5 E5 A5 r5 q5 => k _ _ _ _ _ _ (E1.trans (E2.trans (E3.trans (E4.trans E5)))) A5 r5 q5

/-! ### tests, and, or, not -/
def dTruR : S → Sto → (Bool → Sto → Prop) → Prop
  | .d .none, cs, R => R false cs
  | .d (.bool b), cs, R => R b cs
  | .d (.int i), cs, R => R (i != 0) cs
  | .d (.list ds), cs, R => R (!ds.isEmpty) cs
  | .d (.tuple ds), cs, R => R (!ds.isEmpty) cs
  | .d (.str z), cs, R => z.length ≤ sizeLine ∧ R ((z.length : Int) != 0) cs
  | .ref n, cs, R => ∃ xs, getC cs n = some xs ∧ R (!xs.isEmpty) cs
  | _, _, _ => False
def dTru (t : TD) : TTD := fun ρ cs R => t ρ cs fun x cs1 => dTruR x cs1 R
theorem isEmpty_repL {G : Hp} {π : List Addr} {vs : List V} {xs : List S} (r : RepL K G π vs xs) : vs.isEmpty = xs.isEmpty := by cases r <;> rfl
theorem isEmpty_dp {G : Hp} {vs : List V} {xs : List PyData} (r : DpAll K G vs xs) : vs.isEmpty = xs.isEmpty := by cases r <;> rfl
theorem tru_of {G H : Hp} {π : List Addr} {cs : Sto} {v : V} {x : S} {R : Bool → Sto → Prop} (A : At K G π cs H) (r : RepS K G π v x) (q : dTruR x cs R) : ∃ k, TruV K v H k ∧ R k cs := by
  cases r with
  | d r =>
    cases r with
    | non => exact ⟨false, rfl, q⟩
    | bl b => exact ⟨b, rfl, q⟩
    | int i => exact ⟨_, rfl, q⟩
    | str z => exact ⟨_, ⟨q.1, rfl⟩, q.2⟩
    | lst h ds => exact ⟨_, .inl ⟨_, A.kn.seq h, rfl⟩, by rw [isEmpty_dp ds]; exact q⟩
    | tup h ds => exact ⟨_, .inr (.inl ⟨_, seqT_mono A.kn h, rfl⟩), by rw [isEmpty_dp ds]; exact q⟩
  | ref h =>
    obtain ⟨xs, e, q⟩ := q
    obtain ⟨_, vs, e2, rl⟩ := A.st _ _ _ h (getC_eq e)
    exact ⟨_, .inl ⟨_, .of e2, rfl⟩, by rw [isEmpty_repL rl]; exact q⟩
theorem et_tru (ha : PE X a (upE X.K ta)) (he : ∀ whole, isTrue a X.env whole = (do let v ← whole; standAt a.pos; holding [v] (truthy v)) := by intro _; rfl) : PT X a (upT X.K (dTru ta)) := by
  refine (pt_truth ha he).weak ?_
  rintro σ H Q ⟨G, π, ρ, cs, R, A, s, q, k⟩
  refine ⟨G, π, ρ, cs, _, A, s, q, fun v1 H1 x cs1 G1 π1 E1 A1 r1 q1 => ?_⟩
  obtain ⟨b, h, q2⟩ := tru_of A1 r1 q1
  exact ⟨b, h, k _ _ _ _ _ E1 A1 q2⟩
variable {tt uu : TTD} {rest : List Expr}
def dAnd (t u : TTD) : TTD := fun ρ cs R => t ρ cs fun b cs1 => (b = true → u ρ cs1 R) ∧ (b = false → R false cs1)
def dOr (t u : TTD) : TTD := fun ρ cs R => t ρ cs fun b cs1 => (b = true → R true cs1) ∧ (b = false → u ρ cs1 R)
def dNot (t : TTD) : TTD := fun ρ cs R => t ρ cs fun b cs1 => R (!b) cs1
theorem ew_and1 (ha : PT X a (upT X.K tt)) : PW X (.BoolOp .And [a] pos) (upT X.K tt) := pw_and1 ha
theorem ew_or1 (ha : PT X a (upT X.K tt)) : PW X (.BoolOp .Or [a] pos) (upT X.K tt) := pw_or1 ha
theorem ew_and (ha : PT X a (upT X.K tt)) (hb : PW X (.BoolOp .And (b :: rest) pos) (upT X.K uu)) : PW X (.BoolOp .And (a :: b :: rest) pos) (upT X.K (dAnd tt uu)) := by
  refine (pw_and ha hb).weak ?_
  rintro σ H Q ⟨G, π, ρ, cs, R, A, s, q, k⟩
  refine ⟨G, π, ρ, cs, _, A, s, q, fun c H1 cs1 G1 π1 E1 A1 q1 => ?_⟩
  cases c with
  | true =>
    rw [if_pos rfl]
    exact ⟨G1, π1, ρ, cs1, R, A1, s.ext E1, q1.1 rfl, fun b H2 cs2 G2 π2 E2 A2 q2 => k _ _ _ _ _ (E1.trans E2) A2 q2⟩
  | false => exact k _ _ _ _ _ E1 A1 (q1.2 rfl)
theorem ew_or (ha : PT X a (upT X.K tt)) (hb : PW X (.BoolOp .Or (b :: rest) pos) (upT X.K uu)) : PW X (.BoolOp .Or (a :: b :: rest) pos) (upT X.K (dOr tt uu)) := by
  refine (pw_or ha hb).weak ?_
  rintro σ H Q ⟨G, π, ρ, cs, R, A, s, q, k⟩
  refine ⟨G, π, ρ, cs, _, A, s, q, fun c H1 cs1 G1 π1 E1 A1 q1 => ?_⟩
  cases c with
  | false =>
    rw [if_neg Bool.false_ne_true]
    exact ⟨G1, π1, ρ, cs1, R, A1, s.ext E1, q1.2 rfl, fun b H2 cs2 G2 π2 E2 A2 q2 => k _ _ _ _ _ (E1.trans E2) A2 q2⟩
  | true => exact k _ _ _ _ _ E1 A1 (q1.1 rfl)
theorem et_not (ha : PT X a (upT X.K tt)) : PT X (.UnaryOp .Not a pos) (upT X.K (dNot tt)) := by
  refine (pt_not ha).weak ?_
  rintro σ H Q ⟨G, π, ρ, cs, R, A, s, q, k⟩
  exact ⟨G, π, ρ, cs, _, A, s, q, fun c H1 cs1 G1 π1 E1 A1 q1 => k _ _ _ _ _ E1 A1 q1⟩
/-- .. as values, of bools -/
def dAndV (ta tb : TD) : TD := fun ρ cs R => ta ρ cs fun x cs1 => ∃ b, x = sb b ∧ (b = true → tb ρ cs1 R) ∧ (b = false → R (sb false) cs1)
def dOrV (ta tb : TD) : TD := fun ρ cs R => ta ρ cs fun x cs1 => ∃ b, x = sb b ∧ (b = true → R (sb true) cs1) ∧ (b = false → tb ρ cs1 R)
def dNotV (ta : TD) : TD := fun ρ cs R => ta ρ cs fun x cs1 => ∃ b, x = sb b ∧ R (sb (!b)) cs1
theorem ee_one {op} {t : TD} (h : PE X a (upE X.K t)) : PE X (.BoolOp op [a] pos) (upE X.K t) := pe_one h
theorem ee_and (ha : PE X a (upE X.K ta)) (hb : PE X (.BoolOp .And (b :: rest) pos) (upE X.K tb)) : PE X (.BoolOp .And (a :: b :: rest) pos) (upE X.K (dAndV ta tb)) := by
  refine (pe_and ha hb).weak ?_
  rintro σ H Q ⟨G, π, ρ, cs, R, A, s, q, k⟩
  refine ⟨G, π, ρ, cs, _, A, s, q, fun v1 H1 x cs1 G1 π1 E1 A1 r1 q1 => ?_⟩
  obtain ⟨c, rfl, qt, qf⟩ := q1
  cases r1 with
  | d r1 =>
    cases r1
    refine ⟨c, rfl, ?_⟩
    cases c with
    | true =>
      rw [if_pos rfl]
      exact ⟨G1, π1, ρ, cs1, R, A1, s.ext E1, qt rfl, fun _ _ _ _ _ _ E2 A2 r2 q2 => k _ _ _ _ _ _ (E1.trans E2) A2 r2 q2⟩
    | false => exact k _ _ _ _ _ _ E1 A1 (.d (.bl false)) (qf rfl)
theorem ee_or (ha : PE X a (upE X.K ta)) (hb : PE X (.BoolOp .Or (b :: rest) pos) (upE X.K tb)) : PE X (.BoolOp .Or (a :: b :: rest) pos) (upE X.K (dOrV ta tb)) := by
  refine (pe_or ha hb).weak ?_
  rintro σ H Q ⟨G, π, ρ, cs, R, A, s, q, k⟩
  refine ⟨G, π, ρ, cs, _, A, s, q, fun v1 H1 x cs1 G1 π1 E1 A1 r1 q1 => ?_⟩
  obtain ⟨c, rfl, qt, qf⟩ := q1
  cases r1 with
  | d r1 =>
    cases r1
    refine ⟨c, rfl, ?_⟩
    cases c with
    | false =>
      rw [if_neg Bool.false_ne_true]
      exact ⟨G1, π1, ρ, cs1, R, A1, s.ext E1, qf rfl, fun _ _ _ _ _ _ E2 A2 r2 q2 => k _ _ _ _ _ _ (E1.trans E2) A2 r2 q2⟩
    | true => exact k _ _ _ _ _ _ E1 A1 (.d (.bl true)) (qt rfl)
theorem ee_not (ha : PE X a (upE X.K ta)) : PE X (.UnaryOp .Not a pos) (upE X.K (dNotV ta)) := by
  refine (pe_not ha).weak ?_
  rintro σ H Q ⟨G, π, ρ, cs, R, A, s, q, k⟩
  refine ⟨G, π, ρ, cs, _, A, s, q, fun v1 H1 x cs1 G1 π1 E1 A1 r1 q1 => ?_⟩
  obtain ⟨c, rfl, q1⟩ := q1
  cases r1 with
  | d r1 =>
    cases r1
    exact ⟨c, rfl, k _ _ _ _ _ _ E1 A1 (.d (.bl _)) q1⟩
def dIf (t : TTD) (ta tb : TD) : TD := fun ρ cs R => t ρ cs fun b cs1 => (b = true → ta ρ cs1 R) ∧ (b = false → tb ρ cs1 R)
theorem ee_if (hc : PT X c (upT X.K tt)) (ha : PE X a (upE X.K ta)) (hb : PE X b (upE X.K tb)) : PE X (.IfExp c a b pos) (upE X.K (dIf tt ta tb)) := by
  refine (pe_ifExp hc ha hb).weak ?_
  rintro σ H Q ⟨G, π, ρ, cs, R, A, s, q, k⟩
  refine ⟨G, π, ρ, cs, _, A, s, q, fun c H1 cs1 G1 π1 E1 A1 q1 => ?_⟩
  cases c with
  | true =>
    rw [if_pos rfl]
    exact ⟨G1, π1, ρ, cs1, R, A1, s.ext E1, q1.1 rfl, fun _ _ _ _ _ _ E2 A2 r2 q2 => k _ _ _ _ _ _ (E1.trans E2) A2 r2 q2⟩
  | false =>
    rw [if_neg Bool.false_ne_true]
    exact ⟨G1, π1, ρ, cs1, R, A1, s.ext E1, q1.2 rfl, fun _ _ _ _ _ _ E2 A2 r2 q2 => k _ _ _ _ _ _ (E1.trans E2) A2 r2 q2⟩
end
end FL

set_option Elab.async false
set_option linter.all false
set_option maxRecDepth 100000
set_option maxHeartbeats 1000000
namespace FL
open PySem L2

section
variable {X : Cx} {K : PySem.W.Frag} {a b c e : Expr} {es : List Expr} {ta tb tc te : TD} {t : TAD} {pos : Pos}

/-! ### rows of arguments, displays -/
def dNil : TAD := fun _ cs R => R [] cs
def dCons (ta : TD) (t : TAD) : TAD := fun ρ cs R => ta ρ cs fun x cs1 => t ρ cs1 fun xs cs2 => R (x :: xs) cs2
theorem ea_nil : PA X [] (upA X.K dNil) := by
  refine pa_nil.weak ?_
  rintro σ H Q ⟨G, π, ρ, cs, R, A, s, q, k⟩
  exact k _ _ _ _ _ _ .refl A .nil q
theorem ea_cons (ha : PE X e (upE X.K te)) (hr : PA X es (upA X.K t)) (hs : starEach (e :: es) X.env = (false, eval e X.env) :: starEach es X.env := by rfl) : PA X (e :: es) (upA X.K (dCons te t)) := by
  refine (pa_cons ha hr hs).weak ?_
  rintro σ H Q ⟨G, π, ρ, cs, R, A, s, q, k⟩
  refine ⟨G, π, ρ, cs, _, A, s, q, fun v1 H1 x cs1 G1 π1 E1 A1 r1 q1 => ⟨G1, π1, ρ, cs1, _, A1, s.ext E1, q1, fun v2 H2 y cs2 G2 π2 E2 A2 r2 q2 => ?_⟩⟩
  exact k _ _ _ _ _ _ (E1.trans E2) A2 (.cons (r1.ext E2) r2) q2
def datas : List S → Option (List PyData)
  | [] => some []
  | .d x :: r => (datas r).map (x :: ·)
  | .ref _ :: _ => none
theorem datas_eq : ∀ {xs : List S} {ds : List PyData}, datas xs = some ds → xs = ds.map S.d
  | [], ds, h => by cases h; rfl
  | .d x :: r, ds, h => by
    unfold datas at h
    cases e : datas r with
    | none => rw [e] at h; cases h
    | some es => rw [e] at h; cases h; rw [List.map_cons, ← datas_eq e]
  | .ref _ :: _, ds, h => by cases h
theorem datas_map (ds : List PyData) : datas (ds.map S.d) = some ds := by
  induction ds with
  | nil => rfl
  | cons d ds ih => rw [List.map_cons, datas, ih]; rfl
def dTup (t : TAD) : TD := fun ρ cs R => t ρ cs fun xs cs1 => ∃ ds, datas xs = some ds ∧ ds.length ≤ sizeLine ∧ R (.d (.tuple ds)) cs1
def dLst (t : TAD) : TD := fun ρ cs R => t ρ cs fun xs cs1 => ∃ ds, datas xs = some ds ∧ ds.length ≤ sizeLine ∧ R (.d (.list ds)) cs1
/-- a list that will be written -/
def dLstM (t : TAD) : TD := fun ρ cs R => t ρ cs fun xs cs1 => xs.length ≤ sizeLine ∧ R (.ref cs1.length) (cs1 ++ [some xs])
theorem new_tup {G H : Hp} {π : List Addr} {cs : Sto} {vs : List V} {ds : List PyData} (A : At K G π cs H) (r : DpAll K G vs ds) {p : Addr} (hp : H p = none) :
    ∃ G', At K G' π cs (upd H p (.tup vs)) ∧ Ext G π H G' π (upd H p (.tup vs)) ∧ RepS K G' π (.ref p) (.d (.tuple ds)) := by
  obtain ⟨A1, E1⟩ := A.new hp (.tup vs)
  exact ⟨_, A1, E1, .d (.tup (.of upd_same) (dpAll_mono E1.g r))⟩
theorem new_lst {G H : Hp} {π : List Addr} {cs : Sto} {vs : List V} {ds : List PyData} (A : At K G π cs H) (r : DpAll K G vs ds) {p : Addr} (hp : H p = none) :
    ∃ G', At K G' π cs (upd H p (.lst vs)) ∧ Ext G π H G' π (upd H p (.lst vs)) ∧ RepS K G' π (.ref p) (.d (.list ds)) := by
  obtain ⟨A1, E1⟩ := A.new hp (.lst vs)
  exact ⟨_, A1, E1, .d (.lst (.of upd_same) (dpAll_mono E1.g r))⟩
theorem new_cell {G H : Hp} {π : List Addr} {cs : Sto} {vs : List V} {xs : List S} (A : At K G π cs H) (r : RepL K G π vs xs) {p : Addr} (hp : H p = none) :
    At K G (π ++ [p]) (cs ++ [some xs]) (upd H p (.lst vs)) ∧ Ext G π H G (π ++ [p]) (upd H p (.lst vs)) ∧ RepS K G (π ++ [p]) (.ref p) (.ref cs.length) := by
  obtain ⟨A1, E1⟩ := A.newM hp r
  exact ⟨A1, E1, .ref (by rw [← A.len]; simp)⟩
theorem ee_tup {x1} (h : PA X es (upA X.K t)) : PE X (.Tuple es x1 pos) (upE X.K (dTup t)) := by
  refine (pe_tup h).weak ?_
  rintro σ H Q ⟨G, π, ρ, cs, R, A, s, q, k⟩
  refine ⟨G, π, ρ, cs, _, A, s, q, fun vs H1 xs cs1 G1 π1 E1 A1 r1 q1 => ?_⟩
  obtain ⟨ds, e, z, q1⟩ := q1
  rw [datas_eq e] at r1
  refine ⟨by rw [r1.len, List.length_map]; exact z, fun p hp => ?_⟩
  obtain ⟨G2, A2, E2, r2⟩ := new_tup A1 (dpAll_of r1) hp
  exact k _ _ _ _ _ _ (E1.trans E2) A2 r2 q1
theorem ee_lst (h : PA X es (upA X.K t)) : PE X (.List es pos) (upE X.K (dLst t)) := by
  refine (pe_lst h).weak ?_
  rintro σ H Q ⟨G, π, ρ, cs, R, A, s, q, k⟩
  refine ⟨G, π, ρ, cs, _, A, s, q, fun vs H1 xs cs1 G1 π1 E1 A1 r1 q1 => ?_⟩
  obtain ⟨ds, e, z, q1⟩ := q1
  rw [datas_eq e] at r1
  refine ⟨by rw [r1.len, List.length_map]; exact z, fun p hp => ?_⟩
  obtain ⟨G2, A2, E2, r2⟩ := new_lst A1 (dpAll_of r1) hp
  exact k _ _ _ _ _ _ (E1.trans E2) A2 r2 q1
theorem ee_lstM (h : PA X es (upA X.K t)) : PE X (.List es pos) (upE X.K (dLstM t)) := by
  refine (pe_lst h).weak ?_
  rintro σ H Q ⟨G, π, ρ, cs, R, A, s, q, k⟩
  refine ⟨G, π, ρ, cs, _, A, s, q, fun vs H1 xs cs1 G1 π1 E1 A1 r1 q1 => ?_⟩
  refine ⟨by rw [r1.len]; exact q1.1, fun p hp => ?_⟩
  obtain ⟨A2, E2, r2⟩ := new_cell A1 r1 hp
  exact k _ _ _ _ _ _ (E1.trans E2) A2 r2 q1.2

/-! ### subscripts -/
def dIxR : S → S → Sto → RK → Prop
  | .d (.list ds), y, cs, R => ∃ i d, y = si i ∧ atI ds i = some d ∧ R (.d d) cs
  | .d (.tuple ds), y, cs, R => ∃ i d, y = si i ∧ atI ds i = some d ∧ R (.d d) cs
  | .d (.str z), y, cs, R => ∃ i c, y = si i ∧ z.length ≤ sizeLine ∧ atI z.cps.toList i = some c ∧ R (.d (.str ⟨#[c]⟩)) cs
  | .ref n, y, cs, R => ∃ i xs x, y = si i ∧ getC cs n = some xs ∧ atI xs i = some x ∧ R x cs
  | _, _, _, _ => False
theorem atI_rep {α β : Type} {F : α → β → Prop} {xs : List α} {ys : List β} {i : Int} {y : β} (hl : xs.length = ys.length) (g : ∀ (j : Nat) (y : β), ys[j]? = some y → ∃ x, xs[j]? = some x ∧ F x y) (h : atI ys i = some y) : ∃ x, atI xs i = some x ∧ F x y := by
  unfold atI at h ⊢
  rw [hl]
  cases e : ixN ys.length i with
  | none => rw [e] at h; cases h
  | some j =>
    rw [e] at h
    obtain ⟨x, h1, h2⟩ := g j y h
    exact ⟨x, h1, h2⟩
theorem sim_Ix : Sim2 K (rIx K) dIxR := by
  intro G π cs H v w x y R Q A rv rw q k
  cases rv with
  | d rv =>
    cases rv with
    | lst h r =>
      obtain ⟨i, d, rfl, e, q⟩ := q
      cases rw with
      | d rw =>
        cases rw
        obtain ⟨u, h1, h2⟩ := atI_rep (F := fun v d => Dp K G v d) (DpAll.len r) (fun j y e => DpAll.get r e) e
        exact .inl ⟨_, _, i, u, rfl, rfl, A.kn.seq h, h1, k _ _ _ _ _ _ .refl A (.d h2) q⟩
    | tup h r =>
      obtain ⟨i, d, rfl, e, q⟩ := q
      cases rw with
      | d rw =>
        cases rw
        obtain ⟨u, h1, h2⟩ := atI_rep (F := fun v d => Dp K G v d) (DpAll.len r) (fun j y e => DpAll.get r e) e
        exact .inr (.inl ⟨_, _, i, u, rfl, rfl, seqT_mono A.kn h, h1, k _ _ _ _ _ _ .refl A (.d h2) q⟩)
    | str z =>
      obtain ⟨i, c, rfl, hz, e, q⟩ := q
      cases rw with
      | d rw =>
        cases rw
        exact .inr (.inr ⟨z, i, c, rfl, rfl, hz, e, k _ _ _ _ _ _ .refl A (.d (.str _)) q⟩)
    | non => exact q.elim
    | bl => exact q.elim
    | int => exact q.elim
  | ref hn =>
    obtain ⟨i, xs, x, rfl, e1, e, q⟩ := q
    cases rw with
    | d rw =>
      cases rw
      obtain ⟨_, vs, e2, rl⟩ := A.st _ _ _ hn (getC_eq e1)
      obtain ⟨u, h1, h2⟩ := atI_rep (F := fun v d => RepS K G π v d) rl.len (fun j y e => RepL.get rl e) e
      exact .inl ⟨_, _, i, u, rfl, rfl, .of e2, h1, k _ _ _ _ _ _ .refl A h2 q⟩
theorem ee_ix (ha : PE X a (upE X.K ta)) (hb : PE X b (upE X.K tb)) (hs : PlainIx b := by exact fun _ _ => rfl) : PE X (.Subscript a b pos) (upE X.K (dOp dIxR ta tb)) := (pe_ix ix_seq ha hb hs).weak (up_op sim_Ix)
/-- x[k], k written -/
def ixkR (n : Nat) : S → Sto → RK → Prop
  | .d (.list ds), cs1, R => ∃ d, ds[n]? = some d ∧ R (.d d) cs1
  | .d (.tuple ds), cs1, R => ∃ d, ds[n]? = some d ∧ R (.d d) cs1
  | .ref m, cs1, R => ∃ xs x, getC cs1 m = some xs ∧ xs[n]? = some x ∧ R x cs1
  | _, _, _ => False
def dIxK (n : Nat) (ta : TD) : TD := fun ρ cs R => ta ρ cs fun x cs1 => ixkR n x cs1 R
theorem ee_ixk {n : Nat} {j : Nat} {pos2 : Pos} {i : Int} (hi : i = (n : Int)) (ha : PE X a (upE X.K ta)) (hs : PlainIx (.Constant (.int i) j pos2) := by exact fun _ _ => rfl) :
    PE X (.Subscript a (.Constant (.int i) j pos2) pos) (upE X.K (dIxK n ta)) := by
  subst hi
  refine (pe_ix ix_seq ha ee_int hs).weak ?_
  rintro σ H Q ⟨G, π, ρ, cs, R, A, s, q, k⟩
  refine ⟨G, π, ρ, cs, _, A, s, q, fun v1 H1 x cs1 G1 π1 E1 A1 r1 q1 => ⟨G1, π1, ρ, cs1, _, A1, s.ext E1, (show dC (.int (n : Int)) ρ cs1 (fun z cs2 => z = si (n : Int) ∧ cs2 = cs1) from ⟨rfl, rfl⟩), fun v2 H2 y cs2 G2 π2 E2 A2 r2 q2 => ?_⟩⟩
  obtain ⟨rfl, rfl⟩ := q2
  refine sim_Ix G2 π2 cs2 H2 v1 v2 x _ R Q A2 (r1.ext E2) r2 ?_ fun v3 H3 z cs3 G3 π3 E3 A3 r3 q3 => k _ _ _ _ _ _ (E1.trans (E2.trans E3)) A3 r3 q3
  cases x with
  | d x =>
    cases x with
    | list ds => obtain ⟨d, e, q⟩ := q1; exact ⟨_, d, rfl, atI_nat e, q⟩
    | tuple ds => obtain ⟨d, e, q⟩ := q1; exact ⟨_, d, rfl, atI_nat e, q⟩
    | _ => exact q1.elim
  | ref m => obtain ⟨xs, x, e0, e, q⟩ := q1; exact ⟨_, xs, x, rfl, e0, atI_nat e, q⟩
/-! slices -/
abbrev TOD := Ev → Sto → (Option Int → Sto → Prop) → Prop
def upO (K : PySem.W.Frag) (t : TOD) : TO := fun σ H Q => ∃ G π ρ cs R, At K G π cs H ∧ Sl K G π σ ρ ∧ t ρ cs R ∧ ∀ o H' cs' G' π', Ext G π H G' π' H' → At K G' π' cs' H' → R o cs' → Q o H'
theorem _root_.L2.PO.weak {e : Option Expr} {t t' : TO} (h : PO X e t) (hw : ∀ σ H Q, t' σ H Q → t σ H Q) : PO X e t' := ⟨fun pins s σ H Q I q => h.run pins s σ H Q I (hw _ _ _ q)⟩
def dNoPart : TOD := fun _ cs R => R none cs
def dPart (t : TD) : TOD := fun ρ cs R => t ρ cs fun x cs1 => ∃ i, x = si i ∧ R (some i) cs1
theorem eo_none : PO X none (upO X.K dNoPart) := by
  refine po_none.weak ?_
  rintro σ H Q ⟨G, π, ρ, cs, R, A, s, q, k⟩
  exact k _ _ _ _ _ .refl A q
theorem eo_some (h : PE X e (upE X.K te)) : PO X (some e) (upO X.K (dPart te)) := by
  refine (po_some h).weak ?_
  rintro σ H Q ⟨G, π, ρ, cs, R, A, s, q, k⟩
  refine ⟨G, π, ρ, cs, _, A, s, q, fun v1 H1 x cs1 G1 π1 E1 A1 r1 q1 => ?_⟩
  obtain ⟨i, rfl, q1⟩ := q1
  cases r1 with
  | d r1 => cases r1; exact ⟨i, rfl, k _ _ _ _ _ E1 A1 q1⟩
def cutD {α : Type} (xs : List α) (lo hi : Option Int) : List α := (xs.drop (HT.sIx xs.length 0 lo)).take (HT.sIx xs.length xs.length hi - HT.sIx xs.length 0 lo)
theorem cut_whole {α : Type} {xs : List α} {lo hi : Option Int} (h1 : HT.sIx xs.length 0 lo = 0) (h2 : HT.sIx xs.length xs.length hi = xs.length) : cutD xs lo hi = xs := by
  unfold cutD
  rw [h1, h2, List.drop_zero, Nat.sub_zero, List.take_length]
def dSlR : S → Option Int → Option Int → Sto → RK → Prop
  | .d (.list ds), lo, hi, cs, R => R (.d (.list (cutD ds lo hi))) cs
  | .d (.tuple ds), lo, hi, cs, R => R (.d (.tuple (cutD ds lo hi))) cs
  | .ref n, lo, hi, cs, R => ∃ ds, getC cs n = some (ds.map S.d) ∧ R (.d (.list (cutD ds lo hi))) cs
  | _, _, _, _, _ => False
def dSl (te : TD) (tl th : TOD) : TD := fun ρ cs R => te ρ cs fun x cs1 => tl ρ cs1 fun l cs2 => th ρ cs2 fun u cs3 => dSlR x l u cs3 R
theorem cut_dp {G : Hp} {vs : List V} {ds : List PyData} (r : DpAll K G vs ds) (lo hi : Option Int) : DpAll K G (cutV vs lo hi) (cutD ds lo hi) := by
  unfold cutV cutD
  rw [DpAll.len r]
  exact DpAll.take _ (DpAll.drop _ r)
theorem ee_sl {lo hi : Option Expr} {tl th : TOD} {p2 : Pos} (he : PE X e (upE X.K te)) (hl : PO X lo (upO X.K tl)) (hu : PO X hi (upO X.K th)) : PE X (.Subscript e (.Slice lo hi none p2) pos) (upE X.K (dSl te tl th)) := by
  refine (pe_slice (sl_list.or sl_tupA) he hl hu).weak ?_
  rintro σ H Q ⟨G, π, ρ, cs, R, A, s, q, k⟩
  refine ⟨G, π, ρ, cs, _, A, s, q, fun v1 H1 x cs1 G1 π1 E1 A1 r1 q1 => ⟨G1, π1, ρ, cs1, _, A1, s.ext E1, q1, fun l H2 cs2 G2 π2 E2 A2 q2 => ⟨G2, π2, ρ, cs2, _, A2, (s.ext E1).ext E2, q2, fun u H3 cs3 G3 π3 E3 A3 q3 => ?_⟩⟩⟩
  have r3 := (r1.ext E2).ext E3
  have E := E1.trans (E2.trans E3)
  cases r3 with
  | d r =>
    cases r with
    | lst h r =>
      refine .inl ⟨_, _, rfl, A3.kn.seq h, fun p hp => ?_⟩
      obtain ⟨G4, A4, E4, r4⟩ := new_lst A3 (cut_dp r l u) hp
      exact k _ _ _ _ _ _ (E.trans E4) A4 r4 q3
    | tup h r =>
      refine .inr ⟨_, _, rfl, seqT_mono A3.kn h, fun hw => ?_, fun _ p hp => ?_⟩
      · rw [DpAll.len r] at hw
        have q3' : R (.d (.tuple (cutD _ l u))) cs3 := q3
        rw [cut_whole hw.1 hw.2] at q3'
        exact k _ _ _ _ _ _ E A3 (.d (.tup h r)) q3'
      · obtain ⟨G4, A4, E4, r4⟩ := new_tup A3 (cut_dp r l u) hp
        exact k _ _ _ _ _ _ (E.trans E4) A4 r4 q3
    | non => exact q3.elim
    | bl => exact q3.elim
    | int => exact q3.elim
    | str => exact q3.elim
  | ref hn =>
    obtain ⟨ds, e1, q3⟩ := q3
    obtain ⟨_, vs, e2, rl⟩ := A3.st _ _ _ hn (getC_eq e1)
    refine .inl ⟨_, _, rfl, .of e2, fun p hp => ?_⟩
    obtain ⟨G4, A4, E4, r4⟩ := new_lst A3 (cut_dp (dpAll_of rl) l u) hp
    exact k _ _ _ _ _ _ (E.trans E4) A4 r4 q3
end
end FL

set_option Elab.async false
set_option linter.all false
set_option maxRecDepth 100000
set_option maxHeartbeats 1000000
namespace FL
open PySem L2

section
variable {X : Cx} {K : PySem.W.Frag} {a b c e : Expr} {es : List Expr} {ta tb tc te : TD} {t : TAD} {pos p : Pos} {x : Str}

/-! ### calls of built-ins -/
def dCB (rd : RDL) (t : TAD) : TD := fun ρ cs R => t ρ cs fun xs cs1 => rd xs cs1 R
theorem up_CB {r : List V → Hp → VK → Prop} {rd : RDL} (h : SimL K r rd) : ∀ σ H Q, upE K (dCB rd t) σ H Q → tCB r (upA K t) σ H Q := by
  rintro σ H Q ⟨G, π, ρ, cs, R, A, s, q, k⟩
  refine ⟨G, π, ρ, cs, _, A, s, q, fun vs H1 xs cs1 G1 π1 E1 A1 r1 q1 => ?_⟩
  exact h G1 π1 cs1 H1 vs xs R Q A1 r1 q1 fun v3 H3 z cs3 G3 π3 E3 A3 r3 q3 => k _ _ _ _ _ _ (E1.trans E3) A3 r3 q3
theorem ee_callB {r : List V → Hp → VK → Prop} {rd : RDL} {id : String} (h : SimL X.K r rd) (hc : CallR X (.builtin id) r) (hg : Gl X x) (hm : X.mg x = none) (hv : bootBuiltins x = some (.builtin id)) (ha : PA X (e :: es) (upA X.K t)) (hn : x ≠ "__name__" := by decide) (hdb : (x == ("__debug__" : Str)) = false := by decide)
    (he : starEach (e :: es) X.env = (false, eval e X.env) :: starEach es X.env := by rfl) (hpl : (backTo pos (starEach es X.env)).any (·.1) = false := by rfl) : PE X (.Call (.Name x p) (e :: es) [] pos) (upE X.K (dCB rd t)) :=
  (pe_callB hc hg hm hv ha hn hdb he hpl).weak (up_CB h)
theorem ee_callTy {r : List V → Hp → VK → Prop} {rd : RDL} {T : String} (h : SimL X.K r rd) (hc : CallR X (.type T) r) (hg : Gl X x) (hm : X.mg x = none) (hv : bootBuiltins x = some (.type T)) (ha : PA X (e :: es) (upA X.K t)) (hn : x ≠ "__name__" := by decide) (hdb : (x == ("__debug__" : Str)) = false := by decide)
    (he : starEach (e :: es) X.env = (false, eval e X.env) :: starEach es X.env := by rfl) (hpl : (backTo pos (starEach es X.env)).any (·.1) = false := by rfl) : PE X (.Call (.Name x p) (e :: es) [] pos) (upE X.K (dCB rd t)) :=
  (pe_callTy hc hg hm hv ha hn hdb he hpl).weak (up_CB h)

theorem repL_one {G : Hp} {π : List Addr} {vs : List V} {x : S} (r : RepL K G π vs [x]) : ∃ v, vs = [v] ∧ RepS K G π v x := by
  cases r with
  | cons r rr => cases rr; exact ⟨_, rfl, r⟩
theorem repL_two {G : Hp} {π : List Addr} {vs : List V} {x y : S} (r : RepL K G π vs [x, y]) : ∃ v w, vs = [v, w] ∧ RepS K G π v x ∧ RepS K G π w y := by
  cases r with
  | cons r rr => cases rr with
    | cons r' rr => cases rr; exact ⟨_, _, rfl, r, r'⟩
theorem rep_int {G : Hp} {π : List Addr} {v : V} {i : Int} (r : RepS K G π v (si i)) : v = .int i := by
  cases r with
  | d r => cases r; rfl
theorem rep_bl {G : Hp} {π : List Addr} {v : V} {i : Bool} (r : RepS K G π v (sb i)) : v = .bl i := by
  cases r with
  | d r => cases r; rfl
/-- a list that is read: its address, its values -/
theorem rep_list {G H : Hp} {π : List Addr} {cs : Sto} {v : V} {ds : List PyData} (A : At K G π cs H) (r : RepS K G π v (.d (.list ds))) : ∃ p vs, v = .ref p ∧ SqL K H p vs ∧ DpAll K G vs ds := by
  cases r with
  | d r => cases r with
    | lst h r => exact ⟨_, _, rfl, A.kn.seq h, r⟩
theorem rep_tup {G H : Hp} {π : List Addr} {cs : Sto} {v : V} {ds : List PyData} (A : At K G π cs H) (r : RepS K G π v (.d (.tuple ds))) : ∃ p vs, v = .ref p ∧ SqT K H p vs ∧ DpAll K G vs ds := by
  cases r with
  | d r => cases r with
    | tup h r => exact ⟨_, _, rfl, seqT_mono A.kn h, r⟩
theorem rep_ref {G H : Hp} {π : List Addr} {cs : Sto} {v : V} {n : Nat} {xs : List S} (A : At K G π cs H) (r : RepS K G π v (.ref n)) (e : getC cs n = some xs) : ∃ p vs, v = .ref p ∧ π[n]? = some p ∧ H p = some (.lst vs) ∧ RepL K G π vs xs := by
  cases r with
  | ref h =>
    obtain ⟨_, vs, e2, rl⟩ := A.st _ _ _ h (getC_eq e)
    exact ⟨_, vs, rfl, h, e2, rl⟩

/-- abs(n) -/
def cAbs : RDL := fun xs cs R => ∃ i, xs = [si i] ∧ R (si (if i < 0 then -i else i)) cs
theorem sim_abs : SimL K (fun xs H Q => ∃ i, xs = [.int i] ∧ Q (.int (if i < 0 then -i else i)) H) cAbs := by
  rintro G π cs H vs xs R Q A r ⟨i, rfl, q⟩ k
  obtain ⟨v, rfl, r0⟩ := repL_one r
  rw [rep_int r0]
  exact ⟨i, rfl, k _ _ _ _ _ _ .refl A (.d (.int _)) q⟩
theorem ec_abs (hg : Gl X "abs") (hm : X.mg "abs" = none) (ha : PA X (e :: es) (upA X.K t)) (he : starEach (e :: es) X.env = (false, eval e X.env) :: starEach es X.env := by rfl) (hpl : (backTo pos (starEach es X.env)).any (·.1) = false := by rfl) :
    PE X (.Call (.Name "abs" p) (e :: es) [] pos) (upE X.K (dCB cAbs t)) := ee_callB sim_abs call_abs hg hm (by decide +kernel) ha (by decide) (by decide) he hpl
/-- max(a, b), min(a, b) -/
def cMax2 : RDL := fun xs cs R => ∃ i j, xs = [si i, si j] ∧ R (si (if j > i then j else i)) cs
def cMin2 : RDL := fun xs cs R => ∃ i j, xs = [si i, si j] ∧ R (si (if j < i then j else i)) cs
theorem sim_max2 : SimL K (fun xs H Q => ∃ i j, xs = [.int i, .int j] ∧ Q (.int (if j > i then j else i)) H) cMax2 := by
  rintro G π cs H vs xs R Q A r ⟨i, j, rfl, q⟩ k
  obtain ⟨v, w, rfl, r0, r1⟩ := repL_two r
  rw [rep_int r0, rep_int r1]
  exact ⟨i, j, rfl, k _ _ _ _ _ _ .refl A (.d (.int _)) q⟩
theorem sim_min2 : SimL K (fun xs H Q => ∃ i j, xs = [.int i, .int j] ∧ Q (.int (if j < i then j else i)) H) cMin2 := by
  rintro G π cs H vs xs R Q A r ⟨i, j, rfl, q⟩ k
  obtain ⟨v, w, rfl, r0, r1⟩ := repL_two r
  rw [rep_int r0, rep_int r1]
  exact ⟨i, j, rfl, k _ _ _ _ _ _ .refl A (.d (.int _)) q⟩
theorem ec_max2 (hc : X.calm = true) (hg : Gl X "max") (hm : X.mg "max" = none) (ha : PA X (e :: es) (upA X.K t)) (he : starEach (e :: es) X.env = (false, eval e X.env) :: starEach es X.env := by rfl) (hpl : (backTo pos (starEach es X.env)).any (·.1) = false := by rfl) :
    PE X (.Call (.Name "max" p) (e :: es) [] pos) (upE X.K (dCB cMax2 t)) := ee_callB sim_max2 (call_max2 hc) hg hm (by decide +kernel) ha (by decide) (by decide) he hpl
theorem ec_min2 (hc : X.calm = true) (hg : Gl X "min") (hm : X.mg "min" = none) (ha : PA X (e :: es) (upA X.K t)) (he : starEach (e :: es) X.env = (false, eval e X.env) :: starEach es X.env := by rfl) (hpl : (backTo pos (starEach es X.env)).any (·.1) = false := by rfl) :
    PE X (.Call (.Name "min" p) (e :: es) [] pos) (upE X.K (dCB cMin2 t)) := ee_callB sim_min2 (call_min2 hc) hg hm (by decide +kernel) ha (by decide) (by decide) he hpl
/-- int(n), int(b) -/
def cInt : RDL
  | [.d (.int i)], cs, R => R (si i) cs
  | [.d (.bool b)], cs, R => R (si (if b then 1 else 0)) cs
  | _, _, _ => False
theorem sim_int : SimL K (fun xs H Q => (∃ i, xs = [.int i] ∧ Q (.int i) H) ∨ ∃ k, xs = [.bl k] ∧ Q (.int (if k then 1 else 0)) H) cInt := by
  intro G π cs H vs xs R Q A r q k
  unfold cInt at q
  split at q
  · obtain ⟨v, rfl, r0⟩ := repL_one r
    rw [rep_int r0]
    exact .inl ⟨_, rfl, k _ _ _ _ _ _ .refl A (.d (.int _)) q⟩
  · obtain ⟨v, rfl, r0⟩ := repL_one r
    rw [rep_bl r0]
    exact .inr ⟨_, rfl, k _ _ _ _ _ _ .refl A (.d (.int _)) q⟩
  · exact q.elim
theorem ec_int (hg : Gl X "int") (hm : X.mg "int" = none) (ha : PA X (e :: es) (upA X.K t)) (he : starEach (e :: es) X.env = (false, eval e X.env) :: starEach es X.env := by rfl) (hpl : (backTo pos (starEach es X.env)).any (·.1) = false := by rfl) :
    PE X (.Call (.Name "int" p) (e :: es) [] pos) (upE X.K (dCB cInt t)) := ee_callTy sim_int call_int1 hg hm (by decide +kernel) ha (by decide) (by decide) he hpl
/-- len(x) -/
def cLen : RDL
  | [.d (.list ds)], cs, R => R (si (ds.length : Int)) cs
  | [.d (.tuple ds)], cs, R => R (si (ds.length : Int)) cs
  | [.d (.str z)], cs, R => z.length ≤ sizeLine ∧ R (si (z.length : Int)) cs
  | [.ref n], cs, R => ∃ xs, getC cs n = some xs ∧ R (si (xs.length : Int)) cs
  | _, _, _ => False
theorem sim_len : SimL K (fun xs H Q => (∃ p ys, xs = [.ref p] ∧ (SqL K H p ys ∨ SqT K H p ys) ∧ Q (.int ys.length) H) ∨ ∃ z, xs = [.str z] ∧ z.length ≤ sizeLine ∧ Q (.int z.length) H) cLen := by
  intro G π cs H vs xs R Q A r q k
  unfold cLen at q
  split at q
  · obtain ⟨v, rfl, r0⟩ := repL_one r
    obtain ⟨p, vs, rfl, h, rr⟩ := rep_list A r0
    exact .inl ⟨p, vs, rfl, .inl h, by rw [DpAll.len rr]; exact k _ _ _ _ _ _ .refl A (.d (.int _)) q⟩
  · obtain ⟨v, rfl, r0⟩ := repL_one r
    obtain ⟨p, vs, rfl, h, rr⟩ := rep_tup A r0
    exact .inl ⟨p, vs, rfl, .inr h, by rw [DpAll.len rr]; exact k _ _ _ _ _ _ .refl A (.d (.int _)) q⟩
  · obtain ⟨v, rfl, r0⟩ := repL_one r
    cases r0 with
    | d r => cases r; exact .inr ⟨_, rfl, q.1, k _ _ _ _ _ _ .refl A (.d (.int _)) q.2⟩
  · obtain ⟨v, rfl, r0⟩ := repL_one r
    obtain ⟨ys, e, q⟩ := q
    obtain ⟨p, vs, rfl, _, h, rr⟩ := rep_ref A r0 e
    exact .inl ⟨p, vs, rfl, .inl (.of h), by rw [rr.len]; exact k _ _ _ _ _ _ .refl A (.d (.int _)) q⟩
  · exact q.elim
theorem ec_len (hg : Gl X "len") (hm : X.mg "len" = none) (ha : PA X (e :: es) (upA X.K t)) (he : starEach (e :: es) X.env = (false, eval e X.env) :: starEach es X.env := by rfl) (hpl : (backTo pos (starEach es X.env)).any (·.1) = false := by rfl) :
    PE X (.Call (.Name "len" p) (e :: es) [] pos) (upE X.K (dCB cLen t)) := ee_callB sim_len (call_len_seq.or call_len_str) hg hm PySem.boot_len ha (by decide) (by decide) he hpl
/-- sum(xs) of ints -/
def intsOf : List PyData → Option (List Int)
  | [] => some []
  | .int i :: r => (intsOf r).map (i :: ·)
  | _ :: _ => none
theorem intsOf_eq : ∀ {ds : List PyData} {ns : List Int}, intsOf ds = some ns → ds = ns.map PyData.int
  | [], ns, h => by cases h; rfl
  | d :: r, ns, h => by
    cases d <;> try (cases h; done)
    unfold intsOf at h
    cases e : intsOf r with
    | none => rw [e] at h; cases h
    | some es => rw [e] at h; cases h; rw [List.map_cons, ← intsOf_eq e]
theorem intsOf_map (ns : List Int) : intsOf (ns.map PyData.int) = some ns := by
  induction ns with
  | nil => rfl
  | cons d ds ih => rw [List.map_cons, intsOf, ih]; rfl
theorem dp_ints {G : Hp} : ∀ {ns : List Int} {vs : List V}, DpAll K G vs (ns.map PyData.int) → vs = ns.map V.int
  | [], _, h => by cases h; rfl
  | n :: ns, _, h => by
    cases h with
    | cons h r => cases h; rw [dp_ints r]; rfl
def cSum : RDL
  | [.d (.list ds)], cs, R => ∃ ns, intsOf ds = some ns ∧ R (si ns.sum) cs
  | [.ref n], cs, R => ∃ xs ds ns, getC cs n = some xs ∧ datas xs = some ds ∧ intsOf ds = some ns ∧ R (si ns.sum) cs
  | _, _, _ => False
theorem sim_sum : SimL K (rSum K) cSum := by
  intro G π cs H vs xs R Q A r q k
  unfold cSum at q
  split at q
  · obtain ⟨ns, e, q⟩ := q
    obtain ⟨v, rfl, r0⟩ := repL_one r
    obtain ⟨p, vs, rfl, h, rr⟩ := rep_list A r0
    rw [intsOf_eq e] at rr
    rw [dp_ints rr] at h
    exact ⟨p, ns, rfl, h, k _ _ _ _ _ _ .refl A (.d (.int _)) q⟩
  · obtain ⟨ys, ds, ns, e, e2, e3, q⟩ := q
    obtain ⟨v, rfl, r0⟩ := repL_one r
    obtain ⟨p, vs, rfl, _, h, rr⟩ := rep_ref A r0 e
    rw [datas_eq e2] at rr
    have rr := dpAll_of rr
    rw [intsOf_eq e3] at rr
    rw [dp_ints rr] at h
    exact ⟨p, ns, rfl, .of h, k _ _ _ _ _ _ .refl A (.d (.int _)) q⟩
  · exact q.elim
theorem ec_sum (hc : X.calm = true) (hg : Gl X "sum") (hm : X.mg "sum" = none) (ha : PA X (e :: es) (upA X.K t)) (he : starEach (e :: es) X.env = (false, eval e X.env) :: starEach es X.env := by rfl) (hpl : (backTo pos (starEach es X.env)).any (·.1) = false := by rfl) :
    PE X (.Call (.Name "sum" p) (e :: es) [] pos) (upE X.K (dCB cSum t)) := ee_callB sim_sum (cr_sum hc) hg hm (by decide +kernel) ha (by decide) (by decide) he hpl
/-- tuple(x) -/
def cTup : RDL
  | [.d (.list ds)], cs, R => R (.d (.tuple ds)) cs
  | [.d (.tuple ds)], cs, R => R (.d (.tuple ds)) cs
  | [.ref n], cs, R => ∃ xs ds, getC cs n = some xs ∧ datas xs = some ds ∧ R (.d (.tuple ds)) cs
  | _, _, _ => False
theorem sim_tupC : SimL K (fun xs H Q => ∃ p ys, xs = [.ref p] ∧ ((SqL K H p ys ∧ ∀ l, H l = none → Q (.ref l) (upd H l (.tup ys))) ∨ (SqT K H p ys ∧ Q (.ref p) H))) cTup := by
  intro G π cs H vs xs R Q A r q k
  unfold cTup at q
  split at q
  · obtain ⟨v, rfl, r0⟩ := repL_one r
    obtain ⟨p, vs, rfl, h, rr⟩ := rep_list A r0
    refine ⟨p, vs, rfl, .inl ⟨h, fun l hl => ?_⟩⟩
    obtain ⟨G2, A2, E2, r2⟩ := new_tup A rr hl
    exact k _ _ _ _ _ _ E2 A2 r2 q
  · obtain ⟨v, rfl, r0⟩ := repL_one r
    obtain ⟨p, vs, rfl, h, rr⟩ := rep_tup A r0
    exact ⟨p, vs, rfl, .inr ⟨h, k _ _ _ _ _ _ .refl A r0 q⟩⟩
  · obtain ⟨ys, ds, e, e2, q⟩ := q
    obtain ⟨v, rfl, r0⟩ := repL_one r
    obtain ⟨p, vs, rfl, _, h, rr⟩ := rep_ref A r0 e
    rw [datas_eq e2] at rr
    refine ⟨p, vs, rfl, .inl ⟨.of h, fun l hl => ?_⟩⟩
    obtain ⟨G2, A2, E2, r2⟩ := new_tup A (dpAll_of rr) hl
    exact k _ _ _ _ _ _ E2 A2 r2 q
  · exact q.elim
theorem ec_tuple (hg : Gl X "tuple") (hm : X.mg "tuple" = none) (ha : PA X (e :: es) (upA X.K t)) (he : starEach (e :: es) X.env = (false, eval e X.env) :: starEach es X.env := by rfl) (hpl : (backTo pos (starEach es X.env)).any (·.1) = false := by rfl) :
    PE X (.Call (.Name "tuple" p) (e :: es) [] pos) (upE X.K (dCB cTup t)) := ee_callTy sim_tupC call_tuple_of hg hm (by decide +kernel) ha (by decide) (by decide) he hpl
/-- list(x): a new list; one that will be written -/
def cList : RDL
  | [.d (.list ds)], cs, R => R (.d (.list ds)) cs
  | [.d (.tuple ds)], cs, R => R (.d (.list ds)) cs
  | [.ref n], cs, R => ∃ xs ds, getC cs n = some xs ∧ datas xs = some ds ∧ R (.d (.list ds)) cs
  | _, _, _ => False
def cListM : RDL
  | [.d (.list ds)], cs, R => R (.ref cs.length) (cs ++ [some (ds.map S.d)])
  | [.d (.tuple ds)], cs, R => R (.ref cs.length) (cs ++ [some (ds.map S.d)])
  | [.ref n], cs, R => ∃ xs, getC cs n = some xs ∧ R (.ref cs.length) (cs ++ [some xs])
  | _, _, _ => False
abbrev rListOf (K : PySem.W.Frag) : List V → Hp → VK → Prop := fun xs H Q => ∃ p ys, xs = [.ref p] ∧ (SqL K H p ys ∨ SqT K H p ys) ∧ ∀ l, H l = none → Q (.ref l) (upd H l (.lst ys))
theorem sim_listC : SimL K (rListOf K) cList := by
  intro G π cs H vs xs R Q A r q k
  unfold cList at q
  split at q
  · obtain ⟨v, rfl, r0⟩ := repL_one r
    obtain ⟨p, vs, rfl, h, rr⟩ := rep_list A r0
    refine ⟨p, vs, rfl, .inl h, fun l hl => ?_⟩
    obtain ⟨G2, A2, E2, r2⟩ := new_lst A rr hl
    exact k _ _ _ _ _ _ E2 A2 r2 q
  · obtain ⟨v, rfl, r0⟩ := repL_one r
    obtain ⟨p, vs, rfl, h, rr⟩ := rep_tup A r0
    refine ⟨p, vs, rfl, .inr h, fun l hl => ?_⟩
    obtain ⟨G2, A2, E2, r2⟩ := new_lst A rr hl
    exact k _ _ _ _ _ _ E2 A2 r2 q
  · obtain ⟨ys, ds, e, e2, q⟩ := q
    obtain ⟨v, rfl, r0⟩ := repL_one r
    obtain ⟨p, vs, rfl, _, h, rr⟩ := rep_ref A r0 e
    rw [datas_eq e2] at rr
    refine ⟨p, vs, rfl, .inl (.of h), fun l hl => ?_⟩
    obtain ⟨G2, A2, E2, r2⟩ := new_lst A (dpAll_of rr) hl
    exact k _ _ _ _ _ _ E2 A2 r2 q
  · exact q.elim
theorem sim_listM : SimL K (rListOf K) cListM := by
  intro G π cs H vs xs R Q A r q k
  unfold cListM at q
  split at q
  · obtain ⟨v, rfl, r0⟩ := repL_one r
    obtain ⟨p, vs, rfl, h, rr⟩ := rep_list A r0
    refine ⟨p, vs, rfl, .inl h, fun l hl => ?_⟩
    obtain ⟨A2, E2, r2⟩ := new_cell A (repL_d rr) hl
    exact k _ _ _ _ _ _ E2 A2 r2 q
  · obtain ⟨v, rfl, r0⟩ := repL_one r
    obtain ⟨p, vs, rfl, h, rr⟩ := rep_tup A r0
    refine ⟨p, vs, rfl, .inr h, fun l hl => ?_⟩
    obtain ⟨A2, E2, r2⟩ := new_cell A (repL_d rr) hl
    exact k _ _ _ _ _ _ E2 A2 r2 q
  · obtain ⟨ys, e, q⟩ := q
    obtain ⟨v, rfl, r0⟩ := repL_one r
    obtain ⟨p, vs, rfl, _, h, rr⟩ := rep_ref A r0 e
    refine ⟨p, vs, rfl, .inl (.of h), fun l hl => ?_⟩
    obtain ⟨A2, E2, r2⟩ := new_cell A rr hl
    exact k _ _ _ _ _ _ E2 A2 r2 q
  · exact q.elim
theorem ec_list (hg : Gl X "list") (hm : X.mg "list" = none) (ha : PA X (e :: es) (upA X.K t)) (he : starEach (e :: es) X.env = (false, eval e X.env) :: starEach es X.env := by rfl) (hpl : (backTo pos (starEach es X.env)).any (·.1) = false := by rfl) :
    PE X (.Call (.Name "list" p) (e :: es) [] pos) (upE X.K (dCB cList t)) := ee_callTy sim_listC call_list_of hg hm (by decide +kernel) ha (by decide) (by decide) he hpl
theorem ec_listM (hg : Gl X "list") (hm : X.mg "list" = none) (ha : PA X (e :: es) (upA X.K t)) (he : starEach (e :: es) X.env = (false, eval e X.env) :: starEach es X.env := by rfl) (hpl : (backTo pos (starEach es X.env)).any (·.1) = false := by rfl) :
    PE X (.Call (.Name "list" p) (e :: es) [] pos) (upE X.K (dCB cListM t)) := ee_callTy sim_listM call_list_of hg hm (by decide +kernel) ha (by decide) (by decide) he hpl
/-- isinstance(x, T), T a built-in class by its name -/
inductive Bt where
  | bool | int | str | list | tuple
def Bt.nm : Bt → String
  | .bool => "bool" | .int => "int" | .str => "str" | .list => "list" | .tuple => "tuple"
inductive Tg where
  | non | bool | int | str | list | tuple | dict
def Tg.nm : Tg → String
  | .non => "NoneType" | .bool => "bool" | .int => "int" | .str => "str" | .list => "list" | .tuple => "tuple" | .dict => "dict"
def tab : Tg → Bt → Bool
  | .bool, .bool => true
  | .bool, .int => true
  | .int, .int => true
  | .str, .str => true
  | .list, .list => true
  | .tuple, .tuple => true
  | _, _ => false
theorem kitTab (t : Tg) (T : Bt) : kitB t.nm T.nm = some (tab t T) := by cases t <;> cases T <;> decide +kernel
def tgOf : S → Tg
  | .d .none => .non
  | .d (.bool _) => .bool
  | .d (.int _) => .int
  | .d (.str _) => .str
  | .d (.list _) => .list
  | .d (.tuple _) => .tuple
  | .d (.dict _) => .dict
  | .ref _ => .list
def isTy (T : Bt) (x : S) : Bool := tab (tgOf x) T
def dIsi (T : Bt) (ta : TD) : TD := fun ρ cs R => ta ρ cs fun x cs1 => (∀ n, x = .ref n → ∃ xs, getC cs1 n = some xs) ∧ R (sb (isTy T x)) cs1
theorem tyx_l {H : Hp} {p : Addr} {vs : List V} (h : SqL K H p vs) : TyX K H (.ref p) (.type "list") := by
  rcases h with (h | ⟨o, h⟩) | ⟨o, its, n, h, hc, _⟩
  · exact .base (.lst h)
  · exact .base (.frz h)
  · exact .kList h hc
theorem tyx_t {H : Hp} {p : Addr} {vs : List V} (h : SqT K H p vs) : TyX K H (.ref p) (.type "tuple") := by
  rcases h with (h | ⟨o, h⟩) | ⟨o, its, n, h, hc, _⟩
  · exact .base (.tup h)
  · exact .fTuple h
  · exact .kTuple h hc
theorem isi_of {G H : Hp} {π : List Addr} {cs : Sto} {v : V} {x : S} (T : Bt) (A : At K G π cs H) (r : RepS K G π v x) (hx : ∀ n, x = .ref n → ∃ xs, getC cs n = some xs) : ∃ t, TyX K H v t ∧ PySem.W.kitOne K t (.type T.nm) = some (isTy T x) := by
  cases r with
  | d r =>
    cases r with
    | non => exact ⟨.type "NoneType", .base .non, kit_ty (kitTab .non T)⟩
    | bl b => exact ⟨.type "bool", .base (.bl b), kit_ty (kitTab .bool T)⟩
    | int i => exact ⟨.type "int", .base (.int i), kit_ty (kitTab .int T)⟩
    | str z => exact ⟨.type "str", .base (.str z), kit_ty (kitTab .str T)⟩
    | lst h r => exact ⟨.type "list", tyx_l (A.kn.seq h), kit_ty (kitTab .list T)⟩
    | tup h r => exact ⟨.type "tuple", tyx_t (seqT_mono A.kn h), kit_ty (kitTab .tuple T)⟩
  | ref h =>
    obtain ⟨xs, e⟩ := hx _ rfl
    obtain ⟨_, vs, e2, rl⟩ := A.st _ _ _ h (getC_eq e)
    exact ⟨.type "list", tyx_l (.of e2), kit_ty (kitTab .list T)⟩
theorem ee_isi {y : Str} {pp : Pos} (T : Bt) (hg : Gl X "isinstance") (hm : X.mg "isinstance" = none) (hgy : Gl X y) (hmy : X.mg y = none) (hvy : bootBuiltins y = some (.type T.nm)) (ha : PE X a (upE X.K ta)) (hny : y ≠ "__name__" := by decide) (hdy : (y == ("__debug__" : Str)) = false := by decide)
    (h1 : starEach [.Name y pp] X.env = (false, eval (.Name y pp) X.env) :: starEach [] X.env := by rfl)
    (h2 : starEach [a, .Name y pp] X.env = (false, eval a X.env) :: starEach [.Name y pp] X.env := by rfl) (hpl : (backTo pos (starEach [.Name y pp] X.env)).any (·.1) = false := by rfl) :
    PE X (.Call (.Name "isinstance" p) [a, .Name y pp] [] pos) (upE X.K (dIsi T ta)) := by
  have hb : PE X (.Name y pp) (tC (.ty T.nm)) := pe_bltn hgy hmy hvy rfl hny hdy
  refine (pe_callB call_isi hg hm (by decide +kernel) (pa_cons ha (pa_cons hb pa_nil h1) h2) (by decide) (by decide) h2 hpl).weak ?_
  rintro σ H Q ⟨G, π, ρ, cs, R, A, s, q, k⟩
  refine ⟨G, π, ρ, cs, _, A, s, q, fun v1 H1 x cs1 G1 π1 E1 A1 r1 q1 => ?_⟩
  obtain ⟨t, ty, e⟩ := isi_of T A1 r1 q1.1
  exact ⟨v1, .ty T.nm, t, .type T.nm, _, rfl, .ty _, ty, e, k _ _ _ _ _ _ E1 A1 (.d (.bl _)) q1.2⟩
/-- tuples added -/
def qCatT : RD2 := fun x y cs R => ∃ ds es, x = .d (.tuple ds) ∧ y = .d (.tuple es) ∧ ds.length + es.length ≤ sizeLine ∧ R (.d (.tuple (ds ++ es))) cs
theorem sim_catT : Sim2 K (rCatA K) qCatT := by
  rintro G π cs H v w x y R Q A rv rw ⟨ds, es, rfl, rfl, hz, q⟩ k
  obtain ⟨a, vs, rfl, h, r⟩ := rep_tup A rv
  obtain ⟨b, ws, rfl, h', r'⟩ := rep_tup A rw
  refine ⟨a, b, vs, ws, rfl, rfl, h, h', by rw [DpAll.len r, DpAll.len r']; exact hz, fun e => ?_, fun _ e => ?_, fun _ _ p hp => ?_⟩
  · subst e
    cases r
    exact k _ _ _ _ _ _ .refl A rw q
  · subst e
    cases r'
    rw [List.append_nil] at q
    exact k _ _ _ _ _ _ .refl A rv q
  · obtain ⟨G2, A2, E2, r2⟩ := new_tup A (DpAll.app r r') hp
    exact k _ _ _ _ _ _ E2 A2 r2 q
def qCatL : RD2 := fun x y cs R => ∃ ds es, x = .d (.list ds) ∧ y = .d (.list es) ∧ ds.length ≤ sizeLine ∧ es.length ≤ sizeLine ∧ ds.length + es.length ≤ sizeLine ∧ R (.d (.list (ds ++ es))) cs
theorem op_or_add {r r' : R2} (h : OpR X (binaryOp .Add) r) (h' : OpR X (binaryOp .Add) r') : OpR X (binaryOp .Add) (fun x y H Q => r x y H Q ∨ r' x y H Q) := h.or h'
/-- a + b of ints or of tuples -/
def qAddA : RD2 := fun x y cs R => match x with
  | .d (.int i) => ∃ j, y = si j ∧ R (si (i + j)) cs
  | .d (.tuple ds) => ∃ es, y = .d (.tuple es) ∧ ds.length + es.length ≤ sizeLine ∧ R (.d (.tuple (ds ++ es))) cs
  | _ => False
theorem ee_catT (ha : PE X a (upE X.K ta)) (hb : PE X b (upE X.K tb)) : PE X (.BinOp a .Add b pos) (upE X.K (dOp qCatT ta tb)) := ee_op sim_catT op_catA ha hb

/-! ### calls of defs -/
/-- a def's promise over data: n arguments -/
abbrev DSp := List S → Sto → RK → Prop
def spD (K : PySem.W.Frag) (n : Nat) (T : DSp) : Sp := fun vs H Q _ => vs.length = n ∧ ∃ G π cs xs R, At K G π cs H ∧ RepL K G π vs xs ∧ T xs cs R ∧ ∀ v H' x cs' G' π', Ext G π H G' π' H' → At K G' π' cs' H' → RepS K G' π' v x → R x cs' → Q v H'
def dCall (n : Nat) (T : DSp) (t : TAD) : TD := fun ρ cs R => t ρ cs fun xs cs1 => xs.length = n ∧ T xs cs1 R
theorem up_call {n : Nat} {T : DSp} {E : XK} : ∀ σ H Q, upE K (dCall n T t) σ H Q → tCall (spD K n T) [] E (upA K t) σ H Q := by
  rintro σ H Q ⟨G, π, ρ, cs, R, A, s, q, k⟩
  refine ⟨G, π, ρ, cs, _, A, s, q, fun vs H1 xs cs1 G1 π1 E1 A1 r1 q1 => ?_⟩
  show spD K n T (vs ++ []) H1 Q E
  rw [List.append_nil]
  exact ⟨by rw [r1.len]; exact q1.1, G1, π1, cs1, xs, R, A1, r1, q1.2, fun v H' z cs' G' π' E' A' r' q' => k _ _ _ _ _ _ (E1.trans E') A' r' q'⟩
/-- a def of the module, as it stands: where, what it promises -/
structure DefAt (P : Program) (w : World) (K : PySem.W.Frag) (mg : Str → Option Value) (base : Heap) (k : Nat) (nm : Str) (ps : List Str) (T : DSp) : Prop where
  ex : ∃ f fd, FnOk P w K mg base CX0 k f fd ps (spD K ps.length T) ∧ mg nm = some (.ref f) ∧ PySem.W.keepIn K (.ref f) = true ∧ Binds K fd ps []
theorem ee_call {k j n : Nat} {nm : Str} {ps : List Str} {T : DSp} (D : DefAt X.prog X.w X.K X.mg X.base k nm ps T) (hr : Room j X.A) (hj : k ≤ j) (hg : Gl X nm) (ha : PA X (e :: es) (upA X.K t)) (hdb : (nm == ("__debug__" : Str)) = false := by decide)
    (he : starEach (e :: es) X.env = (false, eval e X.env) :: starEach es X.env := by rfl) (hpl : (backTo pos (starEach es X.env)).any (·.1) = false := by rfl) (hn : ps.length = n := by rfl) : PE X (.Call (.Name nm p) (e :: es) [] pos) (upE X.K (dCall n T t)) :=
  hn ▸ let ⟨_, _, F, hm, hk, hb⟩ := D.ex
  (pe_call F (hr.mono hj) hg hm hk hb .nil pass0 ha hdb he hpl).weak up_call
theorem ee_call0 {k j : Nat} {nm : Str} {T : DSp} (D : DefAt X.prog X.w X.K X.mg X.base k nm [] T) (hr : Room j X.A) (hj : k ≤ j) (hg : Gl X nm) (hdb : (nm == ("__debug__" : Str)) = false := by decide) : PE X (.Call (.Name nm p) [] [] pos) (upE X.K (dCall 0 T dNil)) :=
  let ⟨_, _, F, hm, hk, hb⟩ := D.ex
  (pe_call0 F (hr.mono hj) hg hm hk hb .nil pass0 hdb).weak (by
    rintro σ H Q ⟨G, π, ρ, cs, R, A, s, q, k⟩
    exact ⟨rfl, G, π, cs, [], R, A, .nil, q.2, k⟩)
end
end FL

set_option Elab.async false
set_option linter.all false
set_option maxRecDepth 100000
set_option maxHeartbeats 1000000
namespace FL
open PySem L2 RZ

section
variable {X : Cx} {K : PySem.W.Frag} {a b c e tg : Expr} {es : List Expr} {ta tb tc te : TD} {t : TAD} {pos p : Pos} {x : Str}

/-! ### targets -/
theorem Chg.refl {is : List Nat} {σ : L2.St} : Chg is σ σ := ⟨rfl, fun _ _ => rfl⟩
theorem Chg.trans {is : List Nat} {σ σ1 σ2 : L2.St} (a : Chg is σ σ1) (b : Chg is σ1 σ2) : Chg is σ σ2 := ⟨b.1.trans a.1, fun i h => (b.2 i h).trans (a.2 i h)⟩
theorem Chg.mono {is js : List Nat} {σ σ1 : L2.St} (a : Chg is σ σ1) (h : ∀ i ∈ is, i ∈ js) : Chg js σ σ1 := ⟨a.1, fun i hi => a.2 i fun z => hi (h i z)⟩
theorem Chg.set {i : Nat} {σ : L2.St} {v : Option V} : Chg [i] σ (σ.set i v) := ⟨by simp, fun j hj => by rw [List.getElem?_set_ne]; intro e; exact hj (by simp [e])⟩
theorem wipe_get {σ : L2.St} {j : Nat} : ∀ {vs : List Nat}, (wipe σ vs)[j]? = if j ∈ vs ∧ j < σ.length then some none else σ[j]?
  | [] => by simp [wipe]
  | v :: vs => by
    unfold wipe
    by_cases h : v = j
    · subst h
      by_cases hl : v < σ.length
      · rw [List.getElem?_set_self (by rw [wipe_length]; exact hl)]; simp [hl]
      · rw [List.getElem?_eq_none (by rw [List.length_set, wipe_length]; omega)]
        simp [hl, List.getElem?_eq_none (Nat.le_of_not_lt hl)]
    · rw [List.getElem?_set_ne h, wipe_get (vs := vs)]
      have : j ≠ v := fun e => h e.symm
      simp [this]
theorem Chg.wipe {vs is : List Nat} {σ σ' : L2.St} (h : Chg is (L2.wipe σ vs) σ') (hs : ∀ i ∈ is, i ∈ vs) : L2.wipe σ' vs = L2.wipe σ vs := by
  have hl : σ'.length = σ.length := by rw [h.1, wipe_length]
  refine List.ext_getElem? fun j => ?_
  rw [wipe_get, wipe_get, hl]
  by_cases hj : j ∈ vs ∧ j < σ.length
  · rw [if_pos hj, if_pos hj]
  · rw [if_neg hj, if_neg hj]
    by_cases hv : j ∈ vs
    · have : ¬ j < σ.length := fun z => hj ⟨hv, z⟩
      rw [List.getElem?_eq_none (by omega), List.getElem?_eq_none (by omega)]
    · rw [h.2 j fun z => hv (hs j z), wipe_get, if_neg hj]
abbrev TGsD := List S → Ev → Sto → (Ev → Sto → Prop) → Prop
def dgName (i : Nat) : TGD := fun x ρ cs R => R (ρ.set i (some x)) cs
def dgNil : TGsD := fun xs ρ cs R => xs = [] ∧ R ρ cs
def dgCons (g : TGD) (gs : TGsD) : TGsD := fun xs ρ cs R => match xs with
  | x :: r => g x ρ cs fun ρ1 cs1 => gs r ρ1 cs1 R
  | [] => False
def dgTup (n : Nat) (gs : TGsD) : TGD
  | .d (.tuple ds), ρ, cs, R => ds.length = n ∧ gs (ds.map S.d) ρ cs R
  | _, _, _, _ => False
/-- o[i] = v, o a cell -/
def dgSub (to ti : TD) : TGD := fun v ρ cs R => to ρ cs fun o cs1 => ti ρ cs1 fun i cs2 => match o with
  | .ref n => ∃ k j xs, i = si k ∧ getC cs2 n = some xs ∧ ixN xs.length k = some j ∧ R ρ (cs2.set n (some (xs.set j v)))
  | _ => False
theorem eg_name {i : Nat} {x : Str} (hN : X.N.Nodup) (hi : X.N[i]? = some x) (hx : Loc X.env.scope x) (hf : X.fn x = true ∨ X.env.scope.names.lookup x = some .local := by first | exact .inl rfl | exact .inr rfl | assumption) : PG X (.Name x pos) (upG X.K [i] (dgName i)) := by
  refine (pg_name hN hi hx hf).weak ?_
  rintro v σ H Q ⟨G, π, ρ, cs, y, R, A, s, r, q, k⟩
  exact k _ _ _ _ _ _ .refl A (s.set i r) Chg.set q
theorem egs_nil {is : List Nat} : PGs X [] (upGs X.K is dgNil) := by
  refine ⟨fun pins s σ H vs us Q I rv h => ?_⟩
  obtain ⟨G, π, ρ, cs, xs, R, A, sl, r, ⟨rfl, q⟩, k⟩ := h
  cases r
  exact (pgs_nil (X := X)).run pins s σ H [] us Q I rv ⟨rfl, k _ _ _ _ _ _ .refl A sl .refl q⟩
theorem egs_cons {es : List Expr} {g : TGD} {gs : TGsD} {is js ks : List Nat} (h1 : PG X e (upG X.K is g)) (h2 : PGs X es (upGs X.K js gs)) (hi : ∀ i ∈ is, i ∈ ks) (hj : ∀ i ∈ js, i ∈ ks)
    (hs : (assignEach (e :: es) X.env).map (·.2) = assign e X.env :: (assignEach es X.env).map (·.2) := by rfl) : PGs X (e :: es) (upGs X.K ks (dgCons g gs)) := by
  refine ⟨fun pins s σ H vs us Q I rv h => ?_⟩
  obtain ⟨G, π, ρ, cs, xs, R, A, sl, r, q, k⟩ := h
  cases r with
  | nil => exact q.elim
  | cons r rr =>
    refine (pgs_cons h1 h2 hs).run pins s σ H _ us Q I rv ⟨_, _, rfl, G, π, ρ, cs, _, _, A, sl, r, q, fun σ1 H1 ρ1 cs1 G1 π1 E1 A1 s1 c1 q1 => ?_⟩
    exact ⟨G1, π1, ρ1, cs1, _, R, A1, s1, RepL.ext E1 rr, q1, fun σ2 H2 ρ2 cs2 G2 π2 E2 A2 s2 c2 q2 => k _ _ _ _ _ _ (E1.trans E2) A2 s2 ((c1.mono hi).trans (c2.mono hj)) q2⟩
theorem eg_tup {es : List Expr} {k : Nat} {gs : TGsD} {n : Nat} {is : List Nat} (hc : X.calm = true) (h : PGs X es (upGs X.K is gs))
    (hn : (assignEach es X.env).length = n := by rfl) (hst : (assignEach es X.env).findIdx? (·.1) = none := by rfl) : PG X (.Tuple es k pos) (upG X.K is (dgTup n gs)) := by
  refine (pg_tup hc h hn hst).weak ?_
  rintro v σ H Q ⟨G, π, ρ, cs, y, R, A, s, r, q, k⟩
  cases y with
  | ref n => exact q.elim
  | d y =>
    cases y <;> try (exact q.elim; done)
    obtain ⟨p, vs, rfl, h1, h2⟩ := rep_tup A r
    exact ⟨p, vs, rfl, h1, by rw [DpAll.len h2]; exact q.1, G, π, ρ, cs, _, R, A, s, repL_d h2, q.2, k⟩
theorem eg_sub {o i : Expr} {to ti : TD} (ho : PE X o (upE X.K to)) (hi : PE X i (upE X.K ti))
    (ha : ∀ v, assign (.Subscript o i pos) X.env v = (do
      let ov ← holding [v] (eval o X.env)
      let iv ← holding [v, ov] (eval i X.env)
      standAt pos
      holding [v, ov, iv] (setItem ov iv v)
      release [v, ov, iv] []) := by intro _; rfl) : PG X (.Subscript o i pos) (upG X.K [] (dgSub to ti)) := by
  refine (pg_sub ho hi set_list ha).weak ?_
  rintro v σ H Q ⟨G, π, ρ, cs, y, R, A, s, r, q, k⟩
  refine ⟨G, π, ρ, cs, _, A, s, q, fun v1 H1 x cs1 G1 π1 E1 A1 r1 q1 => ⟨G1, π1, ρ, cs1, _, A1, s.ext E1, q1, fun v2 H2 z cs2 G2 π2 E2 A2 r2 q2 => ?_⟩⟩
  have E := E1.trans E2
  cases x with
  | d _ => exact q2.elim
  | ref n =>
    obtain ⟨kk, j, xs, rfl, e1, e2, q2⟩ := q2
    obtain ⟨p, vs, rfl, h3, h4, h5⟩ := rep_ref A2 (r1.ext E2) e1
    rw [rep_int r2]
    obtain ⟨A3, E3⟩ := A2.put h3 (getC_eq e1) (RepL.set j h5 (r.ext E))
    refine ⟨p, vs, kk, j, rfl, rfl, h4, by rw [h5.len]; exact e2, k _ _ _ _ _ _ (E.trans E3) A3 (s.ext (E.trans E3)) .refl q2⟩

/-! ### what is walked -/
structure Src where
  its : List S
  ok : Sto → Prop
abbrev TID := Ev → Sto → (Src → Sto → Prop) → Prop
structure ItRep (K : PySem.W.Frag) (G : Hp) (π : List Addr) (J : It) (src : Src) : Prop where
  go : ∀ i x G1 π1 cs1 H1, Same G G1 → (∃ πn, π1 = π ++ πn) → At K G1 π1 cs1 H1 → src.ok cs1 → src.its[i]? = some x → J.go i H1 ∧ ∀ v H2, J.yld i H1 v H2 → ∃ G2, Ext G1 π1 H1 G2 π1 H2 ∧ At K G2 π1 cs1 H2 ∧ RepS K G2 π1 v x
  stop : ∀ i G1 π1 cs1 H1, Same G G1 → (∃ πn, π1 = π ++ πn) → At K G1 π1 cs1 H1 → src.ok cs1 → src.its.length ≤ i → J.stop i H1
def upI (K : PySem.W.Frag) (t : TID) : TI := fun σ H R => ∃ G π ρ cs Rd, At K G π cs H ∧ Sl K G π σ ρ ∧ t ρ cs Rd ∧ ∀ J src H' cs' G' π', Ext G π H G' π' H' → At K G' π' cs' H' → ItRep K G' π' J src → Rd src cs' → R J H'
theorem _root_.L2.PI.weak {tg e : Expr} {t t' : TI} (h : PI X tg e t) (hw : ∀ σ H R, t' σ H R → t σ H R) : PI X tg e t' := ⟨fun pins s σ H R I q => h.run pins s σ H R I (hw _ _ _ q)⟩
theorem _root_.L2.PI.or {tg e : Expr} {t t' : TI} (h : PI X tg e t) (h' : PI X tg e t') : PI X tg e (fun σ H R => t σ H R ∨ t' σ H R) := ⟨fun pins s σ H R I q => by
  rcases q with q | q
  · exact h.run pins s σ H R I q
  · exact h'.run pins s σ H R I q⟩
abbrev okT : Sto → Prop := fun _ => True
def itemsR : S → Sto → (Src → Sto → Prop) → Prop
  | .d (.list ds), cs1, R => R ⟨ds.map S.d, okT⟩ cs1
  | .d (.tuple ds), cs1, R => R ⟨ds.map S.d, okT⟩ cs1
  | .ref n, cs1, R => ∃ xs, getC cs1 n = some xs ∧ R ⟨xs, fun cs => getC cs n = some xs⟩ cs1
  | _, _, _ => False
def dItems (t : TD) : TID := fun ρ cs R => t ρ cs fun x cs1 => itemsR x cs1 R

structure LstRep (K : PySem.W.Frag) (G : Hp) (π : List Addr) (a : Addr) (its : List S) (ok : Sto → Prop) : Prop where
  at_ : ∀ G1 π1 cs1 H1, Same G G1 → (∃ πn, π1 = π ++ πn) → At K G1 π1 cs1 H1 → ok cs1 → ∃ vs, SqL K H1 a vs ∧ RepL K G1 π1 vs its
structure TupRep (K : PySem.W.Frag) (G : Hp) (π : List Addr) (a : Addr) (its : List S) (ok : Sto → Prop) : Prop where
  at_ : ∀ G1 π1 cs1 H1, Same G G1 → (∃ πn, π1 = π ++ πn) → At K G1 π1 cs1 H1 → ok cs1 → ∃ vs, SqT K H1 a vs ∧ RepL K G1 π1 vs its
theorem lrep_list {G : Hp} {π : List Addr} {v : V} {ds : List PyData} (r : RepS K G π v (.d (.list ds))) : ∃ a, v = .ref a ∧ LstRep K G π a (ds.map S.d) okT := by
  cases r with
  | d r => cases r with
    | lst h r => exact ⟨_, rfl, ⟨fun G1 π1 cs1 H1 e1 _ A _ => ⟨_, A.kn.seq (e1.seq h), repL_d (dpAll_mono e1 r)⟩⟩⟩
theorem lrep_tup {G : Hp} {π : List Addr} {v : V} {ds : List PyData} (r : RepS K G π v (.d (.tuple ds))) : ∃ a, v = .ref a ∧ TupRep K G π a (ds.map S.d) okT := by
  cases r with
  | d r => cases r with
    | tup h r => exact ⟨_, rfl, ⟨fun G1 π1 cs1 H1 e1 _ A _ => ⟨_, seqT_mono A.kn (seqT_mono e1 h), repL_d (dpAll_mono e1 r)⟩⟩⟩
theorem lrep_ref {G : Hp} {π : List Addr} {v : V} {n : Nat} {xs : List S} (r : RepS K G π v (.ref n)) : ∃ a, v = .ref a ∧ LstRep K G π a xs (fun cs => getC cs n = some xs) := by
  cases r with
  | ref h =>
    refine ⟨_, rfl, ⟨fun G1 π1 cs1 H1 e1 hp A ok => ?_⟩⟩
    obtain ⟨πn, rfl⟩ := hp
    obtain ⟨_, vs, e2, rl⟩ := A.st n _ xs (by rw [List.getElem?_append_left (List.getElem?_eq_some_iff.mp h).1]; exact h) (getC_eq ok)
    exact ⟨vs, .of e2, rl⟩
theorem itr_list {G : Hp} {π : List Addr} {a : Addr} {its : List S} {ok : Sto → Prop} (L : LstRep K G π a its ok) : ItRep K G π (Itl K a) ⟨its, ok⟩ where
  go := fun i x G1 π1 cs1 H1 e1 hp A o hx => by
    obtain ⟨vs, h, r⟩ := L.at_ G1 π1 cs1 H1 e1 hp A o
    obtain ⟨v, hv, rv⟩ := r.get hx
    refine ⟨⟨vs, v, h, hv⟩, fun u H2 y => ?_⟩
    obtain ⟨rfl, y⟩ := y
    have e := y vs h
    rw [hv] at e; cases e
    exact ⟨G1, .refl, A, rv⟩
  stop := fun i G1 π1 cs1 H1 e1 hp A o hl => by
    obtain ⟨vs, h, r⟩ := L.at_ G1 π1 cs1 H1 e1 hp A o
    exact ⟨vs, h, by rw [r.len]; exact hl⟩
theorem itr_tup {G : Hp} {π : List Addr} {a : Addr} {its : List S} {ok : Sto → Prop} (L : TupRep K G π a its ok) : ItRep K G π (Itt K a) ⟨its, ok⟩ where
  go := fun i x G1 π1 cs1 H1 e1 hp A o hx => by
    obtain ⟨vs, h, r⟩ := L.at_ G1 π1 cs1 H1 e1 hp A o
    obtain ⟨v, hv, rv⟩ := r.get hx
    refine ⟨⟨vs, v, h, hv⟩, fun u H2 y => ?_⟩
    obtain ⟨rfl, y⟩ := y
    have e := y vs h
    rw [hv] at e; cases e
    exact ⟨G1, .refl, A, rv⟩
  stop := fun i G1 π1 cs1 H1 e1 hp A o hl => by
    obtain ⟨vs, h, r⟩ := L.at_ G1 π1 cs1 H1 e1 hp A o
    exact ⟨vs, h, by rw [r.len]; exact hl⟩
def rgS (lo : Int) (n : Nat) : List S := (List.range n).map fun k => si (lo + (k : Nat))
theorem itr_range {G : Hp} {π : List Addr} {lo : Int} {n : Nat} : ItRep K G π (Itr lo n) ⟨rgS lo n, okT⟩ where
  go := fun i x G1 π1 cs1 H1 e1 hp A o hx => by
    unfold rgS at hx
    rw [List.getElem?_map] at hx
    have hi : i < n := by
      by_cases h : i < n
      · exact h
      · rw [List.getElem?_eq_none (by simp; omega)] at hx; cases hx
    rw [List.getElem?_range hi] at hx
    cases hx
    refine ⟨hi, fun u H2 y => ?_⟩
    obtain ⟨rfl, rfl⟩ := y
    exact ⟨G1, .refl, A, .d (.int _)⟩
  stop := fun i G1 π1 cs1 H1 e1 hp A o hl => by
    unfold rgS at hl
    show n ≤ i
    simpa using hl
def zipD (ds es : List PyData) : List S := (ds.zip es).map fun p => .d (.tuple [p.1, p.2])
theorem zip_get {ds es : List PyData} {i : Nat} {x : S} (h : (zipD ds es)[i]? = some x) : ∃ d e, ds[i]? = some d ∧ es[i]? = some e ∧ x = .d (.tuple [d, e]) := by
  unfold zipD at h
  rw [List.getElem?_map] at h
  cases q : (ds.zip es)[i]? with
  | none => rw [q] at h; cases h
  | some p =>
    rw [q] at h
    cases h
    obtain ⟨h1, h2⟩ := List.getElem?_zip_eq_some.mp q
    exact ⟨p.1, p.2, h1, h2, rfl⟩
theorem pair_new {G H : Hp} {π : List Addr} {cs : Sto} {v w : V} {d e : PyData} (A : At K G π cs H) (r : RepS K G π v (.d d)) (r' : RepS K G π w (.d e)) {T : Addr} (hT : H T = none) :
    ∃ G2, Ext G π H G2 π (upd H T (.tup [v, w])) ∧ At K G2 π cs (upd H T (.tup [v, w])) ∧ RepS K G2 π (.ref T) (.d (.tuple [d, e])) := by
  cases r with
  | d r => cases r' with
    | d r' =>
      obtain ⟨G2, A2, E2, r2⟩ := new_tup A (.cons r (.cons r' .nil)) hT
      exact ⟨G2, E2, A2, r2⟩
theorem itr_zipL {G : Hp} {π : List Addr} {a b : Addr} {ds es : List PyData} {ok ok' : Sto → Prop} (L : LstRep K G π a (ds.map S.d) ok) (L' : LstRep K G π b (es.map S.d) ok') : ItRep K G π (Itz K a b) ⟨zipD ds es, fun cs => ok cs ∧ ok' cs⟩ where
  go := fun i x G1 π1 cs1 H1 e1 hp A o hx => by
    obtain ⟨vs, h, r⟩ := L.at_ G1 π1 cs1 H1 e1 hp A o.1
    obtain ⟨ws, h', r'⟩ := L'.at_ G1 π1 cs1 H1 e1 hp A o.2
    obtain ⟨d, e, hd, he, rfl⟩ := zip_get hx
    obtain ⟨v, hv, rv⟩ := r.get (by rw [List.getElem?_map, hd]; rfl)
    obtain ⟨w, hw, rw'⟩ := r'.get (by rw [List.getElem?_map, he]; rfl)
    refine ⟨⟨vs, ws, v, w, h, h', hv, hw⟩, fun u H2 y => ?_⟩
    obtain ⟨T, x, z, rfl, hT, rfl, y1, y2⟩ := y
    have q1 := y1 vs h
    have q2 := y2 ws h'
    rw [hv] at q1; cases q1
    rw [hw] at q2; cases q2
    exact pair_new A rv rw' hT
  stop := fun i G1 π1 cs1 H1 e1 hp A o hl => by
    obtain ⟨vs, h, r⟩ := L.at_ G1 π1 cs1 H1 e1 hp A o.1
    obtain ⟨ws, h', r'⟩ := L'.at_ G1 π1 cs1 H1 e1 hp A o.2
    have l1 := r.len
    have l2 := r'.len
    unfold zipD at hl
    simp only [List.length_map, List.length_zip] at hl l1 l2
    exact ⟨vs, ws, h, h', by omega⟩
theorem itr_zipT {G : Hp} {π : List Addr} {a b : Addr} {ds es : List PyData} {ok ok' : Sto → Prop} (L : TupRep K G π a (ds.map S.d) ok) (L' : TupRep K G π b (es.map S.d) ok') : ItRep K G π (ItzT K a b) ⟨zipD ds es, fun cs => ok cs ∧ ok' cs⟩ where
  go := fun i x G1 π1 cs1 H1 e1 hp A o hx => by
    obtain ⟨vs, h, r⟩ := L.at_ G1 π1 cs1 H1 e1 hp A o.1
    obtain ⟨ws, h', r'⟩ := L'.at_ G1 π1 cs1 H1 e1 hp A o.2
    obtain ⟨d, e, hd, he, rfl⟩ := zip_get hx
    obtain ⟨v, hv, rv⟩ := r.get (by rw [List.getElem?_map, hd]; rfl)
    obtain ⟨w, hw, rw'⟩ := r'.get (by rw [List.getElem?_map, he]; rfl)
    refine ⟨⟨vs, ws, v, w, h, h', hv, hw⟩, fun u H2 y => ?_⟩
    obtain ⟨T, x, z, rfl, hT, rfl, y1, y2⟩ := y
    have q1 := y1 vs h
    have q2 := y2 ws h'
    rw [hv] at q1; cases q1
    rw [hw] at q2; cases q2
    exact pair_new A rv rw' hT
  stop := fun i G1 π1 cs1 H1 e1 hp A o hl => by
    obtain ⟨vs, h, r⟩ := L.at_ G1 π1 cs1 H1 e1 hp A o.1
    obtain ⟨ws, h', r'⟩ := L'.at_ G1 π1 cs1 H1 e1 hp A o.2
    have l1 := r.len
    have l2 := r'.len
    unfold zipD at hl
    simp only [List.length_map, List.length_zip] at hl l1 l2
    exact ⟨vs, ws, h, h', by omega⟩
def enuD (ds : List PyData) : List S := ds.zipIdx.map fun p => .d (.tuple [.int (p.2 : Nat), p.1])
theorem itr_enum {G : Hp} {π : List Addr} {a : Addr} {ds : List PyData} {ok : Sto → Prop} (L : LstRep K G π a (ds.map S.d) ok) : ItRep K G π (Ite K a) ⟨enuD ds, ok⟩ where
  go := fun i x G1 π1 cs1 H1 e1 hp A o hx => by
    obtain ⟨vs, h, r⟩ := L.at_ G1 π1 cs1 H1 e1 hp A o
    unfold enuD at hx
    rw [List.getElem?_map, List.getElem?_zipIdx] at hx
    cases q : ds[i]? with
    | none => rw [q] at hx; cases hx
    | some d =>
      rw [q] at hx
      cases hx
      obtain ⟨v, hv, rv⟩ := r.get (by rw [List.getElem?_map, q]; rfl)
      refine ⟨⟨vs, v, h, hv⟩, fun u H2 y => ?_⟩
      obtain ⟨T, x, rfl, hT, rfl, y1⟩ := y
      have q1 := y1 vs h
      rw [hv] at q1; cases q1
      have := pair_new A (d := .int ((0 + i : Nat) : Int)) (.d (.int _)) rv hT
      rw [Nat.zero_add] at this ⊢
      exact this
  stop := fun i G1 π1 cs1 H1 e1 hp A o hl => by
    obtain ⟨vs, h, r⟩ := L.at_ G1 π1 cs1 H1 e1 hp A o
    have l1 := r.len
    unfold enuD at hl
    simp only [List.length_map, List.length_zipIdx] at hl l1
    exact ⟨vs, h, by omega⟩
open PySem.Spec PyProof.Rows in
/-- what an expression hands: a list or a tuple, told behind its evaluation -/
theorem pi_seq {l : Expr} {tl : TE} (hl : PE X l tl) : PI X tg l (fun σ H R => tl σ H fun x H1 => ∃ a, x = .ref a ∧ (((∃ xs, SqL X.K H1 a xs) ∧ R (Itl X.K a) H1) ∨ ((∃ xs, SqT X.K H1 a xs) ∧ R (Itt X.K a) H1))) := by
  refine ⟨fun pins s σ H R I h => ?_⟩
  refine thn (hl.run pins s σ H _ I h) fun v s1 ⟨x, H1, I1, r1, q1⟩ => ?_
  obtain ⟨a, e, q⟩ := q1
  subst e
  cases r1
  rcases q with ⟨⟨xs, hq⟩, q⟩ | ⟨⟨xs, hq⟩, q⟩
  · obtain ⟨its, rv, p, hz⟩ := I1.list hq
    refine wpAny_pyIter_list p.isList ?_
    refine ⟨s1.heap.objs.size, [s1.heap.objs.size], _, _, H1, rfl, I1.kept (t' := s1.toks) fun b o e => Heap.get?_push_of_some _ e, turn_list a _, ⟨_, Heap.get?_push_size _ rfl, rfl, rfl⟩, fun b hb => ?_, q⟩
    have e : b = s1.heap.objs.size := by simpa using hb
    subst e
    exact I1.fpOk (Nat.le_refl _) (I1.hok.fresh (Nat.le_refl _))
  · obtain ⟨its, rv, p, hz⟩ := I1.tuple hq
    refine wpAny_pyIter_tuple (show s1.heap.IsTuple a its.toArray from p) ?_
    refine ⟨s1.heap.objs.size, [s1.heap.objs.size], _, _, H1, rfl, I1.kept (t' := s1.toks) fun b o e => Heap.get?_push_of_some _ e, turn_tuple a _, ⟨_, Heap.get?_push_size _ rfl, rfl, rfl⟩, fun b hb => ?_, q⟩
    have e : b = s1.heap.objs.size := by simpa using hb
    subst e
    exact I1.fpOk (Nat.le_refl _) (I1.hok.fresh (Nat.le_refl _))
theorem ppr {π : List Addr} : ∃ πn, π = π ++ πn := ⟨[], by simp⟩
theorem ItRep.ok_mono {G : Hp} {π : List Addr} {J : It} {its : List S} {ok ok' : Sto → Prop} (r : ItRep K G π J ⟨its, ok'⟩) (h : ∀ cs, ok cs → ok' cs) : ItRep K G π J ⟨its, ok⟩ :=
  ⟨fun i x G1 π1 cs1 H1 e1 hp A o => r.go i x G1 π1 cs1 H1 e1 hp A (h _ o), fun i G1 π1 cs1 H1 e1 hp A o => r.stop i G1 π1 cs1 H1 e1 hp A (h _ o)⟩
theorem ei_items (he : PE X e (upE X.K te)) : PI X tg e (upI X.K (dItems te)) := by
  refine (pi_seq he).weak ?_
  rintro σ H R0 ⟨G, π, ρ, cs, R, A, s, q, k⟩
  refine ⟨G, π, ρ, cs, _, A, s, q, fun v H1 x cs1 G1 π1 E1 A1 r1 q1 => ?_⟩
  cases x with
  | ref n =>
    obtain ⟨xs, e1, q1⟩ := q1
    obtain ⟨a, rfl, L⟩ := lrep_ref (xs := xs) r1
    obtain ⟨vs, h, _⟩ := L.at_ G1 π1 cs1 H1 (Same.refl _) ppr A1 e1
    exact ⟨a, rfl, .inl ⟨⟨vs, h⟩, k _ _ _ _ _ _ E1 A1 (itr_list L) q1⟩⟩
  | d x =>
    cases x <;> try (exact q1.elim; done)
    · obtain ⟨a, rfl, L⟩ := lrep_list r1
      obtain ⟨vs, h, _⟩ := L.at_ G1 π1 cs1 H1 (Same.refl _) ppr A1 trivial
      exact ⟨a, rfl, .inl ⟨⟨vs, h⟩, k _ _ _ _ _ _ E1 A1 (itr_list L) q1⟩⟩
    · obtain ⟨a, rfl, L⟩ := lrep_tup r1
      obtain ⟨vs, h, _⟩ := L.at_ G1 π1 cs1 H1 (Same.refl _) ppr A1 trivial
      exact ⟨a, rfl, .inr ⟨⟨vs, h⟩, k _ _ _ _ _ _ E1 A1 (itr_tup L) q1⟩⟩
def dRg1 (t : TAD) : TID := fun ρ cs R => t ρ cs fun xs cs1 => ∃ j : Int, xs = [si j] ∧ -(2 ^ 62) ≤ j ∧ j < 2 ^ 62 ∧ R ⟨rgS 0 j.toNat, okT⟩ cs1
def dRg2 (t : TAD) : TID := fun ρ cs R => t ρ cs fun xs cs1 => ∃ i j : Int, xs = [si i, si j] ∧ (-(2 ^ 62) ≤ i ∧ i < 2 ^ 62 ∧ -(2 ^ 62) ≤ j ∧ j < 2 ^ 62) ∧ R ⟨rgS i (j - i).toNat, okT⟩ cs1
theorem ei_rg1 (hg : Gl X "range") (hm : X.mg "range" = none) (ha : PA X [a] (upA X.K t)) (hs : starEach [a] X.env = [(false, eval a X.env)] := by rfl) : PI X tg (.Call (.Name "range" p) [a] [] pos) (upI X.K (dRg1 t)) := by
  refine (pi_range1 hg hm ha hs).weak ?_
  rintro σ H R0 ⟨G, π, ρ, cs, R, A, s, q, k⟩
  refine ⟨G, π, ρ, cs, _, A, s, q, fun vs H1 xs cs1 G1 π1 E1 A1 r1 q1 => ?_⟩
  obtain ⟨j, rfl, h1, h2, q1⟩ := q1
  obtain ⟨v, rfl, r⟩ := repL_one r1
  rw [rep_int r]
  exact ⟨j, rfl, h1, h2, k _ _ _ _ _ _ E1 A1 itr_range q1⟩
theorem ei_rg2 (hg : Gl X "range") (hm : X.mg "range" = none) (ha : PA X [a, b] (upA X.K t)) (hs : starEach [a, b] X.env = [(false, eval a X.env), (false, eval b X.env)] := by rfl) (hs2 : starEach [b] X.env = [(false, eval b X.env)] := by rfl) :
    PI X tg (.Call (.Name "range" p) [a, b] [] pos) (upI X.K (dRg2 t)) := by
  refine (pi_range2 hg hm ha hs hs2).weak ?_
  rintro σ H R0 ⟨G, π, ρ, cs, R, A, s, q, k⟩
  refine ⟨G, π, ρ, cs, _, A, s, q, fun vs H1 xs cs1 G1 π1 E1 A1 r1 q1 => ?_⟩
  obtain ⟨i, j, rfl, h, q1⟩ := q1
  obtain ⟨v, w, rfl, r, r'⟩ := repL_two r1
  rw [rep_int r, rep_int r']
  exact ⟨i, j, rfl, h, k _ _ _ _ _ _ E1 A1 itr_range q1⟩
/-- zip(x, y) -/
def dZipR : S → S → Sto → (Src → Sto → Prop) → Prop
  | .d (.tuple ds), .d (.tuple es), cs, R => R ⟨zipD ds es, okT⟩ cs
  | .d (.list ds), .d (.list es), cs, R => R ⟨zipD ds es, okT⟩ cs
  | .ref n, .d (.list es), cs, R => ∃ ds, getC cs n = some (ds.map S.d) ∧ R ⟨zipD ds es, fun c => getC c n = some (ds.map S.d) ∧ True⟩ cs
  | .d (.list ds), .ref m, cs, R => ∃ es, getC cs m = some (es.map S.d) ∧ R ⟨zipD ds es, fun c => True ∧ getC c m = some (es.map S.d)⟩ cs
  | .ref n, .ref m, cs, R => ∃ ds es, getC cs n = some (ds.map S.d) ∧ getC cs m = some (es.map S.d) ∧ R ⟨zipD ds es, fun c => getC c n = some (ds.map S.d) ∧ getC c m = some (es.map S.d)⟩ cs
  | _, _, _, _ => False
def dZip (t : TAD) : TID := fun ρ cs R => t ρ cs fun xs cs1 => match xs with
  | [x, y] => dZipR x y cs1 R
  | _ => False
theorem ei_zip {elts : List Expr} {kk : Nat} {tpos : Pos} (hg : Gl X "zip") (hm : X.mg "zip" = none) (ha : PA X [a, b] (upA X.K t))
    (hs : starEach [a, b] X.env = (false, eval a X.env) :: starEach [b] X.env := by rfl) (hpl : (backTo pos (starEach [b] X.env)).any (·.1) = false := by rfl) :
    PI X (.Tuple elts kk tpos) (.Call (.Name "zip" p) [a, b] [] pos) (upI X.K (dZip t)) := by
  refine (pi_zipA hg hm ha hs hpl).weak ?_
  rintro σ H R0 ⟨G, π, ρ, cs, R, A, s, q, k⟩
  refine ⟨G, π, ρ, cs, _, A, s, q, fun vs H1 xs cs1 G1 π1 E1 A1 r1 q1 => ?_⟩
  split at q1
  · rename_i x y
    obtain ⟨v, w, rfl, r, r'⟩ := repL_two r1
    unfold dZipR at q1
    split at q1
    · obtain ⟨a, rfl, L⟩ := lrep_tup r
      obtain ⟨b, rfl, L'⟩ := lrep_tup r'
      obtain ⟨xs, h, _⟩ := L.at_ G1 π1 cs1 H1 (Same.refl _) ppr A1 trivial
      obtain ⟨ys, h', _⟩ := L'.at_ G1 π1 cs1 H1 (Same.refl _) ppr A1 trivial
      exact ⟨a, b, xs, ys, rfl, .inr ⟨h, h', k _ _ _ _ _ _ E1 A1 ((itr_zipT L L').ok_mono fun _ _ => ⟨trivial, trivial⟩) q1⟩⟩
    · obtain ⟨a, rfl, L⟩ := lrep_list r
      obtain ⟨b, rfl, L'⟩ := lrep_list r'
      obtain ⟨xs, h, _⟩ := L.at_ G1 π1 cs1 H1 (Same.refl _) ppr A1 trivial
      obtain ⟨ys, h', _⟩ := L'.at_ G1 π1 cs1 H1 (Same.refl _) ppr A1 trivial
      exact ⟨a, b, xs, ys, rfl, .inl ⟨h, h', k _ _ _ _ _ _ E1 A1 ((itr_zipL L L').ok_mono fun _ _ => ⟨trivial, trivial⟩) q1⟩⟩
    · obtain ⟨ds, e, q1⟩ := q1
      obtain ⟨a, rfl, L⟩ := lrep_ref (xs := ds.map S.d) r
      obtain ⟨b, rfl, L'⟩ := lrep_list r'
      obtain ⟨xs, h, _⟩ := L.at_ G1 π1 cs1 H1 (Same.refl _) ppr A1 e
      obtain ⟨ys, h', _⟩ := L'.at_ G1 π1 cs1 H1 (Same.refl _) ppr A1 trivial
      exact ⟨a, b, xs, ys, rfl, .inl ⟨h, h', k _ _ _ _ _ _ E1 A1 (itr_zipL L L') q1⟩⟩
    · obtain ⟨es, e, q1⟩ := q1
      obtain ⟨a, rfl, L⟩ := lrep_list r
      obtain ⟨b, rfl, L'⟩ := lrep_ref (xs := es.map S.d) r'
      obtain ⟨xs, h, _⟩ := L.at_ G1 π1 cs1 H1 (Same.refl _) ppr A1 trivial
      obtain ⟨ys, h', _⟩ := L'.at_ G1 π1 cs1 H1 (Same.refl _) ppr A1 e
      exact ⟨a, b, xs, ys, rfl, .inl ⟨h, h', k _ _ _ _ _ _ E1 A1 (itr_zipL L L') q1⟩⟩
    · obtain ⟨ds, es, e, e', q1⟩ := q1
      obtain ⟨a, rfl, L⟩ := lrep_ref (xs := ds.map S.d) r
      obtain ⟨b, rfl, L'⟩ := lrep_ref (xs := es.map S.d) r'
      obtain ⟨xs, h, _⟩ := L.at_ G1 π1 cs1 H1 (Same.refl _) ppr A1 e
      obtain ⟨ys, h', _⟩ := L'.at_ G1 π1 cs1 H1 (Same.refl _) ppr A1 e'
      exact ⟨a, b, xs, ys, rfl, .inl ⟨h, h', k _ _ _ _ _ _ E1 A1 (itr_zipL L L') q1⟩⟩
    · exact q1.elim
  · exact q1.elim
/-- enumerate(x), x a list -/
def dEnum (t : TAD) : TID := fun ρ cs R => t ρ cs fun xs cs1 => match xs with
  | [.d (.list ds)] => R ⟨enuD ds, okT⟩ cs1
  | [.ref n] => ∃ ds, getC cs1 n = some (ds.map S.d) ∧ R ⟨enuD ds, fun c => getC c n = some (ds.map S.d)⟩ cs1
  | _ => False
theorem ei_enum {elts : List Expr} {kk : Nat} {tpos : Pos} (hg : Gl X "enumerate") (hm : X.mg "enumerate" = none) (ha : PA X [a] (upA X.K t)) (hs : starEach [a] X.env = [(false, eval a X.env)] := by rfl) :
    PI X (.Tuple elts kk tpos) (.Call (.Name "enumerate" p) [a] [] pos) (upI X.K (dEnum t)) := by
  refine (pi_enum hg hm ha hs).weak ?_
  rintro σ H R0 ⟨G, π, ρ, cs, R, A, s, q, k⟩
  refine ⟨G, π, ρ, cs, _, A, s, q, fun vs H1 xs cs1 G1 π1 E1 A1 r1 q1 => ?_⟩
  split at q1
  · obtain ⟨v, rfl, r⟩ := repL_one r1
    obtain ⟨a, rfl, L⟩ := lrep_list r
    obtain ⟨xs, h, _⟩ := L.at_ G1 π1 cs1 H1 (Same.refl _) ppr A1 trivial
    exact ⟨a, xs, rfl, h, k _ _ _ _ _ _ E1 A1 (itr_enum L) q1⟩
  · obtain ⟨v, rfl, r⟩ := repL_one r1
    obtain ⟨ds, e, q1⟩ := q1
    obtain ⟨a, rfl, L⟩ := lrep_ref (xs := ds.map S.d) r
    obtain ⟨xs, h, _⟩ := L.at_ G1 π1 cs1 H1 (Same.refl _) ppr A1 e
    exact ⟨a, xs, rfl, h, k _ _ _ _ _ _ E1 A1 (itr_enum L) q1⟩
  · exact q1.elim
end
end FL

set_option Elab.async false
set_option linter.all false
set_option maxRecDepth 100000
set_option maxHeartbeats 1000000
namespace FL
open PySem L2 RZ PyProof.Rows

section
variable {X : Cx} {K : PySem.W.Frag} {a b c e tg : Expr} {es : List Expr} {ta tb tc te : TD} {t : TAD} {tt : TTD} {pos p : Pos} {x : Str} {st : Stmt} {rest : List Stmt} {ts us : TSD}

/-! ### blocks and small statements -/
def dNext : TSD := fun d ρ cs => d.nx ρ cs
def dSeq (t u : TSD) : TSD := fun d ρ cs => t { d with nx := u d } ρ cs
theorem ess_nil : PSs X [] (upS X.K dNext) := pss_nil.weak (by
  rintro D σ H ⟨G, π, ρ, cs, d, A, s, q, C⟩
  exact C.nx _ _ _ _ _ _ .refl A s q)
theorem up_seq : ∀ D σ H, upS K (dSeq ts us) D σ H → tSeq (upS K ts) (upS K us) D σ H := by
  rintro D σ H ⟨G, π, ρ, cs, d, A, s, q, C⟩
  exact ⟨G, π, ρ, cs, _, A, s, q, ⟨fun σ' H' ρ' cs' G' π' E A' s' q' => ⟨G', π', ρ', cs', d, A', s', q', C.step E⟩, C.bk, C.ct, C.rt⟩⟩
theorem ess_cons (h1 : PS X st (upS X.K ts)) (h2 : PSs X rest (upS X.K us)) : PSs X (st :: rest) (upS X.K (dSeq ts us)) := (pss_cons h1 h2).weak up_seq
theorem ess_one (h1 : PS X st (upS X.K ts)) : PSs X [st] (upS X.K ts) := pss_one h1
theorem es_pass : PS X (.Pass pos) (upS X.K dNext) := ps_pass.weak (by
  rintro D σ H ⟨G, π, ρ, cs, d, A, s, q, C⟩
  exact C.nx _ _ _ _ _ _ .refl A s q)
def dBreak : TSD := fun d ρ cs => d.bk ρ cs
def dCont : TSD := fun d ρ cs => d.ct ρ cs
theorem es_break : PS X (.Break pos) (upS X.K dBreak) := ps_break.weak (by
  rintro D σ H ⟨G, π, ρ, cs, d, A, s, q, C⟩
  exact C.bk _ _ _ _ _ _ .refl A s q)
theorem es_continue : PS X (.Continue pos) (upS X.K dCont) := ps_continue.weak (by
  rintro D σ H ⟨G, π, ρ, cs, d, A, s, q, C⟩
  exact C.ct _ _ _ _ _ _ .refl A s q)
def dDrop (te : TD) : TSD := fun d ρ cs => te ρ cs fun _ cs1 => d.nx ρ cs1
theorem es_expr (he : PE X e (upE X.K te)) (hs : swapsWith e none pos.line X.env = pure false := by rfl) : PS X (.Expr e pos) (upS X.K (dDrop te)) := (ps_expr he hs).weak (by
  rintro D σ H ⟨G, π, ρ, cs, d, A, s, q, C⟩
  exact ⟨G, π, ρ, cs, _, A, s, q, fun v H' x cs' G' π' E A' r q' => C.nx _ _ _ _ _ _ E A' (s.ext E) q'⟩)
def dRet (te : TD) : TSD := fun d ρ cs => te ρ cs d.rt
theorem es_ret (he : PE X e (upE X.K te)) : PS X (.Return (some e) pos) (upS X.K (dRet te)) := (ps_ret he).weak (by
  rintro D σ H ⟨G, π, ρ, cs, d, A, s, q, C⟩
  exact ⟨G, π, ρ, cs, _, A, s, q, C.rt⟩)
def dRetN : TSD := fun d _ cs => d.rt (.d .none) cs
theorem es_retN : PS X (.Return none pos) (upS X.K dRetN) := ps_retN.weak (by
  rintro D σ H ⟨G, π, ρ, cs, d, A, s, q, C⟩
  exact C.rt _ _ _ _ _ _ .refl A (.d .non) q)
def dIfS (c : TTD) (t u : TSD) : TSD := fun d ρ cs => c ρ cs fun b cs1 => (b = true → t d ρ cs1) ∧ (b = false → u d ρ cs1)
theorem es_if {aa bb : List Stmt} (hc : PT X c (upT X.K tt)) (ha : PSs X aa (upS X.K ts)) (hb : PSs X bb (upS X.K us)) : PS X (.If c aa bb pos) (upS X.K (dIfS tt ts us)) := (ps_if hc ha hb).weak (by
  rintro D σ H ⟨G, π, ρ, cs, d, A, s, q, C⟩
  refine ⟨G, π, ρ, cs, _, A, s, q, fun b H1 cs1 G1 π1 E1 A1 q1 => ?_⟩
  cases b with
  | true =>
    refine iteT ?_
    exact ⟨G1, π1, ρ, cs1, d, A1, s.ext E1, q1.1 rfl, C.step E1⟩
  | false =>
    refine iteF ?_
    exact ⟨G1, π1, ρ, cs1, d, A1, s.ext E1, q1.2 rfl, C.step E1⟩)
def dNever : TSD := fun _ _ _ => False
theorem es_never : PS X st (upS X.K dNever) := ps_never.weak (by
  rintro D σ H ⟨G, π, ρ, cs, d, A, s, q, C⟩
  exact q.elim)
def dAsg (te : TD) (g : TGD) : TSD := fun d ρ cs => te ρ cs fun x cs1 => g x ρ cs1 d.nx
theorem up_asg {g : TGD} {is : List Nat} {te0 : TE} (h : ∀ σ H Q, upE K te σ H Q → te0 σ H Q) : ∀ D σ H, upS K (dAsg te g) D σ H → tAsg te0 (upG K is g) D σ H := by
  rintro D σ H ⟨G, π, ρ, cs, d, A, s, q, C⟩
  refine h σ H _ ⟨G, π, ρ, cs, _, A, s, q, fun v H1 x cs1 G1 π1 E1 A1 r1 q1 => ?_⟩
  exact ⟨G1, π1, ρ, cs1, x, _, A1, s.ext E1, r1, q1, fun σ2 H2 ρ2 cs2 G2 π2 E2 A2 s2 _ q2 => C.nx _ _ _ _ _ _ (E1.trans E2) A2 s2 q2⟩
theorem es_asg {g : TGD} {is : List Nat} (he : PE X e (upE X.K te)) (hg : PG X tg (upG X.K is g)) (hs : swapsWithSole [tg] e pos.line X.env = pure false := by rfl) (hw : swappedStores [tg] e X.env = pure none := by rfl)
    (h1 : (assignEach [tg] X.env).map (·.2) = [assign tg X.env] := by rfl) : PS X (.Assign [tg] e pos) (upS X.K (dAsg te g)) := (ps_asg he hg hs hw h1).weak (up_asg fun _ _ _ q => q)
theorem es_set (i : Nat) {x : Str} {pos' : Pos} (hN : X.N.Nodup) (hi : X.N[i]? = some x) (hx : Loc X.env.scope x) (he : PE X e (upE X.K te)) (hs : swapsWith e (some (.Name x pos')) pos.line X.env = pure false := by rfl) (hf : X.fn x = true ∨ X.env.scope.names.lookup x = some .local := by first | exact .inl rfl | exact .inr rfl | assumption) :
    PS X (.Assign [.Name x pos'] e pos) (upS X.K (dAsg te (dgName i))) := (ps_set hN hi hx he hs hf).weak (by
  rintro D σ H ⟨G, π, ρ, cs, d, A, s, q, C⟩
  refine ⟨G, π, ρ, cs, _, A, s, q, fun v H1 x cs1 G1 π1 E1 A1 r1 q1 => ?_⟩
  exact C.nx _ _ _ _ _ _ E1 A1 ((s.ext E1).set i r1) q1)
def dPar (i j : Nat) (t : TAD) : TSD := fun d ρ cs => t ρ cs fun xs cs1 => match xs with
  | [x, y] => d.nx ((ρ.set i (some x)).set j (some y)) cs1
  | _ => False
theorem es_par (i j : Nat) {x y : Str} {px py pt : Pos} {kt k2 pt2} (hc : X.calm = true) (hN : X.N.Nodup) (hi : X.N[i]? = some x) (hj : X.N[j]? = some y) (hij : i ≠ j)
    (hx : X.env.scope.names.lookup x = some .local) (hy : X.env.scope.names.lookup y = some .local) (ha : PA X [a, b] (upA X.K t))
    (hw : swappedStores [.Tuple [.Name x px, .Name y py] kt pt] (.Tuple [a, b] k2 pt2) X.env = pure (some [x, y]))
    (hs : swapsWithSole [.Tuple [.Name x px, .Name y py] kt pt] (.Tuple [a, b] k2 pt2) pos.line X.env = pure false := by rfl) :
    PS X (.Assign [.Tuple [.Name x px, .Name y py] kt pt] (.Tuple [a, b] k2 pt2) pos) (upS X.K (dPar i j t)) := (ps_par hc hN hi hj hij hx hy ha hw hs).weak (by
  rintro D σ H ⟨G, π, ρ, cs, d, A, s, q, C⟩
  refine ⟨G, π, ρ, cs, _, A, s, q, fun vs H1 xs cs1 G1 π1 E1 A1 r1 q1 => ?_⟩
  split at q1
  · obtain ⟨v1, v2, rfl, r, r'⟩ := repL_two r1
    exact ⟨v1, v2, rfl, C.nx _ _ _ _ _ _ E1 A1 (((s.ext E1).set i r).set j r') q1⟩
  · exact q1.elim)
/-- x op= e of whole numbers -/
def dAug (i : Nat) (f : Int → Int → Int) (te : TD) : TSD := fun d ρ cs => ∃ a, getS ρ i = some (si a) ∧ te ρ cs fun y cs1 => ∃ b, y = si b ∧ d.nx (ρ.set i (some (si (f a b)))) cs1
theorem es_aug (i : Nat) {x : Str} {op : Operator} {f : Int → Int → Int} {pos' : Pos} (hN : X.N.Nodup) (hi : X.N[i]? = some x) (hx : Loc X.env.scope x) (he : PE X e (upE X.K te)) (ho : PIp X op (ipI f)) (hf : X.fn x = true ∨ X.env.scope.names.lookup x = some .local := by first | exact .inl rfl | exact .inr rfl | assumption) :
    PS X (.AugAssign (.Name x pos') op e pos) (upS X.K (dAug i f te)) := (ps_aug hN hi hx he ho hf).weak (by
  rintro D σ H ⟨G, π, ρ, cs, d, A, s, ⟨a, e1, q⟩, C⟩
  obtain ⟨v, ev, rv⟩ := s.at_ i _ (getS_eq e1)
  refine ⟨v, ev, G, π, ρ, cs, _, A, s, q, fun w H1 y cs1 G1 π1 E1 A1 r1 q1 => ?_⟩
  obtain ⟨b, rfl, q1⟩ := q1
  rw [rep_int rv, rep_int r1]
  exact ⟨a, b, rfl, rfl, C.nx _ _ _ _ _ _ E1 A1 ((s.ext E1).set i (.d (.int _))) q1⟩)
/-- xs.append(e), xs a cell -/
def dApp (to te : TD) : TD := fun ρ cs R => to ρ cs fun o cs1 => match o with
  | .ref n => (∃ xs, getC cs1 n = some xs) ∧ te ρ cs1 fun y cs2 => ∃ xs, getC cs2 n = some xs ∧ xs.length < sizeLine ∧ R (.d .none) (cs2.set n (some (xs ++ [y])))
  | _ => False
theorem ee_app {o : Expr} {to : TD} {apos cpos : Pos} (ho : PE X o (upE X.K to)) (he : PE X e (upE X.K te))
    (h1 : starEach [e] X.env = (false, eval e X.env) :: starEach [] X.env := by rfl)
    (hbase : attributeBase o "append" X.env (eval o X.env) = eval o X.env := by rfl)
    (hfew : ((backTo cpos (starEach [e] X.env)).all (fun x => !x.1) && (backToKw cpos (keywordEach [] X.env)).all (fun x => x.1.isSome)
      && decide (([e] : List Expr).length + ([] : List Keyword).length + (if ([] : List Keyword).isEmpty then 0 else 1) < 30)) = true := by rfl)
    (hline : (apos.endLine == cpos.line) = true := by rfl) (hplain : (backTo cpos (starEach ([] : List Expr) X.env)).any (·.1) = false := by rfl) :
    PE X (.Call (.Attribute o "append" apos) [e] [] cpos) (upE X.K (dApp to te)) := by
  refine (pe_bm PySem.F.plainAttrs_list PySem.F.slot_list_append PySem.F.type_list_append mt_append ho (pa_cons he pa_nil h1) hbase hfew hline h1 hplain).weak ?_
  rintro σ H Q ⟨G, π, ρ, cs, R, A, s, q, k⟩
  refine ⟨G, π, ρ, cs, _, A, s, q, fun v1 H1 x cs1 G1 π1 E1 A1 r1 q1 => ?_⟩
  cases x with
  | d _ => exact q1.elim
  | ref n =>
    obtain ⟨⟨xs0, e0⟩, q1⟩ := q1
    obtain ⟨p, vs0, rfl, h3, h4, _⟩ := rep_ref A1 r1 e0
    refine ⟨.inl ⟨rfl, _, .of h4⟩, G1, π1, ρ, cs1, _, A1, s.ext E1, q1, fun v2 H2 y cs2 G2 π2 E2 A2 r2 q2 => ?_⟩
    obtain ⟨xs, e1, hz, q2⟩ := q2
    obtain ⟨p', vs, e, h5, h6, h7⟩ := rep_ref A2 (r1.ext E2) e1
    cases e
    obtain ⟨A3, E3⟩ := A2.put h5 (getC_eq e1) (RepL.app h7 (.cons r2 .nil))
    exact ⟨p, vs, v2, rfl, rfl, h6, by rw [h7.len]; exact hz, k _ _ _ _ _ _ (E1.trans (E2.trans E3)) A3 (.d .non) q2⟩

/-! ### while -/
def whileR (c : TTD) (tb : TSD) (d : EndsD) : Nat → Ev → Sto → Prop
  | 0, _, _ => False
  | n + 1, ρ, cs => c ρ cs fun b cs1 => (b = true → tb { nx := whileR c tb d n, ct := whileR c tb d n, bk := d.nx, rt := d.rt } ρ cs1) ∧ (b = false → d.nx ρ cs1)
def dWhile (c : TTD) (tb : TSD) : TSD := fun d ρ cs => ∃ n, whileR c tb d n ρ cs
theorem es_while {body : List Stmt} (hp : PassesOwn (model X.prog X.w) X.A X.env X.xe) (hc : PT X c (upT X.K tt)) (hb : PSs X body (upS X.K ts)) : PS X (.While c body [] pos) (upS X.K (dWhile tt ts)) := (ps_while hp hc hb).weak (by
  rintro D σ H ⟨G, π, ρ, cs, d, A, s, ⟨n, q⟩, C⟩
  refine ⟨fun m σ' H' => ∃ G' π' ρ' cs', Ext G π H G' π' H' ∧ At X.K G' π' cs' H' ∧ Sl X.K G' π' σ' ρ' ∧ whileR tt ts d m ρ' cs', ⟨n, G, π, ρ, cs, .refl, A, s, q⟩, ?_⟩
  rintro m σ' H' ⟨G1, π1, ρ1, cs1, E1, A1, s1, q1⟩
  cases m with
  | zero => exact q1.elim
  | succ m =>
    refine ⟨G1, π1, ρ1, cs1, _, A1, s1, q1, fun b H2 cs2 G2 π2 E2 A2 q2 => ?_⟩
    have s2 := s1.ext E2
    cases b with
    | false =>
      refine iteF ?_
      exact C.nx _ _ _ _ _ _ (E1.trans E2) A2 s2 (q2.2 rfl)
    | true =>
      refine iteT ?_
      refine ⟨fun σ3 H3 => ∃ G' π' ρ' cs', Ext G π H G' π' H3 ∧ At X.K G' π' cs' H3 ∧ Sl X.K G' π' σ3 ρ' ∧ whileR tt ts d m ρ' cs', fun σ3 H3 w => ⟨m, Nat.lt_succ_self m, w⟩, ?_⟩
      have E := E1.trans E2
      exact ⟨G2, π2, ρ1, cs2, _, A2, s2, q2.1 rfl, ⟨fun σ3 H3 ρ3 cs3 G3 π3 E3 A3 s3 q3 => ⟨G3, π3, ρ3, cs3, E.trans E3, A3, s3, q3⟩, fun σ3 H3 ρ3 cs3 G3 π3 E3 A3 s3 q3 => C.nx _ _ _ _ _ _ (E.trans E3) A3 s3 q3,
        fun σ3 H3 ρ3 cs3 G3 π3 E3 A3 s3 q3 => ⟨G3, π3, ρ3, cs3, E.trans E3, A3, s3, q3⟩, fun v H3 x cs3 G3 π3 E3 A3 r3 q3 => C.rt _ _ _ _ _ _ (E.trans E3) A3 r3 q3⟩⟩)

/-! ### for -/
def forR (ok : Sto → Prop) (g : TGD) (tb : TSD) (d : EndsD) : List S → Ev → Sto → Prop
  | [], ρ, cs => ok cs ∧ d.nx ρ cs
  | x :: xs, ρ, cs => ok cs ∧ g x ρ cs fun ρ1 cs1 => tb { nx := forR ok g tb d xs, ct := forR ok g tb d xs, bk := d.nx, rt := d.rt } ρ1 cs1
def dFor (it : TID) (g : TGD) (tb : TSD) : TSD := fun d ρ cs => it ρ cs fun src cs1 => forR src.ok g tb d src.its ρ cs1
theorem es_for {iter : Expr} {body : List Stmt} {it : TID} {g : TGD} {is : List Nat} (hp : PassesOwn (model X.prog X.w) X.A X.env X.xe) (hc : X.calm = true) (hi : PI X tg iter (upI X.K it)) (hg : PG X tg (upG X.K is g)) (hb : PSs X body (upS X.K ts))
    (hs : ∀ x, foldedSetIterable iter X.env x = pure x := by intro _; rfl) : PS X (.For tg iter body [] pos) (upS X.K (dFor it g ts)) := (ps_for hp hc hi hg hb hs).weak (by
  rintro D σ H ⟨G, π, ρ, cs, d, A, s, q, C⟩
  refine ⟨G, π, ρ, cs, _, A, s, q, fun J src H1 cs1 G1 π1 E1 A1 IR q1 => ?_⟩
  refine ⟨fun i m σ' H' => m = src.its.length - i ∧ i ≤ src.its.length ∧ ∃ G' π' ρ' cs', Ext G1 π1 H1 G' π' H' ∧ At X.K G' π' cs' H' ∧ Sl X.K G' π' σ' ρ' ∧ forR src.ok g ts d (src.its.drop i) ρ' cs', ⟨_, rfl, Nat.zero_le _, G1, π1, ρ, cs1, .refl, A1, s.ext E1, by rw [List.drop_zero]; exact q1⟩, ?_⟩
  rintro i m σ' H' ⟨rfl, hle, G2, π2, ρ2, cs2, E2, A2, s2, q2⟩
  by_cases hlt : i < src.its.length
  · have hd : src.its.drop i = src.its[i] :: src.its.drop (i + 1) := List.drop_eq_getElem_cons hlt
    rw [hd] at q2
    obtain ⟨ok2, q2⟩ := q2
    obtain ⟨go, y⟩ := IR.go i src.its[i] G2 π2 cs2 H' E2.g E2.pp A2 ok2 (by simp [hlt])
    refine .inr ⟨go, fun σ3 H3 => ∃ G' π' ρ' cs', Ext G1 π1 H1 G' π' H3 ∧ At X.K G' π' cs' H3 ∧ Sl X.K G' π' σ3 ρ' ∧ forR src.ok g ts d (src.its.drop (i + 1)) ρ' cs', fun σ3 H3 w => ⟨src.its.length - (i + 1), by omega, rfl, hlt, w⟩, fun v H3 yv => ?_⟩
    obtain ⟨G3, E3, A3, r3⟩ := y v H3 yv
    have E := E2.trans E3
    refine ⟨G3, π2, ρ2, cs2, _, _, A3, s2.ext E3, r3, q2, fun σ4 H4 ρ4 cs4 G4 π4 E4 A4 s4 _ q4 => ?_⟩
    have E' := E.trans E4
    exact ⟨G4, π4, ρ4, cs4, _, A4, s4, q4, ⟨fun σ5 H5 ρ5 cs5 G5 π5 E5 A5 s5 q5 => ⟨G5, π5, ρ5, cs5, E'.trans E5, A5, s5, q5⟩, fun σ5 H5 ρ5 cs5 G5 π5 E5 A5 s5 q5 => C.nx _ _ _ _ _ _ (E1.trans (E'.trans E5)) A5 s5 q5,
      fun σ5 H5 ρ5 cs5 G5 π5 E5 A5 s5 q5 => ⟨G5, π5, ρ5, cs5, E'.trans E5, A5, s5, q5⟩, fun v H5 x cs5 G5 π5 E5 A5 r5 q5 => C.rt _ _ _ _ _ _ (E1.trans (E'.trans E5)) A5 r5 q5⟩⟩
  · have hi : i = src.its.length := by omega
    subst hi
    rw [List.drop_length] at q2
    exact .inl ⟨IR.stop _ G2 π2 cs2 H' E2.g E2.pp A2 q2.1 (Nat.le_refl _), C.nx _ _ _ _ _ _ (E1.trans E2) A2 s2 q2.2⟩)

/-! ### comprehensions -/
def compR (ok : Sto → Prop) (g : TGD) (tt : TTD) (te : TD) (ρ0 : Ev) (k : List S → Sto → Prop) : List S → List S → Sto → Prop
  | [], acc, cs => ok cs ∧ k acc cs
  | x :: xs, acc, cs => ok cs ∧ g x ρ0 cs fun ρ1 cs1 => tt ρ1 cs1 fun b cs2 => (b = true → te ρ1 cs2 fun y cs3 => compR ok g tt te ρ0 k xs (acc ++ [y]) cs3) ∧ (b = false → compR ok g tt te ρ0 k xs acc cs2)
def dYes : TTD := fun _ cs R => R true cs
theorem epts_nil : PTs X [] (upT X.K dYes) := ⟨fun pins s σ H Q I h => by
  obtain ⟨G, π, ρ, cs, R, A, sl, q, k⟩ := h
  exact pts_nil.run pins s σ H Q I (k _ _ _ _ _ .refl A q)⟩
theorem epts_one (h : PT X c (upT X.K tt)) : PTs X [c] (upT X.K tt) := pts_one h
/-- a comprehension: k what becomes of its items -/
def dLcG (it : TID) (g : TGD) (tt : TTD) (te : TD) (vs : List Nat) (k : List S → Sto → RK → Prop) : TD := fun ρ cs R => it ρ cs fun src cs1 => src.its.length ≤ sizeLine ∧ compR src.ok g tt te (wip ρ vs) (fun acc cs2 => k acc cs2 R) src.its [] cs1
/-- a list that stands -/
def kFro (acc : List S) (cs : Sto) (R : RK) : Prop := ∃ ds, datas acc = some ds ∧ R (.d (.list ds)) cs
/-- a list that will be written -/
def kMut (acc : List S) (cs : Sto) (R : RK) : Prop := R (.ref cs.length) (cs ++ [some acc])
def kOk (K : PySem.W.Frag) (k : List S → Sto → RK → Prop) : Prop := ∀ G π cs H D vs acc R (Q : Prop), At K G π cs H → G D = none → D ∉ π → H D = some (.lst vs) → RepL K G π vs acc → k acc cs R →
  (∀ G' π' x cs', Same G G' → (∀ a o, G' a = some o → G a = some o ∨ a = D) → (∃ πn, π' = π ++ πn ∧ ∀ a ∈ πn, a = D) → At K G' π' cs' H → RepS K G' π' (.ref D) x → R x cs' → Q) → Q
theorem kok_fro : kOk K kFro := by
  rintro G π cs H D vs acc R Q A hg hn hD r ⟨ds, e, q⟩ k
  rw [datas_eq e] at r
  have sm : Same G (upd G D (.lst vs)) := same_new hg
  refine k (upd G D (.lst vs)) π _ cs sm (fun a o h => ?_) ⟨[], by simp, by simp⟩ ⟨fun b u h => ?_, A.len, A.nd, A.tr, fun n a xs h1 h2 => ?_⟩ (.d (.lst (.of upd_same) (dpAll_mono sm (dpAll_of r)))) q
  · by_cases e : a = D
    · exact .inr e
    · rw [upd_ne e] at h; exact .inl h
  · by_cases e : b = D
    · subst e; rw [upd_same] at h; cases h; exact hD
    · rw [upd_ne e] at h; exact A.kn b u h
  · obtain ⟨g, ws, e2, r2⟩ := A.st n a xs h1 h2
    have hx : a ≠ D := fun e => hn (e ▸ List.mem_of_getElem? h1)
    exact ⟨by rw [upd_ne hx]; exact g, ws, e2, RepL.mono sm ⟨[], by simp⟩ r2⟩
theorem kok_mut : kOk K kMut := by
  rintro G π cs H D vs acc R Q A hg hn hD r q k
  refine k G (π ++ [D]) _ _ (Same.refl _) (fun a o h => .inl h) ⟨[D], rfl, fun a ha => by simpa using ha⟩ (A.cell hg hn hD r) (.ref (by rw [← A.len]; simp)) q
theorem up_lc {it : TID} {g : TGD} {is vs : List Nat} {kk : List S → Sto → RK → Prop} (hk : kOk K kk) (his : ∀ i ∈ is, i ∈ vs) : ∀ σ H Q, upE K (dLcG it g tt te vs kk) σ H Q → tLc (upI K it) (upG K is g) (upT K tt) (upE K te) vs σ H Q := by
  rintro σ H Q ⟨G, π, ρ, cs, R, A, s, q, k⟩
  refine ⟨G, π, ρ, cs, _, A, s, q, fun J src H1 cs1 G1 π1 E1 A1 IR q1 D hD => ?_⟩
  obtain ⟨hz, q1⟩ := q1
  obtain ⟨A0, E0⟩ := A1.junk hD (.lst [])
  refine ⟨fun i m H' => m = src.its.length - i ∧ i ≤ src.its.length ∧ ∃ G' π' cs' vac acc, Ext G1 π1 H1 G' π' H' ∧ At K G' π' cs' H' ∧ G' D = none ∧ D ∉ π' ∧ H' D = some (.lst vac) ∧ RepL K G' π' vac acc ∧ acc.length ≤ i ∧
    compR src.ok g tt te (wip ρ vs) (fun acc cs2 => kk acc cs2 R) (src.its.drop i) acc cs', ⟨_, rfl, Nat.zero_le _, G1, π1, cs1, [], [], E0, A0, A1.free hD, A1.nin hD, upd_same, .nil, Nat.le_refl _, by rw [List.drop_zero]; exact q1⟩, ?_⟩
  rintro i m H' ⟨rfl, hle, G2, π2, cs2, vac, acc, E2, A2, gD, pD, hD2, ra, hla, q2⟩
  have s2 := (s.ext E1).ext E2
  -- the accumulated list stands through a step
  have keep : ∀ {G3 π3 H3}, Ext G2 π2 H' G3 π3 H3 → H3 D = some (.lst vac) ∧ G3 D = none ∧ D ∉ π3 := fun {G3 π3 H3} E => by
    refine ⟨E.f D _ pD hD2, ?_, ?_⟩
    · cases h : G3 D with
      | none => rfl
      | some o =>
        rcases E.gn D o h with z | z | z
        · rw [gD] at z; cases z
        · rw [hD2] at z; cases z
        · exact absurd z pD
    · obtain ⟨πn, rfl, hn⟩ := E.p
      intro hm
      rcases List.mem_append.mp hm with z | z
      · exact pD z
      · have := hn D z; rw [hD2] at this; cases this
  by_cases hlt : i < src.its.length
  · have hd : src.its.drop i = src.its[i] :: src.its.drop (i + 1) := List.drop_eq_getElem_cons hlt
    rw [hd] at q2
    obtain ⟨ok2, q2⟩ := q2
    obtain ⟨go, y⟩ := IR.go i src.its[i] G2 π2 cs2 H' E2.g E2.pp A2 ok2 (by simp [hlt])
    refine .inr ⟨go, fun H3 => i + 1 ≤ src.its.length ∧ ∃ G' π' cs' vac acc, Ext G1 π1 H1 G' π' H3 ∧ At K G' π' cs' H3 ∧ G' D = none ∧ D ∉ π' ∧ H3 D = some (.lst vac) ∧ RepL K G' π' vac acc ∧ acc.length ≤ i + 1 ∧
      compR src.ok g tt te (wip ρ vs) (fun acc cs2 => kk acc cs2 R) (src.its.drop (i + 1)) acc cs', fun H3 w => ⟨src.its.length - (i + 1), by omega, rfl, w.1, w.2⟩, fun v H3 yv => ?_⟩
    obtain ⟨G3, E3, A3, r3⟩ := y v H3 yv
    refine ⟨G3, π2, wip ρ vs, cs2, _, _, A3, (s2.wip vs).ext E3, r3, q2, fun σ4 H4 ρ4 cs4 G4 π4 E4 A4 s4 ch q4 => ⟨ch.wipe his, ?_⟩⟩
    refine ⟨G4, π4, ρ4, cs4, _, A4, s4, q4, fun b H5 cs5 G5 π5 E5 A5 q5 => ?_⟩
    have E35 := E3.trans (E4.trans E5)
    cases b with
    | false =>
      refine iteF ?_
      obtain ⟨k1, k2, k3⟩ := keep E35
      exact ⟨hlt, G5, π5, cs5, vac, acc, E2.trans E35, A5, k2, k3, k1, RepL.ext E35 ra, by omega, q5.2 rfl⟩
    | true =>
      refine iteT ?_
      refine ⟨G5, π5, ρ4, cs5, _, A5, s4.ext E5, q5.1 rfl, fun w H6 x6 cs6 G6 π6 E6 A6 r6 q6 => ?_⟩
      have E36 := E35.trans E6
      obtain ⟨k1, k2, k3⟩ := keep E36
      have ra6 := RepL.ext E36 ra
      refine ⟨vac, k1, by rw [ra.len]; exact Nat.lt_of_lt_of_le (Nat.lt_of_le_of_lt hla hlt) hz, hlt, G6, π6, cs6, vac ++ [w], acc ++ [x6], ?_, ?_, k2, k3, upd_same, RepL.app ra6 (.cons r6 .nil), by simp; omega, q6⟩
      · have E := E2.trans E36
        refine ⟨E.g, E.p, fun a o ha e => ?_, fun a e => ?_, E.gn⟩
        · rw [upd_ne (ne_of_none e hD)]; exact E.f a o ha e
        · by_cases h : a = D
          · subst h; exact hD
          · rw [upd_ne h] at e; exact E.dm a e
      · refine ⟨fun a o e => ?_, A6.len, A6.nd, fun a ha => ?_, fun n a xs h1 h2 => ?_⟩
        · rw [upd_ne (ne_of_none e k2)]; exact A6.kn a o e
        · have h : a ≠ D := fun z => k3 (z ▸ ha)
          rw [upd_ne h]; exact A6.tr a ha
        · have h : a ≠ D := fun z => k3 (z ▸ List.mem_of_getElem? h1)
          rw [upd_ne h]; exact A6.st n a xs h1 h2
  · have hi : i = src.its.length := by omega
    subst hi
    rw [List.drop_length] at q2
    refine .inl ⟨IR.stop _ G2 π2 cs2 H' E2.g E2.pp A2 q2.1 (Nat.le_refl _), ?_⟩
    refine hk G2 π2 cs2 H' D vac acc R _ A2 gD pD hD2 ra q2.2 fun G' π' x cs' sm gn hp A' r' q' => ?_
    obtain ⟨πn, rfl, hn⟩ := hp
    obtain ⟨πm, e2, hm⟩ := E2.p
    refine k _ _ _ _ _ _ (E1.trans (⟨E2.g.trans sm, ⟨πm ++ πn, by rw [e2, List.append_assoc], fun a ha => ?_⟩, E2.f, E2.dm, fun a o e => ?_⟩ : Ext G1 π1 H1 G' (π2 ++ πn) H')) A' r' q'
    · rcases List.mem_append.mp ha with z | z
      · exact hm a z
      · rw [hn a z]; exact hD
    · rcases gn a o e with z | z
      · exact E2.gn a o z
      · rw [z]; exact .inr (.inl hD)
theorem ee_lcG {elt iter : Expr} {ifs : List Expr} {scope : Scope} {own : List (Str × Nat)} {it : TID} {g : TGD} {is : List Nat} {kk : List S → Sto → RK → Prop} (hk : kOk X.K kk) (his : ∀ i ∈ is, i ∈ own.map (·.2)) (hc : X.calm = true) (hN : X.N.Nodup) (hi : PI X tg iter (upI X.K it)) (ok : BlkOk X.N X.env.scope scope own)
    (hg : ∀ (s : Shared) (H : Hp) (C : Addr) (cl : List (Str × Addr)) (fp : List Addr), PG (X.blk s H scope (compEnvC scope cl C X.env) fp) tg (upG X.K is g)) (ht : ∀ (s : Shared) (H : Hp) (C : Addr) (cl : List (Str × Addr)) (fp : List Addr), PTs (X.blk s H scope (compEnvC scope cl C X.env) fp) ifs (upT X.K tt))
    (he : ∀ (s : Shared) (H : Hp) (C : Addr) (cl : List (Str × Addr)) (fp : List Addr), PE (X.blk s H scope (compEnvC scope cl C X.env) fp) elt (upE X.K te)) (hs : ∀ x, foldedSetIterable iter X.env x = pure x := by intro _; rfl) :
    PE X (.ListComp elt [⟨tg, iter, ifs, 0⟩] scope pos) (upE X.K (dLcG it g tt te (own.map (·.2)) kk)) := (pe_lc hc hN hi ok hg ht he hs).weak (up_lc hk his)
/-- name = [..] on one line -/
theorem es_setLcG (i : Nat) {y : Str} {py : Pos} {elt iter : Expr} {ifs : List Expr} {scope : Scope} {own : List (Str × Nat)} {spos : Pos} {it : TID} {g : TGD} {is : List Nat} {kk : List S → Sto → RK → Prop} (hk : kOk X.K kk) (his : ∀ i ∈ is, i ∈ own.map (·.2)) (hc : X.calm = true) (hN : X.N.Nodup) (hy : X.N[i]? = some y) (hyl : X.env.scope.names.lookup y = some .local)
    (hsw : swapsWith (.ListComp elt [⟨tg, iter, ifs, 0⟩] scope pos) (some (.Name y py)) spos.line X.env = pure true) (hi : PI X tg iter (upI X.K it)) (ok : BlkOk X.N X.env.scope scope own)
    (hg : ∀ (s : Shared) (H : Hp) (C : Addr) (cl : List (Str × Addr)) (fp : List Addr), PG (X.blk s H scope (compEnvC scope cl C X.env) fp) tg (upG X.K is g)) (ht : ∀ (s : Shared) (H : Hp) (C : Addr) (cl : List (Str × Addr)) (fp : List Addr), PTs (X.blk s H scope (compEnvC scope cl C X.env) fp) ifs (upT X.K tt))
    (he : ∀ (s : Shared) (H : Hp) (C : Addr) (cl : List (Str × Addr)) (fp : List Addr), PE (X.blk s H scope (compEnvC scope cl C X.env) fp) elt (upE X.K te)) (hs : ∀ x, foldedSetIterable iter X.env x = pure x := by intro _; rfl) :
    PS X (.Assign [.Name y py] (.ListComp elt [⟨tg, iter, ifs, 0⟩] scope pos) spos) (upS X.K (dAsg (dLcG it g tt te (own.map (·.2)) kk) (dgName i))) := (ps_setLc hc hN hy hyl hsw hi ok hg ht he hs).weak (by
  rintro D σ H ⟨G, π, ρ, cs, d, A, s, q, C⟩
  refine up_lc hk his σ H _ ⟨G, π, ρ, cs, _, A, s, q, fun v H1 x cs1 G1 π1 E1 A1 r1 q1 => ?_⟩
  exact C.nx _ _ _ _ _ _ E1 A1 ((s.ext E1).set i r1) q1)

/-! ### a def's body -/
/-- the slots at the entry -/
def startD (n : Nat) (xs : List S) : Ev := xs.map some ++ List.replicate (n - xs.length) none
theorem sl_start {G : Hp} {π : List Addr} {N : List Str} {vs : List V} {xs : List S} (r : RepL K G π vs xs) : Sl K G π (L2.start N vs) (startD N.length xs) := by
  unfold L2.start startD
  refine ⟨by simp [r.len], fun i x e => ?_⟩
  by_cases hi : i < xs.length
  · rw [List.getElem?_append_left (by simpa using hi), List.getElem?_map] at e
    cases q : xs[i]? with
    | none => rw [q] at e; cases e
    | some y =>
      rw [q] at e
      cases e
      obtain ⟨v, hv, rv⟩ := r.get q
      exact ⟨v, by rw [List.getElem?_append_left (by rw [List.length_map, r.len]; exact hi), List.getElem?_map, hv]; rfl, rv⟩
  · rw [List.getElem?_append_right (by simpa using Nat.le_of_not_lt hi)] at e
    have := List.getElem?_eq_some_iff.mp e
    simp at this
/-- what a body is to reach: the cells made within are forgotten, or handed on -/
def rtD (n : Nat) (R : RK) : RK := fun x cs' => R x cs' ∨ ∃ cs1 gs, cs' = cs1 ++ gs ∧ cs1.length = n ∧ Okc n cs1 ∧ Okx n x ∧ R x cs1
abbrev endsD (n : Nat) (R : RK) : EndsD := { nx := fun _ cs' => rtD n R (.d .none) cs', rt := rtD n R, bk := fun _ _ => False, ct := fun _ _ => False }
end
section
variable {P : Program} {w : World} {K : PySem.W.Frag} {mg : Str → Option Value} {base : Heap}
theorem fn_okD {x : Str} {st : Stmt} {f : Addr} {fd : FuncData} {N ps : List Str} {k n : Nat} {T : DSp} (F : Fun K x x st f fd) (S : FnScope N ps (defScope st)) (hn : ps.length = n)
    (hbody : ∀ (cdv : Value) (A : Around) (outer : List Env) (s : Shared) (H : Hp), Room k (A.deeper (envOfC x (defScope st) s.heap.objs.size f cdv)) →
      ∃ t, PSs (cxOf CX0 P w K mg base N x (defScope st) f cdv A outer s H E0).nox (defBody st) (upS K t) ∧ ∀ xs cs R, xs.length = n → Okc cs.length cs → T xs cs R → t (endsD cs.length R) (startD N.length xs) cs) :
    FnOk P w K mg base CX0 (k + 1) f fd ps (spD K n T) := by
  refine F.ok S (fun vs H Q E h => by rw [hn]; exact h.1) (fun cdv A outer s H vs Q E hr h => ?_)
  obtain ⟨hl, G, π, cs, xs, R, A1, r, q, k⟩ := h
  obtain ⟨t, ht, hq⟩ := hbody cdv A outer s H hr
  refine ⟨upS K t, ⟨fun pins s' σ' H' D' I' q' => ht.run pins s' σ' H' D' I' q'⟩, G, π, startD N.length xs, cs, endsD cs.length R, A1, sl_start r, hq xs cs R (by rw [← r.len]; exact hl) A1.okc q, ?_⟩
  have fin : ∀ v H' x cs' G' π', Ext G π H G' π' H' → At K G' π' cs' H' → RepS K G' π' v x → rtD cs.length R x cs' → Q v H' := fun v H' x cs' G' π' E' A' r' q' => by
    rcases q' with q' | ⟨cs1, gs, rfl, hl, hc, hx, q'⟩
    · exact k v H' x cs' G' π' E' A' r' q'
    · obtain ⟨πn, rfl, hn⟩ := E'.p
      have hl2 : π.length = cs1.length := by rw [A1.len, hl]
      refine k v H' x cs1 G' π ⟨E'.g, ⟨[], by simp, by simp⟩, E'.f, E'.dm, E'.gn⟩ (A'.drop hl2 (by rw [hl]; exact hc)) (repS_back r' (by rw [A1.len]; exact hx)) q'
  exact ⟨fun σ' H' ρ' cs' G' π' E' A' s' q' => fin _ _ _ _ _ _ E' A' (.d .non) q', fun _ _ _ _ _ _ _ _ _ q => q.elim, fun _ _ _ _ _ _ _ _ _ q => q.elim, fin⟩
end
end FL

set_option Elab.async false
set_option linter.all false
set_option maxRecDepth 100000
set_option maxHeartbeats 1000000
namespace FL
open PySem L2 RZ PyProof.Rows

section
variable {X : Cx} {K : PySem.W.Frag} {a b c e tg : Expr} {es : List Expr} {ta tb tc te : TD} {t : TAD} {tt : TTD} {pos p : Pos} {x : Str}
theorem ee_chain {op op' : CmpOp} {r r' : R2} {rd rd' : RD2} (h : Sim2 X.K r rd) (h' : Sim2 X.K r' rd') (ho : OpR X (compareOp op) r) (ho' : OpR X (compareOp op') r') (ha : PE X a (upE X.K ta)) (hb : PE X b (upE X.K tb)) (hc : PE X c (upE X.K tc)) (hm : lastMarks [op, op'] [b, c] = false := by with_unfolding_all rfl) :
    PE X (.Compare a [op, op'] [b, c] pos) (upE X.K (dChain rd rd' ta tb tc)) := (pe_chain ho ho' ha hb hc hm).weak (up_chain h h')
theorem et_chain {op op' : CmpOp} {r r' : R2} {rd rd' : RD2} (h : Sim2 X.K r rd) (h' : Sim2 X.K r' rd') (ho : OpR X (compareOp op) r) (ho' : OpR X (compareOp op') r') (ha : PE X a (upE X.K ta)) (hb : PE X b (upE X.K tb)) (hc : PE X c (upE X.K tc)) (hm : lastMarks [op, op'] [b, c] = false := by with_unfolding_all rfl) :
    PT X (.Compare a [op, op'] [b, c] pos) (upT X.K (dTestR (dChain rd rd' ta tb tc))) := (pt_chain ho ho' ha hb hc hm).weak (up_test (up_chain h h'))
/-- a + b: ints, tuples, texts, lists -/
def qAddG : RD2 := fun x y cs R => match x with
  | .d (.int i) => ∃ j, y = si j ∧ R (si (i + j)) cs
  | .d (.tuple ds) => ∃ es, y = .d (.tuple es) ∧ ds.length + es.length ≤ sizeLine ∧ R (.d (.tuple (ds ++ es))) cs
  | .d (.str z) => ∃ w, y = .d (.str w) ∧ z.length + w.length ≤ sizeLine ∧ R (.d (.str (z ++ w))) cs
  | _ => False
theorem sim_addG : Sim2 K (fun x y H Q => rI0 (fun i j => .int (i + j)) x y H Q ∨ rCatA K x y H Q ∨ ∃ i j, x = .str i ∧ y = .str j ∧ i.length + j.length ≤ sizeLine ∧ Q (.str (i ++ j)) H) qAddG := by
  intro G π cs H v w x y R Q A rv rw q k
  cases x with
  | ref n => exact q.elim
  | d x =>
    cases x <;> try (exact q.elim; done)
    · obtain ⟨j, rfl, q⟩ := q
      exact .inl (sim_I0 G π cs H v w _ _ R Q A rv rw ⟨_, _, rfl, rfl, q⟩ k)
    · obtain ⟨j, rfl, hz, q⟩ := q
      cases rv with
      | d rv => cases rv; cases rw with
        | d rw => cases rw; exact .inr (.inr ⟨_, _, rfl, rfl, hz, k _ _ _ _ _ _ .refl A (.d (.str _)) q⟩)
    · obtain ⟨es, rfl, hz, q⟩ := q
      exact .inr (.inl (sim_catT G π cs H v w _ _ R Q A rv rw ⟨_, _, rfl, rfl, hz, q⟩ k))
theorem ee_addG (ha : PE X a (upE X.K ta)) (hb : PE X b (upE X.K tb)) : PE X (.BinOp a .Add b pos) (upE X.K (dOp qAddG ta tb)) := ee_op sim_addG (op_add.or (op_catA.or op_add_str)) ha hb
end

/-! ### the law's own end -/
/-- a law's promise: at most n ints come, True goes -/
def TLaw (n : Nat) : DSp := fun xs cs R => cs = [] ∧ ∃ ns : List Int, xs = [.d (.list (ns.map PyData.int))] ∧ ns.length ≤ n ∧ ∀ cs', R (sb true) cs'
theorem dp_script {K : PySem.W.Frag} {H : Hp} : ∀ ns : List Int, DpAll K H (ns.map V.int) (ns.map PyData.int)
  | [] => .nil
  | n :: ns => .cons (.int n) (dp_script ns)
theorem law_sp {n : Nat} {K : PySem.W.Frag} {H : Hp} {a : Addr} {ns : List Int} {E : XK} (hl : ns.length ≤ n) (h : SqL K H a (ns.map V.int)) : spD K 1 (TLaw n) [.ref a] H (fun v _ => v = .bl true) E := by
  refine ⟨rfl, H, [], [], [.d (.list (ns.map PyData.int))], fun x _ => x = sb true, ⟨Same.refl _, rfl, List.nodup_nil, (fun a h => by simp at h), (fun n a xs h => by simp at h)⟩, .cons (.d (.lst h (dp_script ns))) .nil, ⟨rfl, ns, rfl, hl, fun _ => rfl⟩, ?_⟩
  rintro v H' x cs' G' π' E' A' r rfl
  exact rep_bl r
theorem walkD {l : PySem.W.OpenLaw} {q : Program} {loose : List Str} {XP : (Str → Option Value) → Heap → Prop} {YP : World → Heap → Prop} {d : DefRec} {K : Params → PySem.W.Frag} {k : Nat} (hn : l.most = some 63) (hdf : d.params.defaults = []) (hr : Room k callerA)
    (hY : ∀ (w : World) (h : Heap), YP w h → (K w.params).In h)
    (F : ∀ (w : World) (mg : Str → Option Value) (fa : Addr) (h : Heap), (K w.params).In h → h.Ns mainGlobals mg → mg d.name = some (.ref fa) →
      ∃ fd : FuncData, (∀ (s : Shared) (u : Value), BindsTo s fd ⟨[u], []⟩ [("script", u)]) ∧ ∀ base : Heap, (K w.params).In base → base.Ns mainGlobals mg → FnOk l.prog w (K w.params) mg base CX0 k fa fd ["script"] (spD (K w.params) 1 (TLaw 63))) :
    PySem.W.WalkO q loose XP YP l.row.toRowW d [] (fun f vs => PySem.call f vs) :=
  L2.walk_of (n := 63) (k := k) (x := "script") (CX := fun _ => CX0) (sp := fun w => spD (K w.params) 1 (TLaw 63)) hn (by decide) hdf hr hY F (fun _ _ a ns hl _ hS => law_sp hl hS) fun _ _ _ _ _ z => z

/-- from the head's facts: a def of the module -/
theorem defat {P : Program} {w : World} {K : PySem.W.Frag} {mg : Str → Option Value} {base : Heap} {h : Heap} {x : Str} {st : Stmt} {f : Addr} {oc : Value} {od an : Option Addr} {osl : Array (Option Value)} {kV doc pm cdv ct : Value} {ps : List Str} {k : Nat} {T : DSp}
    (X : K.In h) (G : h.Ns mainGlobals mg) (a : PySem.W.nsIn K mainGlobals x = some (some (.ref f)))
    (l : K.lookup f = some ⟨oc, od, .func (PySem.W.fnOf x x (defArgs st) (defBody st) (defScope st) .none kV doc pm an cdv ct), osl⟩)
    (c : PySem.W.codeIn K cdv x = true) (kp : PySem.W.keepIn K (.ref f) = true)
    (hb : ∀ (kV doc pm : Value) (an : Option Addr) (cdv ct : Value) (us : List Value), us.length = ps.length → bindArgs (PySem.W.fnOf x x (defArgs st) (defBody st) (defScope st) .none kV doc pm an cdv ct) ⟨us, []⟩ = pure (ps.zip us))
    (ok : ∀ (f : Addr) (fd : FuncData), Fun K x x st f fd → FnOk P w K mg base CX0 k f fd ps (spD K ps.length T)) : DefAt P w K mg base k x ps T :=
  ⟨f, _, ok _ _ (fun_mk l c kp), PySem.W.mg_of X G a, kp, (fun_mk (st := st) l c kp).binds hb⟩
/-- a row of the head's facts for a def -/
structure Row (K : PySem.W.Frag) (x : Str) (st : Stmt) : Prop where
  ex : ∃ (f : Addr) (oc : Value) (od an : Option Addr) (osl : Array (Option Value)) (kV doc pm cdv ct : Value), PySem.W.nsIn K mainGlobals x = some (some (.ref f)) ∧
    K.lookup f = some ⟨oc, od, .func (PySem.W.fnOf x x (defArgs st) (defBody st) (defScope st) .none kV doc pm an cdv ct), osl⟩ ∧ PySem.W.codeIn K cdv x = true ∧ PySem.W.keepIn K (.ref f) = true
theorem Row.mk' {K : PySem.W.Frag} {x : Str} {st : Stmt} {f : Addr} {oc : Value} {od an : Option Addr} {osl : Array (Option Value)} {kV doc pm cdv ct : Value} (a : PySem.W.nsIn K mainGlobals x = some (some (.ref f)))
    (l : K.lookup f = some ⟨oc, od, .func (PySem.W.fnOf x x (defArgs st) (defBody st) (defScope st) .none kV doc pm an cdv ct), osl⟩)
    (c : PySem.W.codeIn K cdv x = true) (kp : PySem.W.keepIn K (.ref f) = true) : Row K x st := ⟨f, oc, od, an, osl, kV, doc, pm, cdv, ct, a, l, c, kp⟩
theorem Row.at_ {P : Program} {w : World} {K : PySem.W.Frag} {mg : Str → Option Value} {base : Heap} {h : Heap} {x : Str} {st : Stmt} {ps : List Str} {k : Nat} {T : DSp} (r : Row K x st)
    (X : K.In h) (G : h.Ns mainGlobals mg)
    (hb : ∀ (kV doc pm : Value) (an : Option Addr) (cdv ct : Value) (us : List Value), us.length = ps.length → bindArgs (PySem.W.fnOf x x (defArgs st) (defBody st) (defScope st) .none kV doc pm an cdv ct) ⟨us, []⟩ = pure (ps.zip us))
    (ok : ∀ (f : Addr) (fd : FuncData), Fun K x x st f fd → FnOk P w K mg base CX0 k f fd ps (spD K ps.length T)) : DefAt P w K mg base k x ps T :=
  let ⟨_, _, _, _, _, _, _, _, _, _, a, l, c, kp⟩ := r.ex
  defat X G a l c kp hb ok
/-- the law itself -/
theorem Row.law {P : Program} {w : World} {K : PySem.W.Frag} {mg : Str → Option Value} {h : Heap} {x : Str} {st : Stmt} {y : Str} {k : Nat} {T : DSp} {fa : Addr} (r : Row K x st)
    (X : K.In h) (G : h.Ns mainGlobals mg) (hfa : mg x = some (.ref fa))
    (hb : ∀ (kV doc pm : Value) (an : Option Addr) (cdv ct : Value) (u : Value), bindArgs (PySem.W.fnOf x x (defArgs st) (defBody st) (defScope st) .none kV doc pm an cdv ct) ⟨[u], []⟩ = pure [(y, u)])
    (ok : ∀ (base : Heap), K.In base → base.Ns mainGlobals mg → ∀ (f : Addr) (fd : FuncData), Fun K x x st f fd → FnOk P w K mg base CX0 k f fd [y] (spD K 1 T)) :
    ∃ fd : FuncData, (∀ (s : Shared) (u : Value), BindsTo s fd ⟨[u], []⟩ [(y, u)]) ∧ ∀ base : Heap, K.In base → base.Ns mainGlobals mg → FnOk P w K mg base CX0 k fa fd [y] (spD K 1 T) := by
  obtain ⟨f, oc, od, an, osl, kV, doc, pm, cdv, ct, a, l, c, kp⟩ := r.ex
  have e := hfa.symm.trans (PySem.W.mg_of X G a)
  cases e
  exact ⟨_, fun s u => .of_eq (hb ..), fun base hb hg => ok base hb hg _ _ (fun_mk l c kp)⟩
/-- a tuple of whole numbers at the module's top -/
theorem glob_ints {K : PySem.W.Frag} {mg : Str → Option Value} {h : Heap} {x : Str} {a : Addr} {dd : Option Addr} {its : Array Value} {n : Nat} {sl : Array (Option Value)} {ns : List Int} (X : K.In h) (G : h.Ns mainGlobals mg)
    (e : PySem.W.nsIn K mainGlobals x = some (some (.ref a))) (l : K.lookup a = some ⟨.type "tuple", dd, .seq its n, sl⟩) (hz : its.size ≤ 1000) (r : Vals (ns.map V.int) its.toList) : GlobD K mg x (.tuple (ns.map PyData.int)) :=
  ⟨.ref a, .ref a, PySem.W.mg_of X G e, rfl, fun G' => .tup (.inr ⟨_, its, n, l, rfl, rfl, Nat.le_trans hz (by decide), r⟩) (dp_script ns)⟩
theorem glob01 {K : PySem.W.Frag} {mg : Str → Option Value} {h : Heap} {x : Str} {a : Addr} {dd : Option Addr} {its : Array Value} {n : Nat} {sl : Array (Option Value)} (X : K.In h) (G : h.Ns mainGlobals mg)
    (e : PySem.W.nsIn K mainGlobals x = some (some (.ref a))) (l : K.lookup a = some ⟨.type "tuple", dd, .seq its n, sl⟩) (hz : its.size ≤ 1000) (r : Vals [V.int 0, V.int 1] its.toList) : GlobD K mg x (.tuple [.int 0, .int 1]) := glob_ints (ns := [0, 1]) X G e l hz r
end FL

set_option Elab.async false
set_option linter.all false
set_option maxRecDepth 100000
set_option maxHeartbeats 1000000
namespace FL
open PySem L2
/-! running a reading -/
theorem eqv_ii (i j : Int) : PyData.eqv (.int i) (.int j) = decide (i = j) := by rw [PyData.eqv]; exact Bool.beq_eq_decide_eq i j
theorem eqv_bb (i j : Bool) : PyData.eqv (.bool i) (.bool j) = (i == j) := by rw [PyData.eqv]
theorem eqv_ss (i j : Str) : PyData.eqv (.str i) (.str j) = (i == j) := by rw [PyData.eqv]
theorem eqv_tt (xs ys : List PyData) : PyData.eqv (.tuple xs) (.tuple ys) = PyData.eqvAll xs ys := by rw [PyData.eqv]
theorem eqv_ll (xs ys : List PyData) : PyData.eqv (.list xs) (.list ys) = PyData.eqvAll xs ys := by rw [PyData.eqv]
theorem eqvA_n : PyData.eqvAll [] [] = true := by rw [PyData.eqvAll]
theorem eqvA_c (x y : PyData) (xs ys : List PyData) : PyData.eqvAll (x :: xs) (y :: ys) = (PyData.eqv x y && PyData.eqvAll xs ys) := by rw [PyData.eqvAll]
theorem eqvA_nc (y : PyData) (ys : List PyData) : PyData.eqvAll [] (y :: ys) = false := by rw [PyData.eqvAll]
theorem eqvA_cn (y : PyData) (ys : List PyData) : PyData.eqvAll (y :: ys) [] = false := by rw [PyData.eqvAll]
theorem rt_l {n : Nat} {R : RK} {x : S} {cs : Sto} (h : R x cs) : rtD n R x cs := .inl h
/-- what was made within is forgotten -/
theorem rt_g {R : RK} {x : PyData} {cs : Sto} (gs : Sto) (hc : Okc cs.length cs) (h : R (.d x) cs) : rtD cs.length R (.d x) (cs ++ gs) := .inr ⟨cs, gs, rfl, rfl, hc, trivial, h⟩
theorem sd1 (x : S) (n : Nat) : startD (n + 1) [x] = some x :: List.replicate n none := by simp [startD]
theorem sd2 (x y : S) (n : Nat) : startD (n + 2) [x, y] = some x :: some y :: List.replicate n none := by simp [startD]
theorem sd3 (x y z : S) (n : Nat) : startD (n + 3) [x, y, z] = some x :: some y :: some z :: List.replicate n none := by simp [startD]
theorem rg0 (lo : Int) : rgS lo 0 = [] := rfl
theorem rgS_succ (lo : Int) (n : Nat) : rgS lo (n + 1) = si lo :: rgS (lo + 1) n := by
  unfold rgS
  rw [List.range_succ_eq_map, List.map_cons, List.map_map]
  congr 1
  · simp
  · refine List.map_congr_left fun k _ => ?_
    show si (lo + ((k + 1 : Nat) : Int)) = si (lo + 1 + (k : Int))
    rw [show lo + ((k + 1 : Nat) : Int) = lo + 1 + (k : Int) by omega]
theorem rgS_len (lo : Int) (n : Nat) : (rgS lo n).length = n := by simp [rgS]
theorem forR_nil {ok : Sto → Prop} {g : TGD} {tb : TSD} {d : EndsD} {ρ : Ev} {cs : Sto} : forR ok g tb d [] ρ cs = (ok cs ∧ d.nx ρ cs) := rfl
theorem forR_cons {ok : Sto → Prop} {g : TGD} {tb : TSD} {d : EndsD} {x : S} {xs : List S} {ρ : Ev} {cs : Sto} : forR ok g tb d (x :: xs) ρ cs = (ok cs ∧ g x ρ cs fun ρ1 cs1 => tb { nx := forR ok g tb d xs, ct := forR ok g tb d xs, bk := d.nx, rt := d.rt } ρ1 cs1) := rfl
theorem map_app (row : List Int) (x : Int) : row.map si ++ [si x] = (row ++ [x]).map si := by simp
theorem datas_si (row : List Int) : datas (row.map si) = some (row.map PyData.int) := by
  have := datas_map (row.map PyData.int)
  rw [List.map_map] at this
  exact this
theorem atI_at {α : Type} {xs : List α} {i : Int} {x : α} (h0 : 0 ≤ i) (h : xs[i.toNat]? = some x) : atI xs i = some x := by
  have e : i = (i.toNat : Int) := by omega
  rw [e]
  exact atI_nat h
theorem atI_of {α : Type} {xs : List α} {i : Int} (h0 : 0 ≤ i) (h : i < (xs.length : Int)) : ∃ x, x ∈ xs ∧ atI xs i = some x := by
  have hl : i.toNat < xs.length := by omega
  exact ⟨xs[i.toNat], List.getElem_mem hl, atI_at h0 (by simp [hl])⟩
/-! the rules by the form of what comes -/
section
variable {n m : Nat} {ds es : List PyData} {xs : List S} {cs : Sto} {R : RK} {y : S} {z : Str} {i j : Int} {b c : Bool} {ρ : Ev}
theorem ixk_l : ixkR n (.d (.list ds)) cs R = ∃ d, ds[n]? = some d ∧ R (.d d) cs := rfl
theorem ixk_t : ixkR n (.d (.tuple ds)) cs R = ∃ d, ds[n]? = some d ∧ R (.d d) cs := rfl
theorem ixk_r : ixkR n (.ref m) cs R = ∃ xs x, getC cs m = some xs ∧ xs[n]? = some x ∧ R x cs := rfl
theorem ixr_l : dIxR (.d (.list ds)) y cs R = ∃ i d, y = si i ∧ atI ds i = some d ∧ R (.d d) cs := rfl
theorem ixr_t : dIxR (.d (.tuple ds)) y cs R = ∃ i d, y = si i ∧ atI ds i = some d ∧ R (.d d) cs := rfl
theorem ixr_s : dIxR (.d (.str z)) y cs R = ∃ i c, y = si i ∧ z.length ≤ sizeLine ∧ atI z.cps.toList i = some c ∧ R (.d (.str ⟨#[c]⟩)) cs := rfl
theorem ixr_r : dIxR (.ref m) y cs R = ∃ i xs x, y = si i ∧ getC cs m = some xs ∧ atI xs i = some x ∧ R x cs := rfl
variable {RB : Bool → Sto → Prop} {RI : Src → Sto → Prop} {RG : Ev → Sto → Prop} {gs : TGsD}
theorem tru_n : dTruR (.d .none) cs RB = RB false cs := rfl
theorem tru_b : dTruR (.d (.bool b)) cs RB = RB b cs := rfl
theorem tru_i : dTruR (.d (.int i)) cs RB = RB (i != 0) cs := rfl
theorem tru_l : dTruR (.d (.list ds)) cs RB = RB (!ds.isEmpty) cs := rfl
theorem tru_t : dTruR (.d (.tuple ds)) cs RB = RB (!ds.isEmpty) cs := rfl
theorem tru_s : dTruR (.d (.str z)) cs RB = (z.length ≤ sizeLine ∧ RB ((z.length : Int) != 0) cs) := rfl
theorem tru_r : dTruR (.ref m) cs RB = ∃ xs, getC cs m = some xs ∧ RB (!xs.isEmpty) cs := rfl
theorem its_l : itemsR (.d (.list ds)) cs RI = RI ⟨ds.map S.d, okT⟩ cs := rfl
theorem its_t : itemsR (.d (.tuple ds)) cs RI = RI ⟨ds.map S.d, okT⟩ cs := rfl
theorem its_r : itemsR (.ref m) cs RI = ∃ xs, getC cs m = some xs ∧ RI ⟨xs, fun cs => getC cs m = some xs⟩ cs := rfl
theorem gtup_t : dgTup n gs (.d (.tuple ds)) ρ cs RG = (ds.length = n ∧ gs (ds.map S.d) ρ cs RG) := rfl
theorem eqk_i : eqOk (.int i) (.int j) = True := rfl
theorem eqk_b : eqOk (.bool b) (.bool c) = True := rfl
theorem eqk_s {w : Str} : eqOk (.str z) (.str w) = True := rfl
theorem eqk_t : eqOk (.tuple ds) (.tuple es) = (SeqAt.shaped (.tuple ds) = true ∧ SeqAt.shaped (.tuple es) = true) := rfl
theorem eqk_l : eqOk (.list ds) (.list es) = (SeqAt.shaped (.list ds) = true ∧ SeqAt.shaped (.list es) = true) := rfl
theorem len_l : cLen [.d (.list ds)] cs R = R (si (ds.length : Int)) cs := rfl
theorem len_t : cLen [.d (.tuple ds)] cs R = R (si (ds.length : Int)) cs := rfl
theorem len_s : cLen [.d (.str z)] cs R = (z.length ≤ sizeLine ∧ R (si (z.length : Int)) cs) := rfl
theorem len_r : cLen [.ref m] cs R = ∃ xs, getC cs m = some xs ∧ R (si (xs.length : Int)) cs := rfl
theorem int_i : cInt [.d (.int i)] cs R = R (si i) cs := rfl
theorem int_b : cInt [.d (.bool b)] cs R = R (si (if b then 1 else 0)) cs := rfl
theorem sum_l : cSum [.d (.list ds)] cs R = ∃ ns, intsOf ds = some ns ∧ R (si ns.sum) cs := rfl
theorem sum_r : cSum [.ref m] cs R = ∃ xs ds ns, getC cs m = some xs ∧ datas xs = some ds ∧ intsOf ds = some ns ∧ R (si ns.sum) cs := rfl
theorem tup_l : cTup [.d (.list ds)] cs R = R (.d (.tuple ds)) cs := rfl
theorem tup_t : cTup [.d (.tuple ds)] cs R = R (.d (.tuple ds)) cs := rfl
theorem tup_r : cTup [.ref m] cs R = ∃ xs ds, getC cs m = some xs ∧ datas xs = some ds ∧ R (.d (.tuple ds)) cs := rfl
theorem lis_l : cList [.d (.list ds)] cs R = R (.d (.list ds)) cs := rfl
theorem lis_t : cList [.d (.tuple ds)] cs R = R (.d (.list ds)) cs := rfl
theorem lis_r : cList [.ref m] cs R = ∃ xs ds, getC cs m = some xs ∧ datas xs = some ds ∧ R (.d (.list ds)) cs := rfl
theorem lim_l : cListM [.d (.list ds)] cs R = R (.ref cs.length) (cs ++ [some (ds.map S.d)]) := rfl
theorem lim_t : cListM [.d (.tuple ds)] cs R = R (.ref cs.length) (cs ++ [some (ds.map S.d)]) := rfl
theorem lim_r : cListM [.ref m] cs R = ∃ xs, getC cs m = some xs ∧ R (.ref cs.length) (cs ++ [some xs]) := rfl
theorem zip_t : dZipR (.d (.tuple ds)) (.d (.tuple es)) cs RI = RI ⟨zipD ds es, okT⟩ cs := rfl
theorem zip_l : dZipR (.d (.list ds)) (.d (.list es)) cs RI = RI ⟨zipD ds es, okT⟩ cs := rfl
theorem sl_l {lo hi : Option Int} : dSlR (.d (.list ds)) lo hi cs R = R (.d (.list (cutD ds lo hi))) cs := rfl
theorem sl_t {lo hi : Option Int} : dSlR (.d (.tuple ds)) lo hi cs R = R (.d (.tuple (cutD ds lo hi))) cs := rfl
theorem sl_r {lo hi : Option Int} : dSlR (.ref m) lo hi cs R = ∃ ds, getC cs m = some (ds.map S.d) ∧ R (.d (.list (cutD ds lo hi))) cs := rfl
end
end FL

set_option Elab.async false
set_option linter.all false
set_option maxRecDepth 100000
set_option maxHeartbeats 1000000
namespace FR
open PySem L2 FL
/-! ratios as the program writes them: pairs in lowest terms -/
def B (n : Nat) (i : Int) : Prop := i.natAbs < 2 ^ n
def RB (n : Nat) (r : Rat) : Prop := r.num.natAbs < 2 ^ n ∧ r.den < 2 ^ n
def encR (r : Rat) : PyData := .tuple [.int r.num, .int (r.den : Int)]
abbrev sr (r : Rat) : S := .d (encR r)
theorem two_le {a b : Nat} (h : a ≤ b) : (2 : Nat) ^ a ≤ 2 ^ b := Nat.pow_le_pow_right (by decide) h
theorem B.mono {n m : Nat} {i : Int} (h : B n i) (hm : n ≤ m) : B m i := Nat.lt_of_lt_of_le h (two_le hm)
theorem RB.mono {n m : Nat} {r : Rat} (h : RB n r) (hm : n ≤ m) : RB m r := ⟨Nat.lt_of_lt_of_le h.1 (two_le hm), Nat.lt_of_lt_of_le h.2 (two_le hm)⟩
theorem B.mul {n m : Nat} {i j : Int} (h : B n i) (h' : B m j) : B (n + m) (i * j) := by
  unfold B at *
  rw [Int.natAbs_mul, Nat.pow_add]
  exact Nat.mul_lt_mul'' h h'
theorem B.add {n m : Nat} {i j : Int} (h : B n i) (h' : B m j) : B (max n m + 1) (i + j) := by
  unfold B at *
  have a := Int.natAbs_add_le i j
  have h1 := Nat.lt_of_lt_of_le h (two_le (Nat.le_max_left n m))
  have h2 := Nat.lt_of_lt_of_le h' (two_le (Nat.le_max_right n m))
  rw [Nat.pow_succ]
  omega
theorem B.neg {n : Nat} {i : Int} (h : B n i) : B n (-i) := by unfold B at *; rw [Int.natAbs_neg]; exact h
theorem B.sub {n m : Nat} {i j : Int} (h : B n i) (h' : B m j) : B (max n m + 1) (i - j) := by rw [Int.sub_eq_add_neg]; exact h.add h'.neg
theorem B.cm {n m : Nat} {i j : Int} (h : B n i) (h' : B m j) (hn : 0 < n := by decide) (hm : 0 < m := by decide) (hs : n + m ≤ 1000000 := by decide) : CMulW i j := wide_mul h h' hn hm hs
theorem RB.n {n : Nat} {r : Rat} (h : RB n r) : B n r.num := h.1
theorem RB.d {n : Nat} {r : Rat} (h : RB n r) : B n (r.den : Int) := by unfold B; simpa using h.2
theorem den_pos (r : Rat) : (0 : Int) < r.den := by have := r.den_nz; omega
/-- what ratio(p, q) reckons -/
theorem gcd_ne {p q : Int} (h : q ≠ 0) : (0 : Int) < (Int.gcd p q : Nat) := by
  have : Int.gcd p q ≠ 0 := fun e => h (Int.gcd_eq_zero_iff.mp e).2
  omega
theorem gcd_bound {p q : Int} {n : Nat} (h : q ≠ 0) (hb : B n q) : B n (Int.gcd p q : Nat) := by
  unfold B at *
  have h1 : Int.gcd p q ≤ q.natAbs := Nat.le_of_dvd (by omega) (Nat.gcd_dvd_right _ _)
  simp only [Int.natAbs_natCast]
  omega
theorem num_is {p q : Int} (h : 0 < q) : p / (Int.gcd p q : Nat) = (Rat.divInt p q).num := by
  rw [Rat.num_divInt, Int.sign_eq_one_of_pos h, Int.one_mul, Int.gcd_comm]
theorem den_is {p q : Int} (h : 0 < q) : q / (Int.gcd p q : Nat) = ((Rat.divInt p q).den : Int) := by
  rw [Rat.den_divInt, if_neg (by omega), Int.gcd_comm]
  have : q = (q.natAbs : Int) := by omega
  rw [Int.natCast_ediv]
  rw [← this]
theorem divInt_flip (p q : Int) : Rat.divInt (-p) (-q) = Rat.divInt p q := Rat.neg_divInt_neg p q
theorem divInt_b {p q : Int} {n : Nat} (h : q ≠ 0) (hp : B n p) (hq : B n q) : RB n (Rat.divInt p q) := by
  have main : ∀ p q : Int, 0 < q → B n p → B n q → RB n (Rat.divInt p q) := fun p q h hp hq => by
    constructor
    · rw [← num_is h]
      exact Nat.lt_of_le_of_lt (Int.natAbs_ediv_le_natAbs _ _) hp
    · have e := den_is (p := p) h
      have : ((Rat.divInt p q).den : Int).natAbs ≤ q.natAbs := by rw [← e]; exact Int.natAbs_ediv_le_natAbs _ _
      have hq' : q.natAbs < 2 ^ n := hq
      simp only [Int.natAbs_natCast] at this
      omega
  by_cases h0 : 0 < q
  · exact main p q h0 hp hq
  · rw [← divInt_flip]
    exact main _ _ (by omega) hp.neg hq.neg
theorem rat_eta (r : Rat) : Rat.divInt r.num r.den = r := Rat.num_divInt_den r
theorem add_is (r t : Rat) : r + t = Rat.divInt (r.num * t.den + t.num * r.den) (r.den * t.den) := by
  conv => lhs; rw [← rat_eta r, ← rat_eta t]
  exact Rat.divInt_add_divInt _ _ (by have := den_pos r; omega) (by have := den_pos t; omega)
theorem mul_is (r t : Rat) : r * t = Rat.divInt (r.num * t.num) (r.den * t.den) := by
  conv => lhs; rw [← rat_eta r, ← rat_eta t]
  exact Rat.divInt_mul_divInt _ _
theorem div_is (r t : Rat) : r / t = Rat.divInt (r.num * t.den) (r.den * t.num) := by
  rw [Rat.div_def, Rat.inv_def]
  conv => lhs; rw [← rat_eta r]
  exact Rat.divInt_mul_divInt _ _
theorem num_ne {t : Rat} (h : t ≠ 0) : t.num ≠ 0 := fun e => h (Rat.num_eq_zero.mp e)
theorem den_ne (t : Rat) : (t.den : Int) ≠ 0 := by have := den_pos t; omega
theorem mul_ne {i j : Int} (h : i ≠ 0) (h' : j ≠ 0) : i * j ≠ 0 := fun e => (Int.mul_eq_zero.mp e).elim h h'
theorem RB.mul {n m : Nat} {r t : Rat} (h : RB n r) (h' : RB m t) : RB (n + m) (r * t) := by
  rw [mul_is]; exact divInt_b (mul_ne (den_ne r) (den_ne t)) (h.n.mul h'.n) (h.d.mul h'.d)
theorem RB.add {n m : Nat} {r t : Rat} (h : RB n r) (h' : RB m t) : RB (n + m + 1) (r + t) := by
  rw [add_is]; exact divInt_b (mul_ne (den_ne r) (den_ne t)) (((h.n.mul h'.d).add (h'.n.mul h.d)).mono (by omega)) ((h.d.mul h'.d).mono (by omega))
theorem RB.neg {n : Nat} {r : Rat} (h : RB n r) : RB n (-r) := ⟨by rw [Rat.neg_num, Int.natAbs_neg]; exact h.1, h.2⟩
theorem RB.sub {n m : Nat} {r t : Rat} (h : RB n r) (h' : RB m t) : RB (n + m + 1) (r - t) := by rw [Rat.sub_eq_add_neg]; exact h.add h'.neg
theorem RB.div {n m : Nat} {r t : Rat} (h : RB n r) (h' : RB m t) (ht : t ≠ 0) : RB (n + m) (r / t) := by
  rw [div_is]; exact divInt_b (mul_ne (den_ne r) (num_ne ht)) (h.n.mul h'.d) (h.d.mul h'.n)
def cmpR (r t : Rat) : Int := if r < t then -1 else if t < r then 1 else 0
theorem enc_inj {r t : Rat} (hn : r.num = t.num) (hd : (r.den : Int) = t.den) : r = t := Rat.ext hn (by omega)
theorem eqv_enc (r t : Rat) : PyData.eqv (encR r) (encR t) = decide (r = t) := by
  unfold encR
  rw [eqv_tt, eqvA_c, eqvA_c, eqvA_n, eqv_ii, eqv_ii, Bool.and_true]
  by_cases h : r = t
  · subst h; simp
  · rw [decide_eq_false h]
    by_cases h1 : r.num = t.num
    · have h2 : ¬ (r.den : Int) = t.den := fun h2 => h (enc_inj h1 h2)
      simp [h1]
      omega
    · simp [h1]
/-- the greatest divisor's turn -/
theorem gcd_turn (p q : Int) : Int.gcd q (p % q) = Int.gcd p q := by
  rw [Int.gcd_comm p q, Int.emod_def, Int.mul_comm]
  exact Int.gcd_sub_mul_right_right q p (p / q)
theorem cdiv_ok {j : Int} {n : Nat} (i : Int) (h : 0 < j) (hb : B n j) (h0 : 0 < n := by decide) (h9 : n ≤ 9000 := by decide) : CDivW i j := wide_div h hb h0 h9
theorem B.abs {n : Nat} {p : Int} (h : B n p) : B n (p.natAbs : Int) := by
  unfold B at *
  rw [Int.natAbs_natCast]
  exact h
theorem two_b {x y : Int} {n : Nat} (hx : 0 ≤ x) (hy : 0 ≤ y) (h1 : B n x) (h2 : B n y) : x * y < 2 ^ (n + n) := by
  have h := h1.mul h2
  unfold B at h
  have e : ((x * y).natAbs : Int) = x * y := Int.natAbs_of_nonneg (Int.mul_nonneg hx hy)
  have : ((x * y).natAbs : Int) < ((2 ^ (n + n) : Nat) : Int) := Int.ofNat_lt.mpr h
  rw [e, Int.natCast_pow] at this
  exact this
theorem B.le {n : Nat} {x y : Int} (hy : B n y) (h0 : 0 ≤ x) (h : x ≤ y) : B n x := by
  unfold B at *
  omega
theorem enc_eq {r t : Rat} : (encR r = encR t) = (r = t) := by
  refine propext ⟨fun h => ?_, fun h => by rw [h]⟩
  unfold encR at h
  simp only [PyData.tuple.injEq, List.cons.injEq, PyData.int.injEq, and_true] at h
  exact enc_inj h.1 h.2
def dOk : Nat → PyData → Bool
  | 0, _ => false
  | n + 1, d => match d with
    | .list ds => ds.all (dOk n) && decide (ds.length ≤ 1000000)
    | .tuple ds => ds.all (dOk n) && decide (ds.length ≤ 1000000)
    | .dict _ => false
    | _ => true
theorem dOk_enc (n : Nat) (r : Rat) : dOk (n + 2) (encR r) = true := by simp [dOk, encR]
theorem dOk_int (n : Nat) (i : Int) : dOk (n + 1) (.int i) = true := rfl
theorem shaped_enc (r : Rat) : SeqAt.shaped (encR r) = true := by
  unfold encR SeqAt.shaped
  simp [PyData.canLay0, PyData.canLayAll0, PyData.depth, PyData.depthAll]
theorem ixk_enc0 {r : Rat} {cs : Sto} {R : RK} : ixkR 0 (.d (encR r)) cs R = R (si r.num) cs := propext ⟨fun ⟨_, e, q⟩ => by cases e; exact q, fun q => ⟨_, rfl, q⟩⟩
theorem ixk_enc1 {r : Rat} {cs : Sto} {R : RK} : ixkR 1 (.d (encR r)) cs R = R (si (r.den : Int)) cs := propext ⟨fun ⟨_, e, q⟩ => by cases e; exact q, fun q => ⟨_, rfl, q⟩⟩
end FR

set_option Elab.async false
set_option linter.all false
set_option maxRecDepth 100000
set_option maxHeartbeats 1000000
namespace FL
open PySem L2
section
variable {K : PySem.W.Frag} {X : Cx} {a b : Expr} {ta tb : TD} {pos : Pos}
theorem op_isB : OpR X (compareOp .Is) (fun x y H Q => ∃ b, y = .bl b ∧ Q (.bl (decide (x = .bl b))) H) := by
  intro pins s σ H x y v u Q I rx ry h
  obtain ⟨b, rfl, q⟩ := h
  cases ry
  cases x <;> first
    | (cases rx; exact wpAny_is_plain rfl (fin_bl I q (by first | (simp; done) | (rename_i c; cases b <;> cases c <;> rfl))))
    | (obtain ⟨t, rfl⟩ := rx; exact wpAny_is_plain rfl (fin_bl I q (by first | (simp; done) | (rename_i c; cases b <;> cases c <;> rfl))))
theorem op_notB : OpR X (compareOp .IsNot) (fun x y H Q => ∃ b, y = .bl b ∧ Q (.bl (!decide (x = .bl b))) H) := by
  intro pins s σ H x y v u Q I rx ry h
  obtain ⟨b, rfl, q⟩ := h
  cases ry
  cases x <;> first
    | (cases rx; exact wpAny_isNot_plain rfl (fin_bl I q (by first | (simp; done) | (rename_i c; cases b <;> cases c <;> rfl))))
    | (obtain ⟨t, rfl⟩ := rx; exact wpAny_isNot_plain rfl (fin_bl I q (by first | (simp; done) | (rename_i c; cases b <;> cases c <;> rfl))))
def isB (b : Bool) : S → Bool
  | .d (.bool c) => decide (c = b)
  | _ => false
def qIsB : RD2 := fun x y cs R => ∃ b, y = sb b ∧ R (sb (isB b x)) cs
def qNotB : RD2 := fun x y cs R => ∃ b, y = sb b ∧ R (sb (!isB b x)) cs
theorem isB_of {G : Hp} {π : List Addr} {v : V} {x : S} {b : Bool} (r : RepS K G π v x) : decide (v = .bl b) = isB b x := by
  cases r with
  | d r => cases r <;> first | (refine decide_eq_false (fun z => ?_); cases z; done) | simp [isB]
  | ref _ => exact decide_eq_false fun z => by cases z
theorem sim_IsB : Sim2 K (fun x y H Q => ∃ b, y = .bl b ∧ Q (.bl (decide (x = .bl b))) H) qIsB := by
  rintro G π cs H v w x y R Q A rv rw ⟨b, rfl, q⟩ k
  cases rw with
  | d rw => cases rw; exact ⟨b, rfl, k _ _ _ _ _ _ .refl A (.d (.bl _)) (by rw [isB_of rv]; exact q)⟩
theorem sim_NotB : Sim2 K (fun x y H Q => ∃ b, y = .bl b ∧ Q (.bl (!decide (x = .bl b))) H) qNotB := by
  rintro G π cs H v w x y R Q A rv rw ⟨b, rfl, q⟩ k
  cases rw with
  | d rw => cases rw; exact ⟨b, rfl, k _ _ _ _ _ _ .refl A (.d (.bl _)) (by rw [isB_of rv]; exact q)⟩
theorem ee_isB (ha : PE X a (upE X.K ta)) (hb : PE X b (upE X.K tb)) : PE X (.Compare a [.Is] [b] pos) (upE X.K (dOp qIsB ta tb)) := ee_cmp sim_IsB op_isB ha hb (nomark _)
theorem ee_notB (ha : PE X a (upE X.K ta)) (hb : PE X b (upE X.K tb)) : PE X (.Compare a [.IsNot] [b] pos) (upE X.K (dOp qNotB ta tb)) := ee_cmp sim_NotB op_notB ha hb (nomark _)
theorem et_isB (ha : PE X a (upE X.K ta)) (hb : PE X b (upE X.K tb)) : PT X (.Compare a [.Is] [b] pos) (upT X.K (dTestR (dOp qIsB ta tb))) := et_cmp sim_IsB op_isB ha hb (nomark _)
theorem et_notB (ha : PE X a (upE X.K ta)) (hb : PE X b (upE X.K tb)) : PT X (.Compare a [.IsNot] [b] pos) (upT X.K (dTestR (dOp qNotB ta tb))) := et_cmp sim_NotB op_notB ha hb (nomark _)
/-- a + b: ints, tuples, texts, lists that stand -/
abbrev rCatL (K : PySem.W.Frag) : R2 := fun x y H Q => ∃ a b xs ys, x = .ref a ∧ y = .ref b ∧ SqL K H a xs ∧ SqL K H b ys ∧ xs.length + ys.length ≤ sizeLine ∧ ∀ p, H p = none → Q (.ref p) (upd H p (.lst (xs ++ ys)))
theorem op_catL : OpR X (binaryOp .Add) (rCatL X.K) := by
  intro pins s σ H x y v u Q I rx ry h
  obtain ⟨a, b, xs, ys, rfl, rfl, ha, hb, hz, q⟩ := h
  cases rx
  cases ry
  obtain ⟨its, r, ⟨⟨cls, dd, data, sl⟩, n, ho, hc, _, hd⟩, _⟩ := I.list ha
  obtain ⟨its2, r2, ⟨⟨cls2, dd2, data2, sl2⟩, n2, ho2, hc2, _, hd2⟩, _⟩ := I.list hb
  simp only at hc hd hc2 hd2
  subst hc hd hc2 hd2
  have l1 := r.length
  have l2 := r2.length
  have e : its.toArray ++ its2.toArray = (its ++ its2).toArray := by simp
  refine PySem.concat_meets ⟨_, ho, rfl⟩ ⟨_, ho2, rfl⟩ PySem.noFill_list_add PySem.seq_list_add PySem.F.slot_list_add PySem.F.entry_list_add (PySem.F.args_list_add_2 _ _) (PyProof.Rows.list_addW a b its.toArray its2.toArray n n2 dd dd2 sl sl2 (by simpa [← l1, ← l2] using hz)) ⟨ho, ho2, ?_⟩
  rw [e]
  exact ⟨.ref _, _, I.lnew (t' := s.toks) (r.append r2) (by rw [List.length_append]; omega), rfl, q _ I.fresh⟩
def qAddL : RD2 := fun x y cs R => match x with
  | .d (.int i) => ∃ j, y = si j ∧ R (si (i + j)) cs
  | .d (.tuple ds) => ∃ es, y = .d (.tuple es) ∧ ds.length + es.length ≤ sizeLine ∧ R (.d (.tuple (ds ++ es))) cs
  | .d (.list ds) => ∃ es, y = .d (.list es) ∧ ds.length + es.length ≤ sizeLine ∧ R (.d (.list (ds ++ es))) cs
  | .d (.str z) => ∃ w, y = .d (.str w) ∧ z.length + w.length ≤ sizeLine ∧ R (.d (.str (z ++ w))) cs
  | _ => False
theorem sim_addL : Sim2 K (fun x y H Q => (rI0 (fun i j => .int (i + j)) x y H Q ∨ rCatA K x y H Q ∨ ∃ i j, x = .str i ∧ y = .str j ∧ i.length + j.length ≤ sizeLine ∧ Q (.str (i ++ j)) H) ∨ rCatL K x y H Q) qAddL := by
  intro G π cs H v w x y R Q A rv rw q k
  cases x with
  | ref n => exact q.elim
  | d x =>
    cases x <;> try (exact q.elim; done)
    · obtain ⟨j, rfl, q⟩ := q
      exact .inl (.inl (sim_I0 G π cs H v w _ _ R Q A rv rw ⟨_, _, rfl, rfl, q⟩ k))
    · obtain ⟨j, rfl, hz, q⟩ := q
      cases rv with
      | d rv => cases rv; cases rw with
        | d rw => cases rw; exact .inl (.inr (.inr ⟨_, _, rfl, rfl, hz, k _ _ _ _ _ _ .refl A (.d (.str _)) q⟩))
    · obtain ⟨es, rfl, hz, q⟩ := q
      obtain ⟨a, vs, rfl, h, r⟩ := rep_list A rv
      obtain ⟨b, ws, rfl, h', r'⟩ := rep_list A rw
      refine .inr ⟨a, b, vs, ws, rfl, rfl, h, h', by rw [DpAll.len r, DpAll.len r']; exact hz, fun p hp => ?_⟩
      obtain ⟨G2, A2, E2, r2⟩ := new_lst A (DpAll.app r r') hp
      exact k _ _ _ _ _ _ E2 A2 r2 q
    · obtain ⟨es, rfl, hz, q⟩ := q
      exact .inl (.inr (.inl (sim_catT G π cs H v w _ _ R Q A rv rw ⟨_, _, rfl, rfl, hz, q⟩ k)))
theorem ee_addL (ha : PE X a (upE X.K ta)) (hb : PE X b (upE X.K tb)) : PE X (.BinOp a .Add b pos) (upE X.K (dOp qAddL ta tb)) := ee_op sim_addL ((op_add.or (op_catA.or op_add_str)).or op_catL) ha hb
theorem addl_i {i j : Int} {cs : Sto} {R : RK} : qAddL (si i) (si j) cs R = R (si (i + j)) cs := propext ⟨fun ⟨_, e, q⟩ => by cases e; exact q, fun q => ⟨_, rfl, q⟩⟩
theorem addl_t {ds es : List PyData} {cs : Sto} {R : RK} : qAddL (.d (.tuple ds)) (.d (.tuple es)) cs R = (ds.length + es.length ≤ sizeLine ∧ R (.d (.tuple (ds ++ es))) cs) := propext ⟨fun ⟨_, e, q⟩ => by cases e; exact q, fun q => ⟨_, rfl, q⟩⟩
theorem addl_l {ds es : List PyData} {cs : Sto} {R : RK} : qAddL (.d (.list ds)) (.d (.list es)) cs R = (ds.length + es.length ≤ sizeLine ∧ R (.d (.list (ds ++ es))) cs) := propext ⟨fun ⟨_, e, q⟩ => by cases e; exact q, fun q => ⟨_, rfl, q⟩⟩
/-- one statement, the rest as it stands -/
theorem stp {t u : TSD} {d : EndsD} {ρ : Ev} {cs : Sto} (h : ∀ T : TSD, T = u → t { d with nx := T d } ρ cs) : dSeq t u d ρ cs := h u rfl
end
end FL

set_option Elab.async false
set_option linter.all false
set_option maxRecDepth 100000
set_option maxHeartbeats 1000000
namespace FL
open PySem L2
/-! loops and comprehensions by what holds at each turn -/
section
variable {α : Type} {ok : Sto → Prop} {g : TGD} {tb : TSD} {tt : TTD} {te : TD} {d : EndsD} {ρ ρ0 : Ev} {cs : Sto} {k : List S → Sto → Prop}
theorem for_all (en : α → S) (I : List α → Ev → Sto → Prop) (hok : ∀ as ρ cs, I as ρ cs → ok cs) (he : ∀ ρ cs, I [] ρ cs → d.nx ρ cs)
    (hs : ∀ a as ρ cs, I (a :: as) ρ cs → ∀ Z : Ev → Sto → Prop, (∀ ρ' cs', I as ρ' cs' → Z ρ' cs') → g (en a) ρ cs fun ρ1 cs1 => tb { nx := Z, ct := Z, bk := d.nx, rt := d.rt } ρ1 cs1) :
    ∀ (as : List α) (ρ : Ev) (cs : Sto), I as ρ cs → forR ok g tb d (as.map en) ρ cs
  | [], ρ, cs, h => ⟨hok _ _ _ h, he _ _ h⟩
  | a :: as, ρ, cs, h => by
    rw [List.map_cons, forR_cons]
    exact ⟨hok _ _ _ h, hs a as ρ cs h _ fun ρ' cs' h' => for_all en I hok he hs as ρ' cs' h'⟩
theorem for_rng_aux (n : Nat) (lo0 : Int) (I : Nat → Ev → Sto → Prop) (he : ∀ ρ cs, I n ρ cs → d.nx ρ cs)
    (hs : ∀ k ρ cs, k < n → I k ρ cs → ∀ Z : Ev → Sto → Prop, (∀ ρ' cs', I (k + 1) ρ' cs' → Z ρ' cs') → g (si (lo0 + (k : Nat))) ρ cs fun ρ1 cs1 => tb { nx := Z, ct := Z, bk := d.nx, rt := d.rt } ρ1 cs1) :
    ∀ (m k : Nat) (lo : Int) (ρ : Ev) (cs : Sto), k + m = n → lo = lo0 + (k : Nat) → I k ρ cs → forR okT g tb d (rgS lo m) ρ cs
  | 0, k, lo, ρ, cs, e, _, h => by
    have : k = n := by omega
    subst this
    exact ⟨trivial, he _ _ h⟩
  | m + 1, k, lo, ρ, cs, e, hl, h => by
    rw [rgS_succ, forR_cons, hl]
    exact ⟨trivial, hs k ρ cs (by omega) h _ fun ρ' cs' h' => for_rng_aux n lo0 I he hs m (k + 1) _ ρ' cs' (by omega) (by omega) h'⟩
theorem for_rng (n : Nat) (I : Nat → Ev → Sto → Prop) (he : ∀ ρ cs, I n ρ cs → d.nx ρ cs)
    (hs : ∀ k ρ cs, k < n → I k ρ cs → ∀ Z : Ev → Sto → Prop, (∀ ρ' cs', I (k + 1) ρ' cs' → Z ρ' cs') → g (si (k : Nat)) ρ cs fun ρ1 cs1 => tb { nx := Z, ct := Z, bk := d.nx, rt := d.rt } ρ1 cs1)
    (h : I 0 ρ cs) : forR okT g tb d (rgS 0 n) ρ cs :=
  for_rng_aux n 0 I he (fun k ρ cs hk h Z z => by rw [Int.zero_add]; exact hs k ρ cs hk h Z z) n 0 0 ρ cs (by omega) (by omega) h
/-- with a store that goes on -/
theorem comp_st (en : α → S) (I : List α → List S → Sto → Prop) (hok : ∀ as acc cs, I as acc cs → ok cs) (he : ∀ acc cs, I [] acc cs → k acc cs)
    (hs : ∀ a as acc cs, I (a :: as) acc cs → ∀ Z : List S → Sto → Prop, (∀ acc' cs', I as acc' cs' → Z acc' cs') → g (en a) ρ0 cs fun ρ1 cs1 => tt ρ1 cs1 fun b cs2 => (b = true → te ρ1 cs2 fun y cs3 => Z (acc ++ [y]) cs3) ∧ (b = false → Z acc cs2)) :
    ∀ (as : List α) (acc : List S) (cs : Sto), I as acc cs → compR ok g tt te ρ0 k (as.map en) acc cs
  | [], acc, cs, h => ⟨hok _ _ _ h, he _ _ h⟩
  | a :: as, acc, cs, h => ⟨hok _ _ _ h, hs a as acc cs h _ fun acc' cs' h' => comp_st en I hok he hs as acc' cs' h'⟩
theorem comp_map (en : α → S) (fn : α → S) (hok : ok cs) : ∀ (as : List α) (acc : List S)
    (h : ∀ a ∈ as, ∀ R : RK, R (fn a) cs → g (en a) ρ0 cs fun ρ1 cs1 => te ρ1 cs1 R) (hk : k (acc ++ as.map fn) cs), compR ok g dYes te ρ0 k (as.map en) acc cs
  | [], acc, _, hk => ⟨hok, by simpa using hk⟩
  | a :: as, acc, h, hk => by
    refine ⟨hok, ?_⟩
    have h1 := h a List.mem_cons_self (fun y cs3 => compR ok g dYes te ρ0 k (as.map en) (acc ++ [y]) cs3) (comp_map en fn hok as _ (fun b hb => h b (List.mem_cons_of_mem _ hb)) (by simpa using hk))
    simpa [dYes] using h1
theorem comp_flt (en : α → S) (p : α → Bool) (fn : α → S) (hok : ok cs) : ∀ (as : List α) (acc : List S)
    (h : ∀ a ∈ as, ∀ (Y : RK) (Nn : Sto → Prop), (p a = true → Y (fn a) cs) → (p a = false → Nn cs) → g (en a) ρ0 cs fun ρ1 cs1 => tt ρ1 cs1 fun b cs2 => (b = true → te ρ1 cs2 Y) ∧ (b = false → Nn cs2))
    (hk : k (acc ++ (as.filter p).map fn) cs), compR ok g tt te ρ0 k (as.map en) acc cs
  | [], acc, _, hk => ⟨hok, by simpa using hk⟩
  | a :: as, acc, h, hk => by
    refine ⟨hok, h a List.mem_cons_self _ _ (fun e => ?_) fun e => ?_⟩
    · refine comp_flt en p fn hok as _ (fun b hb => h b (List.mem_cons_of_mem _ hb)) ?_
      rw [List.filter_cons_of_pos e] at hk
      simpa using hk
    · refine comp_flt en p fn hok as _ (fun b hb => h b (List.mem_cons_of_mem _ hb)) ?_
      rw [List.filter_cons_of_neg (by simp [e])] at hk
      exact hk
theorem comp_rng_aux (fn : α → S) (as : List α) : ∀ (m j : Nat) (lo : Int) (acc : List S), j + m = as.length → lo = (j : Nat) →
    (∀ (i : Nat) (hi : i < as.length), ∀ R : RK, R (fn as[i]) cs → g (si (i : Nat)) ρ0 cs fun ρ1 cs1 => te ρ1 cs1 R) → k (acc ++ (as.drop j).map fn) cs → compR okT g dYes te ρ0 k (rgS lo m) acc cs
  | 0, j, lo, acc, e, _, _, hk => ⟨trivial, by
      have : as.drop j = [] := List.drop_eq_nil_of_le (by omega)
      rw [this] at hk; simpa using hk⟩
  | m + 1, j, lo, acc, e, hl, h, hk => by
    subst hl
    rw [rgS_succ]
    refine ⟨trivial, ?_⟩
    have hj : j < as.length := by omega
    have h1 := h j hj (fun y cs3 => compR okT g dYes te ρ0 k (rgS ((j : Nat) + 1) m) (acc ++ [y]) cs3) (comp_rng_aux fn as m (j + 1) _ _ (by omega) (by omega) h (by
      rw [List.drop_eq_getElem_cons hj, List.map_cons] at hk
      rw [List.append_assoc]
      exact hk))
    simpa [dYes] using h1
theorem comp_rng (fn : α → S) (as : List α) {n : Nat} (hn : n = as.length) (h : ∀ (i : Nat) (hi : i < as.length), ∀ R : RK, R (fn as[i]) cs → g (si (i : Nat)) ρ0 cs fun ρ1 cs1 => te ρ1 cs1 R) (hk : k (as.map fn) cs) :
    compR okT g dYes te ρ0 k (rgS 0 n) [] cs := comp_rng_aux fn as n 0 0 [] (by omega) (by omega) h (by simpa using hk)
theorem datas_fn (fn : α → PyData) (as : List α) : datas (as.map fun a => S.d (fn a)) = some (as.map fn) := by
  have := datas_map (as.map fn)
  rw [List.map_map] at this
  exact this
theorem map_d (fn : α → PyData) (as : List α) : (as.map fn).map S.d = as.map fun a => S.d (fn a) := by rw [List.map_map]; rfl
theorem zipD_fn {β : Type} (f : α → PyData) (h : β → PyData) (as : List α) (bs : List β) : zipD (as.map f) (bs.map h) = (as.zip bs).map fun p => S.d (.tuple [f p.1, h p.2]) := by
  unfold zipD
  rw [List.zip_map, List.map_map]
  rfl
theorem atI_map (f : α → PyData) {as : List α} {i : Nat} (hi : i < as.length) : atI (as.map f) (i : Int) = some (f as[i]) := atI_nat (by simp [hi])
theorem intsOf_fn (f : α → Int) (as : List α) : intsOf (as.map fun a => .int (f a)) = some (as.map f) := by
  have := intsOf_map (as.map f)
  rw [List.map_map] at this
  exact this
end
end FL

set_option Elab.async false
set_option linter.all false
set_option maxRecDepth 100000
namespace K42
open PySem L2 FL FR
/-! what each def of the law does, over data -/
abbrev c_NOTHING : PyData := .tuple [.int 0, .int 1]
def T_greatest_divisor : DSp := fun xs cs R => ∃ p q : Int, xs = [si p, si q] ∧ 0 ≤ q ∧ R (si (Int.gcd p q : Nat)) cs
def T_ratio : DSp := fun xs cs R => ∃ p q : Int, xs = [si p, si q] ∧ q ≠ 0 ∧ B 8000 q ∧ R (sr (Rat.divInt p q)) cs
def T_times : DSp := fun xs cs R => ∃ r t : Rat, xs = [sr r, sr t] ∧ RB 3000 r ∧ RB 3000 t ∧ R (sr (r * t)) cs
def T_over : DSp := fun xs cs R => ∃ r t : Rat, xs = [sr r, sr t] ∧ RB 3000 r ∧ RB 3000 t ∧ t ≠ 0 ∧ R (sr (r / t)) cs
def T_compare : DSp := fun xs cs R => ∃ r t : Rat, xs = [sr r, sr t] ∧ RB 3000 r ∧ RB 3000 t ∧ R (si (cmpR r t)) cs
def low (p q : Int) : Bool := decide (1 ≤ q) && decide (Int.gcd p q = 1)
def T_is_ratio : DSp := fun xs cs R => ∃ p q : Int, xs = [.d (.tuple [.int p, .int q])] ∧ R (sb (low p q)) cs
/-- what was drawn -/
structure Deal (row : List Int) (total pos : Int) : Prop where
  len : row.length ≤ 2520
  lo : ∀ x ∈ row, 0 ≤ x
  t0 : 0 ≤ total
  t1 : total < 2 ^ 40
  p0 : 0 ≤ pos
  p1 : pos < 2 ^ 40
def DS (row : List Int) (total pos : Int) (gs : Sto) : Sto := none :: some [si pos] :: some [.d (.list (row.map PyData.int)), .ref 1, si total] :: gs
def T__law_deal : DSp := fun xs cs R => cs = [] ∧ ∃ ns : List Int, xs = [.d (.list (ns.map PyData.int))] ∧ ns.length ≤ 63 ∧ ∀ row total, Deal row total 0 → R (.ref 2) (DS row total 0 [])
def T__law_take : DSp := fun xs cs R => ∃ row total pos gs many, xs = [.ref 2, si many] ∧ cs = DS row total pos gs ∧ Deal row total pos ∧ 0 < many ∧ ∀ v, 0 ≤ v → v < many → R (si v) (DS row total (pos + 1) gs)
def T__law_sameN (n : Nat) : DSp := fun xs cs R => ∃ d, xs = [.d d, .d d] ∧ dOk n d = true ∧ R (sb true) cs
abbrev T__law_same : DSp := T__law_sameN 5
def T__law_bool : DSp := fun xs cs R => ∃ b, xs = [sb b, sb b] ∧ R (sb true) cs
def T__law_ratio : DSp := fun xs cs R => ∃ p q : Int, xs = [si p, si q] ∧ q ≠ 0 ∧ B 8000 p ∧ B 8000 q ∧ R (sr (Rat.divInt p q)) cs
def T__law_plus : DSp := fun xs cs R => ∃ r t : Rat, xs = [sr r, sr t] ∧ RB 3000 r ∧ RB 3000 t ∧ R (sr (r + t)) cs
def T__law_mult : DSp := T_times
def T__law_over : DSp := T_over
def T__law_pick : DSp := fun xs cs R => ∃ row total pos gs ds, xs = [.ref 2, .d (.list ds)] ∧ cs = DS row total pos gs ∧ Deal row total pos ∧ 0 < ds.length ∧ ∀ d, d ∈ ds → R (.d d) (DS row total (pos + 1) gs)
/-! whole tests -/
def lcmD (rs : List Rat) : Nat := rs.foldl (fun m r => Nat.lcm m r.den) 1
def gcdL (ns : List Int) : Nat := ns.foldl (fun g n => Int.gcd n (g : Nat)) 0
def cut (M : Nat) (w : Rat) : Int := w.num * ((M : Int) / w.den)
abbrev Tst := List Int × Int
abbrev Bnd := List Rat × Rat × Bool
def one (s : Bool) : Int := if s then 1 else 0
def wt0 (W : List Int) (N : Int) : Tst := let G := gcdL W; if 1 < G then (W.map (· / (G : Int)), N / (G : Int)) else (W, N)
def wt (ws : List Rat) (r : Rat) (s : Bool) : Tst := let M := lcmD (ws ++ [r]); wt0 (ws.map (cut M)) (cut M r - one s)
def muls (fs us : List Rat) : List Rat := List.zipWith (· * ·) fs us
def wtB (us : List Rat) (b : Bnd) : Tst := wt (muls b.1 us) b.2.1 b.2.2
def ratsD (rs : List Rat) : PyData := .tuple (rs.map encR)
def bndD (b : Bnd) : PyData := .tuple [ratsD b.1, encR b.2.1, .bool b.2.2]
def testD (t : Tst) : PyData := .tuple [.tuple (t.1.map PyData.int), .int t.2]
def spanD (w : Int × Int) : PyData := .tuple [.int w.1, .int w.2]
def boxD (w : Rat × Rat) : PyData := .tuple [encR w.1, encR w.2]
structure UOk (us : List Rat) : Prop where
  len : us.length ≤ 4
  b : ∀ u ∈ us, RB 60 u
structure BOk (n : Nat) (b : Bnd) : Prop where
  len : b.1.length = n
  f : ∀ f ∈ b.1, RB 300 f
  r : RB 1500 b.2.1
def TOk (n : Nat) (t : Tst) : Prop := t.1.length = n ∧ ∀ v ∈ t.1, B 9000 v
def WOk (n : Nat) (ws : List (Int × Int)) : Prop := ws.length = n ∧ ∀ w ∈ ws, w.1 ≤ w.2 ∧ B 60 w.1 ∧ B 60 w.2
def T_common_multiple : DSp := fun xs cs R => ∃ rs : List Rat, xs = [.d (.list (rs.map encR))] ∧ (∀ r ∈ rs, RB 1500 r) ∧ rs.length ≤ 10 ∧ R (si (lcmD rs : Nat)) cs
def T_common_divisor : DSp := fun xs cs R => ∃ ns : List Int, xs = [.d (.list (ns.map PyData.int))] ∧ R (si (gcdL ns : Nat)) cs
def T_whole_test : DSp := fun xs cs R => ∃ us b, xs = [.d (ratsD us), .d (bndD b)] ∧ UOk us ∧ BOk us.length b ∧ R (.d (testD (wtB us b))) cs
def rowD {α : Type} (f : α → PyData) (w : List α × Int) : PyData := .tuple [.tuple (w.1.map f), .int w.2]
def T_whole_row : DSp := fun xs cs R => ∃ us, ∃ w : List Bnd × Int, xs = [.d (ratsD us), .d (rowD bndD w)] ∧ UOk us ∧ (∀ b ∈ w.1, BOk us.length b) ∧ w.1.length ≤ 4 ∧ R (.d (rowD testD (w.1.map (wtB us), w.2))) cs
def T_whole_table : DSp := fun xs cs R => ∃ us, ∃ tb : List (List Bnd × Int), xs = [.d (ratsD us), .d (.tuple (tb.map (rowD bndD)))] ∧ UOk us ∧ (∀ w ∈ tb, (∀ b ∈ w.1, BOk us.length b) ∧ w.1.length ≤ 4) ∧ tb.length ≤ 4 ∧
  R (.d (.tuple ((tb.map fun w => (w.1.map (wtB us), w.2)).map (rowD testD)))) cs
def least (t : Tst) (ws : List (Int × Int)) : Int := t.2 + (List.zipWith (fun f w => if f * w.2 < f * w.1 then f * w.2 else f * w.1) t.1 ws).sum
def T_least_sum : DSp := fun xs cs R => ∃ t ws n, xs = [.d (testD t), .d (.tuple (ws.map spanD))] ∧ TOk n t ∧ WOk n ws ∧ n ≤ 4 ∧ R (si (least t ws)) cs
def holds (ws : List (Int × Int)) (t : Tst) : Bool := decide (0 ≤ least t ws)
def T_holds_for : DSp := fun xs cs R => ∃ t ws n, xs = [.d (testD t), .d (.tuple (ws.map spanD))] ∧ TOk n t ∧ WOk n ws ∧ n ≤ 4 ∧ R (sb (holds ws t)) cs
def T_row_holds : DSp := fun xs cs R => ∃ n ws, ∃ w : List Tst × Int, xs = [.d (rowD testD w), .d (.tuple (ws.map spanD))] ∧ (∀ t ∈ w.1, TOk n t) ∧ WOk n ws ∧ n ≤ 4 ∧ R (sb (w.1.all (holds ws))) cs
def firstD (ws : List (Int × Int)) : List (List Tst × Int) → PyData
  | [] => .none
  | w :: r => if w.1.all (holds ws) then .int w.2 else firstD ws r
def T_command_in : DSp := fun xs cs R => ∃ n ws, ∃ tb : List (List Tst × Int), xs = [.d (.tuple (tb.map (rowD testD))), .d (.tuple (ws.map spanD))] ∧ (∀ w ∈ tb, ∀ t ∈ w.1, TOk n t) ∧ WOk n ws ∧ n ≤ 4 ∧ R (.d (firstD ws tb)) cs
def isUnit (p : Int × Int) : Bool := low p.1 p.2 && decide (0 < p.1)
def T_are_units : DSp := fun xs cs R => ∃ n, ∃ ps : List (Int × Int), xs = [si n, .d (.tuple (ps.map spanD))] ∧ (∀ p ∈ ps, B 100 p.1 ∧ B 100 p.2) ∧ ps.length ≤ 100 ∧ R (sb (decide ((ps.length : Int) = n) && ps.all isUnit)) cs
def T_down : DSp := fun xs cs R => ∃ t d : Rat, xs = [sr t, sr d] ∧ RB 1000 t ∧ RB 1000 d ∧ d ≠ 0 ∧ R (si (t / d).floor) cs
def T_up : DSp := fun xs cs R => ∃ t d : Rat, xs = [sr t, sr d] ∧ RB 1000 t ∧ RB 1000 d ∧ d ≠ 0 ∧ R (si (t / d).ceil) cs
def T_made_whole : DSp := fun xs cs R => ∃ us, ∃ box : List (Rat × Rat), xs = [.d (ratsD us), .d (.tuple (box.map boxD))] ∧ UOk us ∧ (∀ u ∈ us, u ≠ 0) ∧ (∀ w ∈ box, RB 1000 w.1 ∧ RB 1000 w.2) ∧ box.length = us.length ∧
  R (.d (.tuple (List.zipWith (fun u w => spanD ((w.1 / u).floor, (w.2 / u).ceil)) us box))) cs
def T_worth_of : DSp := fun xs cs R => ∃ us, ∃ ws : List (Int × Int), xs = [.d (ratsD us), .d (.tuple (ws.map spanD))] ∧ UOk us ∧ WOk us.length ws ∧ R (.d (.tuple (List.zipWith (fun u w => boxD (u * (w.1 : Rat), u * (w.2 : Rat))) us ws))) cs
/-! the law's own -/
def T__law_shared : DSp := fun xs cs R => ∃ a b : Int, xs = [si a, si b] ∧ 0 ≤ b ∧ B 8000 a ∧ B 8000 b ∧ R (si (Int.gcd a b : Nat)) cs
def T__law_great : DSp := fun xs cs R => ∃ row total pos gs, xs = [.ref 2] ∧ cs = DS row total pos gs ∧ Deal row total pos ∧ pos < 2 ^ 39 ∧ ∀ r p, RB 200 r → pos ≤ p → p ≤ pos + 20 → R (sr r) (DS row total p gs)
def UPos (us : List Rat) : Prop := UOk us ∧ ∀ u ∈ us, 0 < u
def T__law_units : DSp := fun xs cs R => ∃ row total pos gs, ∃ n : Nat, xs = [.ref 2, si (n : Int)] ∧ cs = DS row total pos gs ∧ Deal row total pos ∧ pos < 2 ^ 39 ∧ n ≤ 3 ∧ ∀ us p, us.length = n → UPos us → pos ≤ p → p ≤ pos + 20 → R (.d (ratsD us)) (DS row total p gs)
def T__law_whole : DSp := fun xs cs R => ∃ row total pos gs, ∃ n : Nat, xs = [.ref 2, si (n : Int)] ∧ cs = DS row total pos gs ∧ Deal row total pos ∧ pos < 2 ^ 39 ∧ n ≤ 3 ∧ ∀ ws p, WOk n ws → pos ≤ p → p ≤ pos + 20 → R (.d (.tuple (ws.map spanD))) (DS row total p gs)
def low1 (w : Rat) (s : Int × Int) : Rat := w * (((if 0 < w.num then s.1 else s.2) : Int) : Rat)
def worst (us fs : List Rat) (ws : List (Int × Int)) : Rat := (List.zipWith low1 (muls fs us) ws).foldl (· + ·) 0
def T__law_worst : DSp := fun xs cs R => ∃ us fs ws, xs = [.d (ratsD us), .d (ratsD fs), .d (.tuple (ws.map spanD))] ∧ UOk us ∧ fs.length = us.length ∧ (∀ f ∈ fs, RB 300 f) ∧ WOk us.length ws ∧ R (sr (worst us fs ws)) cs
def T__law_bound : DSp := fun xs cs R => ∃ row total pos gs us ws, xs = [.ref 2, .d (ratsD us), .d (.tuple (ws.map spanD))] ∧ cs = DS row total pos gs ∧ Deal row total pos ∧ pos < 2 ^ 38 ∧ UOk us ∧ 0 < us.length ∧ us.length ≤ 3 ∧ WOk us.length ws ∧
  ∀ b p, b.1.length = us.length → (∀ f ∈ b.1, RB 200 f) → RB 1300 b.2.1 → pos ≤ p → p ≤ pos + 200 → R (.d (bndD b)) (DS row total p gs)
def T__law_test : DSp := T_whole_test
def due (us : List Rat) (ws : List (Int × Int)) (b : Bnd) : Bool := let h := worst us b.1 ws + b.2.1; decide (0 < h.num) || (decide (h.num = 0) && !b.2.2)
def T__law_holds : DSp := fun xs cs R => ∃ us b ws, xs = [.d (ratsD us), .d (bndD b), .d (.tuple (ws.map spanD))] ∧ UOk us ∧ BOk us.length b ∧ WOk us.length ws ∧ R (sb (due us ws b)) cs
def sized (t : Rat) (b : Bnd) : Bnd := (b.1.map (t * ·), t * b.2.1, b.2.2)
def T__law_sized : DSp := fun xs cs R => ∃ b, ∃ t : Rat, xs = [.d (bndD b), sr t] ∧ BOk b.1.length b ∧ b.1.length ≤ 4 ∧ RB 100 t ∧ R (.d (bndD (sized t b))) cs
def T__law_boxes_right : DSp := fun xs cs R => ∃ row total pos us, xs = [.ref 2, .d (ratsD us)] ∧ (∃ gs, cs = DS row total pos gs) ∧ Deal row total pos ∧ pos < 2 ^ 38 ∧ UPos us ∧ us.length ≤ 3 ∧ ∀ cs', R (sb true) cs'
def T_law : DSp := TLaw 63
end K42

set_option Elab.async false
set_option linter.all false
set_option maxRecDepth 100000
namespace K42
open PySem L2 FL FR
def rd_greatest_divisor_b1 : TSD := (dPar 0 1 (dCons (dVar 1) (dCons (dOp qMod (dVar 0) (dVar 1)) dNil)))
/-- slots of greatest_divisor: 0 p, 1 q -/
def rd_greatest_divisor : TSD := (dSeq (dWhile (dTestR (dOp qNe (dVar 1) (dC (.int 0))))
    rd_greatest_divisor_b1)
    (dRet (dCB cAbs (dCons (dVar 0) dNil))))
/-- slots of ratio: 0 p, 1 q, 2 shared -/
def rd_ratio : TSD := (dSeq (dIfS (dTestR (dOp qLt (dVar 1) (dC (.int 0))))
    (dSeq (dAsg (dUn qNeg (dVar 0)) (dgName 0))
    (dAsg (dUn qNeg (dVar 1)) (dgName 1)))
    dNext)
    (dSeq (dAsg (dCall 2 T_greatest_divisor (dCons (dVar 0) (dCons (dVar 1) dNil))) (dgName 2))
    (dRet (dTup (dCons (dOp qDiv (dVar 0) (dVar 2)) (dCons (dOp qDiv (dVar 1) (dVar 2)) dNil))))))
/-- slots of times: 0 s, 1 t -/
def rd_times : TSD := (dRet (dCall 2 T_ratio (dCons (dOp qMul (dIxK 0 (dVar 0)) (dIxK 0 (dVar 1))) (dCons (dOp qMul (dIxK 1 (dVar 0)) (dIxK 1 (dVar 1))) dNil))))
/-- slots of over: 0 s, 1 t -/
def rd_over : TSD := (dRet (dCall 2 T_ratio (dCons (dOp qMul (dIxK 0 (dVar 0)) (dIxK 1 (dVar 1))) (dCons (dOp qMul (dIxK 1 (dVar 0)) (dIxK 0 (dVar 1))) dNil))))
/-- slots of compare: 0 s, 1 t, 2 difference -/
def rd_compare : TSD := (dSeq (dAsg (dOp qSub (dOp qMul (dIxK 0 (dVar 0)) (dIxK 1 (dVar 1))) (dOp qMul (dIxK 0 (dVar 1)) (dIxK 1 (dVar 0)))) (dgName 2))
    (dSeq (dIfS (dTestR (dOp qLt (dVar 2) (dC (.int 0))))
    (dRet (dUn qNeg (dC (.int 1))))
    dNext)
    (dSeq (dIfS (dTestR (dOp qGt (dVar 2) (dC (.int 0))))
    (dRet (dC (.int 1)))
    dNext)
    (dRet (dC (.int 0))))))
/-- slots of is_ratio: 0 pair -/
def rd_is_ratio : TSD := (dRet (dAndV (dOp qGe (dIxK 1 (dVar 0)) (dC (.int 1))) (dOp qEq (dCall 2 T_greatest_divisor (dCons (dIxK 0 (dVar 0)) (dCons (dIxK 1 (dVar 0)) dNil))) (dC (.int 1)))))
def rd_common_multiple_b1 : TSD := (dAsg (dOp qDiv (dOp qMul (dVar 1) (dVar 3)) (dCall 2 T_greatest_divisor (dCons (dVar 1) (dCons (dVar 3) dNil)))) (dgName 1))
/-- slots of common_multiple: 0 ratios, 1 found, 2 _, 3 q -/
def rd_common_multiple : TSD := (dSeq (dAsg (dC (.int 1)) (dgName 1))
    (dSeq (dFor (dItems (dVar 0)) (dgTup 2 (dgCons (dgName 2) (dgCons (dgName 3) dgNil)))
    rd_common_multiple_b1)
    (dRet (dVar 1))))
def rd_common_divisor_b1 : TSD := (dIfS (dTestR (dOp qNe (dVar 2) (dC (.int 0))))
    (dAsg (dCall 2 T_greatest_divisor (dCons (dVar 2) (dCons (dVar 1) dNil))) (dgName 1))
    dNext)
/-- slots of common_divisor: 0 numbers, 1 found, 2 number -/
def rd_common_divisor : TSD := (dSeq (dAsg (dC (.int 0)) (dgName 1))
    (dSeq (dFor (dItems (dVar 0)) (dgName 2)
    rd_common_divisor_b1)
    (dRet (dVar 1))))
def rd_whole_test_e1 : TD := (dCall 2 T_times (dCons (dVar 10) (dCons (dVar 11) dNil)))
def rd_whole_test_e2 : TD := (dOp qMul (dVar 12) (dOp qDiv (dVar 6) (dVar 13)))
def rd_whole_test_e3 : TD := (dOp qDiv (dVar 10) (dVar 9))
/-- slots of whole_test: 0 units, 1 bound, 2 factors, 3 rest, 4 strict, 5 scaled, 6 many, 7 whole, 8 number, 9 shared, 10 factor, 11 d, 12 p, 13 q -/
def rd_whole_test : TSD := (dSeq (dAsg (dVar 1) (dgTup 3 (dgCons (dgName 2) (dgCons (dgName 3) (dgCons (dgName 4) dgNil)))))
    (dSeq (dAsg (dLcG (dZip (dCons (dVar 2) (dCons (dVar 0) dNil))) (dgTup 2 (dgCons (dgName 10) (dgCons (dgName 11) dgNil))) dYes rd_whole_test_e1 [10, 11] kFro) (dgName 5))
    (dSeq (dAsg (dCall 1 T_common_multiple (dCons (dOp qAddL (dVar 5) (dLst (dCons (dVar 3) dNil))) dNil)) (dgName 6))
    (dSeq (dAsg (dLcG (dItems (dVar 5)) (dgTup 2 (dgCons (dgName 12) (dgCons (dgName 13) dgNil))) dYes rd_whole_test_e2 [12, 13] kFro) (dgName 7))
    (dSeq (dAsg (dOp qSub (dOp qMul (dIxK 0 (dVar 3)) (dOp qDiv (dVar 6) (dIxK 1 (dVar 3)))) (dIf (dTru (dVar 4)) (dC (.int 1)) (dC (.int 0)))) (dgName 8))
    (dSeq (dAsg (dCall 1 T_common_divisor (dCons (dVar 7) dNil)) (dgName 9))
    (dSeq (dIfS (dTestR (dOp qGt (dVar 9) (dC (.int 1))))
    (dSeq (dAsg (dLcG (dItems (dVar 7)) (dgName 10) dYes rd_whole_test_e3 [10] kFro) (dgName 7))
    (dAsg (dOp qDiv (dVar 8) (dVar 9)) (dgName 8)))
    dNext)
    (dRet (dTup (dCons (dCB cTup (dCons (dVar 7) dNil)) (dCons (dVar 8) dNil)))))))))))
def rd_whole_row_e1 : TD := (dCall 2 T_whole_test (dCons (dVar 0) (dCons (dVar 2) dNil)))
/-- slots of whole_row: 0 units, 1 row, 2 bound -/
def rd_whole_row : TSD := (dRet (dTup (dCons (dCB cTup (dCons (dLcG (dItems (dIxK 0 (dVar 1))) (dgName 2) dYes rd_whole_row_e1 [2] kFro) dNil)) (dCons (dIxK 1 (dVar 1)) dNil))))
def rd_whole_table_e1 : TD := (dCall 2 T_whole_row (dCons (dVar 0) (dCons (dVar 2) dNil)))
/-- slots of whole_table: 0 units, 1 table, 2 row -/
def rd_whole_table : TSD := (dRet (dCB cTup (dCons (dLcG (dItems (dVar 1)) (dgName 2) dYes rd_whole_table_e1 [2] kFro) dNil)))
def rd_least_sum_e1 : TD := (dCB cMin2 (dCons (dOp qMul (dVar 4) (dVar 5)) (dCons (dOp qMul (dVar 4) (dVar 6)) dNil)))
/-- slots of least_sum: 0 test, 1 whole, 2 factors, 3 number, 4 factor, 5 lo, 6 hi -/
def rd_least_sum : TSD := (dSeq (dAsg (dVar 0) (dgTup 2 (dgCons (dgName 2) (dgCons (dgName 3) dgNil))))
    (dRet (dOp qAdd (dVar 3) (dCB cSum (dCons (dLcG (dZip (dCons (dVar 2) (dCons (dVar 1) dNil))) (dgTup 2 (dgCons (dgName 4) (dgCons (dgTup 2 (dgCons (dgName 5) (dgCons (dgName 6) dgNil))) dgNil))) dYes rd_least_sum_e1 [4, 5, 6] kFro) dNil)))))
/-- slots of holds_for: 0 test, 1 whole -/
def rd_holds_for : TSD := (dRet (dOp qGe (dCall 2 T_least_sum (dCons (dVar 0) (dCons (dVar 1) dNil))) (dC (.int 0))))
def rd_row_holds_b1 : TSD := (dIfS (dNot (dTru (dCall 2 T_holds_for (dCons (dVar 2) (dCons (dVar 1) dNil)))))
    (dRet (dC (.bool false)))
    dNext)
/-- slots of row_holds: 0 row, 1 whole, 2 test -/
def rd_row_holds : TSD := (dSeq (dFor (dItems (dIxK 0 (dVar 0))) (dgName 2)
    rd_row_holds_b1)
    (dRet (dC (.bool true))))
def rd_command_in_b1 : TSD := (dIfS (dTru (dCall 2 T_row_holds (dCons (dVar 2) (dCons (dVar 1) dNil))))
    (dRet (dIxK 1 (dVar 2)))
    dNext)
/-- slots of command_in: 0 table, 1 whole, 2 row -/
def rd_command_in : TSD := (dSeq (dFor (dItems (dVar 0)) (dgName 2)
    rd_command_in_b1)
    (dRet (dC .none)))
def rd_are_units_e1 : TD := (dC (.int 1))
def rd_are_units_t1 : TTD := (dOr (dNot (dTru (dCall 1 T_is_ratio (dCons (dVar 2) dNil)))) (dTestR (dOp qLt (dCall 2 T_compare (dCons (dVar 2) (dCons (dC c_NOTHING) dNil))) (dC (.int 1)))))
/-- slots of are_units: 0 n, 1 datum, 2 unit -/
def rd_are_units : TSD := (dSeq (dIfS (dTestR (dOp qNe (dCB cLen (dCons (dVar 1) dNil)) (dVar 0)))
    (dRet (dC (.bool false)))
    dNext)
    (dRet (dOp qEq (dCB cLen (dCons (dLcG (dItems (dVar 1)) (dgName 2) rd_are_units_t1 rd_are_units_e1 [2] kFro) dNil)) (dC (.int 0)))))
/-- slots of down: 0 t, 1 d, 2 p, 3 q -/
def rd_down : TSD := (dSeq (dAsg (dCall 2 T_over (dCons (dVar 0) (dCons (dVar 1) dNil))) (dgTup 2 (dgCons (dgName 2) (dgCons (dgName 3) dgNil))))
    (dRet (dOp qDiv (dVar 2) (dVar 3))))
/-- slots of up: 0 t, 1 d, 2 p, 3 q -/
def rd_up : TSD := (dSeq (dAsg (dCall 2 T_over (dCons (dVar 0) (dCons (dVar 1) dNil))) (dgTup 2 (dgCons (dgName 2) (dgCons (dgName 3) dgNil))))
    (dRet (dUn qNeg (dOp qDiv (dUn qNeg (dVar 2)) (dVar 3)))))
def rd_made_whole_e1 : TD := (dTup (dCons (dCall 2 T_down (dCons (dVar 3) (dCons (dVar 2) dNil))) (dCons (dCall 2 T_up (dCons (dVar 4) (dCons (dVar 2) dNil))) dNil)))
/-- slots of made_whole: 0 units, 1 box, 2 d, 3 low, 4 high -/
def rd_made_whole : TSD := (dRet (dCB cTup (dCons (dLcG (dZip (dCons (dVar 0) (dCons (dVar 1) dNil))) (dgTup 2 (dgCons (dgName 2) (dgCons (dgTup 2 (dgCons (dgName 3) (dgCons (dgName 4) dgNil))) dgNil))) dYes rd_made_whole_e1 [2, 3, 4] kFro) dNil)))
def rd_worth_of_e1 : TD := (dTup (dCons (dCall 2 T_times (dCons (dVar 2) (dCons (dTup (dCons (dVar 3) (dCons (dC (.int 1)) dNil))) dNil))) (dCons (dCall 2 T_times (dCons (dVar 2) (dCons (dTup (dCons (dVar 4) (dCons (dC (.int 1)) dNil))) dNil))) dNil)))
/-- slots of worth_of: 0 units, 1 whole, 2 d, 3 lo, 4 hi -/
def rd_worth_of : TSD := (dRet (dCB cTup (dCons (dLcG (dZip (dCons (dVar 0) (dCons (dVar 1) dNil))) (dgTup 2 (dgCons (dgName 2) (dgCons (dgTup 2 (dgCons (dgName 3) (dgCons (dgName 4) dgNil))) dgNil))) dYes rd_worth_of_e1 [2, 3, 4] kFro) dNil)))
def rd__law_deal_b1 : TSD := (dIfS (dTestR (dOp qGt (dVar 3) (dC (.int 0))))
    (dSeq (dDrop (dApp (dVar 1) (dOp qMod (dVar 3) (dC (.int 1009)))))
    (dAsg (dOp qDiv (dVar 3) (dC (.int 1009))) (dgName 3)))
    dNext)
def rd__law_deal_b2 : TSD := (dSeq (dAsg (dOp qMod (dOp qAdd (dOp qAdd (dOp qMul (dVar 3) (dC (.int 16807))) (dC (.int 12345))) (dVar 4)) (dC (.int 2147483647))) (dgName 3))
    (dDrop (dApp (dVar 1) (dOp qMod (dOp qDiv (dVar 3) (dC (.int 7))) (dC (.int 1009))))))
def rd__law_deal_b3 : TSD := (dSeq (dAsg (dCB cAbs (dCons (dCB cInt (dCons (dOp dIxR (dVar 0) (dVar 2)) dNil)) dNil)) (dgName 3))
    (dIfS (dTestR (dOp qGe (dVar 3) (dOp qPow (dC (.int 10)) (dC (.int 18)))))
    (dFor (dRg1 (dCons (dC (.int 40)) dNil)) (dgName 4)
    rd__law_deal_b1)
    (dSeq (dAsg (dOp qAdd (dOp qAdd (dOp qMul (dOp qMod (dVar 3) (dC (.int 2147483629))) (dC (.int 48271))) (dOp qMul (dVar 2) (dC (.int 69621)))) (dC (.int 11))) (dgName 3))
    (dFor (dRg1 (dCons (dC (.int 5)) dNil)) (dgName 4)
    rd__law_deal_b2))))
/-- slots of _law_deal: 0 script, 1 row, 2 k, 3 cell, 4 turn, 5 total -/
def rd__law_deal : TSD := (dSeq (dAsg (dLstM dNil) (dgName 1))
    (dSeq (dFor (dRg1 (dCons (dCB cMin2 (dCons (dCB cLen (dCons (dVar 0) dNil)) (dCons (dC (.int 63)) dNil))) dNil)) (dgName 2)
    rd__law_deal_b3)
    (dSeq (dAsg (dOp qAdd (dCB cSum (dCons (dVar 1) dNil)) (dCB cLen (dCons (dVar 0) dNil))) (dgName 5))
    (dRet (dLstM (dCons (dVarF 1) (dCons (dLstM (dCons (dC (.int 0)) dNil)) (dCons (dVar 5) dNil))))))))
/-- slots of _law_take: 0 deal, 1 many, 2 at -/
def rd__law_take : TSD := (dSeq (dAsg (dIxK 0 (dIxK 1 (dVar 0))) (dgName 2))
    (dSeq (dAsg (dOp qAdd (dVar 2) (dC (.int 1))) (dgSub (dIxK 1 (dVar 0)) (dC (.int 0))))
    (dSeq (dIfS (dTestR (dOp qLt (dVar 2) (dCB cLen (dCons (dIxK 0 (dVar 0)) dNil))))
    (dRet (dOp qMod (dOp dIxR (dIxK 0 (dVar 0)) (dVar 2)) (dVar 1)))
    dNext)
    (dRet (dOp qMod (dOp qDiv (dOp qAdd (dOp qAdd (dOp qMul (dVar 2) (dC (.int 7919))) (dOp qMul (dIxK 2 (dVar 0)) (dC (.int 31)))) (dOp qMul (dOp qMul (dVar 2) (dVar 2)) (dC (.int 17)))) (dC (.int 3))) (dVar 1))))))
/-- slots of _law_pick: 0 deal, 1 things -/
def rd__law_pick : TSD := (dRet (dOp dIxR (dVar 1) (dCall 2 T__law_take (dCons (dVar 0) (dCons (dCB cLen (dCons (dVar 1) dNil)) dNil)))))
def rd__law_same_b1 (Tself : DSp) : TSD := (dIfS (dNot (dTru (dCall 2 Tself (dCons (dOp dIxR (dVar 0) (dVar 2)) (dCons (dOp dIxR (dVar 1) (dVar 2)) dNil)))))
    (dRet (dC (.bool false)))
    dNext)
/-- slots of _law_same: 0 a, 1 b, 2 k -/
def rd__law_same (Tself : DSp) : TSD := (dSeq (dIfS (dOr (dTru (dIsi .tuple (dVar 1))) (dTru (dIsi .list (dVar 1))))
    (dSeq (dIfS (dOr (dAnd (dTru (dIsi .tuple (dVar 1))) (dNot (dTru (dIsi .tuple (dVar 0))))) (dAnd (dTru (dIsi .list (dVar 1))) (dNot (dTru (dIsi .list (dVar 0))))))
    (dRet (dC (.bool false)))
    dNext)
    (dSeq (dIfS (dTestR (dOp qNe (dCB cLen (dCons (dVar 0) dNil)) (dCB cLen (dCons (dVar 1) dNil))))
    (dRet (dC (.bool false)))
    dNext)
    (dSeq (dFor (dRg1 (dCons (dCB cLen (dCons (dVar 1) dNil)) dNil)) (dgName 2)
    (rd__law_same_b1 Tself))
    (dRet (dC (.bool true))))))
    dNext)
    (dSeq (dIfS (dOr (dTru (dIsi .bool (dVar 0))) (dTru (dIsi .bool (dVar 1))))
    (dRet (dAndV (dIsi .bool (dVar 0)) (dAndV (dIsi .bool (dVar 1)) (dOp qEq (dVar 0) (dVar 1)))))
    dNext)
    (dSeq (dIfS (dTru (dIsi .int (dVar 1)))
    (dRet (dAndV (dIsi .int (dVar 0)) (dOp qEq (dVar 0) (dVar 1))))
    dNext)
    (dSeq (dIfS (dTru (dIsi .str (dVar 1)))
    (dRet (dAndV (dIsi .str (dVar 0)) (dOp qEq (dVar 0) (dVar 1))))
    dNext)
    (dRet (dAndV (dOp qIsN (dVar 0) (dC .none)) (dOp qIsN (dVar 1) (dC .none))))))))
/-- slots of _law_bool: 0 answer, 1 due -/
def rd__law_bool : TSD := (dRet (dAndV (dIsi .bool (dVar 0)) (dOp qEq (dVar 0) (dVar 1))))
def rd__law_ratio_b1 : TSD := (dSeq (dIfS (dTestR (dOp qEq (dVar 2) (dC (.int 0))))
    dBreak
    dNext)
    (dPar 2 3 (dCons (dOp qMod (dVar 3) (dVar 2)) (dCons (dVar 2) dNil))))
/-- slots of _law_ratio: 0 p, 1 q, 2 a, 3 b, 4 turn -/
def rd__law_ratio : TSD := (dSeq (dIfS (dTestR (dOp qLt (dVar 1) (dC (.int 0))))
    (dSeq (dAsg (dUn qNeg (dVar 0)) (dgName 0))
    (dAsg (dUn qNeg (dVar 1)) (dgName 1)))
    dNext)
    (dSeq (dAsg (dCB cAbs (dCons (dVar 0) dNil)) (dgName 2))
    (dSeq (dAsg (dVar 1) (dgName 3))
    (dSeq (dFor (dRg1 (dCons (dC (.int 100000)) dNil)) (dgName 4)
    rd__law_ratio_b1)
    (dRet (dTup (dCons (dOp qDiv (dVar 0) (dVar 3)) (dCons (dOp qDiv (dVar 1) (dVar 3)) dNil))))))))
/-- slots of _law_plus: 0 s, 1 t -/
def rd__law_plus : TSD := (dRet (dCall 2 T__law_ratio (dCons (dOp qAdd (dOp qMul (dIxK 0 (dVar 0)) (dIxK 1 (dVar 1))) (dOp qMul (dIxK 0 (dVar 1)) (dIxK 1 (dVar 0)))) (dCons (dOp qMul (dIxK 1 (dVar 0)) (dIxK 1 (dVar 1))) dNil))))
/-- slots of _law_mult: 0 s, 1 t -/
def rd__law_mult : TSD := (dRet (dCall 2 T__law_ratio (dCons (dOp qMul (dIxK 0 (dVar 0)) (dIxK 0 (dVar 1))) (dCons (dOp qMul (dIxK 1 (dVar 0)) (dIxK 1 (dVar 1))) dNil))))
/-- slots of _law_over: 0 s, 1 t -/
def rd__law_over : TSD := (dRet (dCall 2 T__law_ratio (dCons (dOp qMul (dIxK 0 (dVar 0)) (dIxK 1 (dVar 1))) (dCons (dOp qMul (dIxK 1 (dVar 0)) (dIxK 0 (dVar 1))) dNil))))
def rd__law_shared_b1 : TSD := (dSeq (dIfS (dTestR (dOp qEq (dVar 1) (dC (.int 0))))
    dBreak
    dNext)
    (dPar 0 1 (dCons (dVar 1) (dCons (dOp qMod (dVar 0) (dVar 1)) dNil))))
/-- slots of _law_shared: 0 a, 1 b, 2 turn -/
def rd__law_shared : TSD := (dSeq (dFor (dRg1 (dCons (dC (.int 100000)) dNil)) (dgName 2)
    rd__law_shared_b1)
    (dRet (dCB cAbs (dCons (dVar 0) dNil))))
/-- slots of _law_great: 0 deal, 1 size, 2 number, 3 sign -/
def rd__law_great : TSD := (dSeq (dAsg (dCall 2 T__law_pick (dCons (dVar 0) (dCons (dLst (dCons (dC (.int 1)) (dCons (dC (.int 1)) (dCons (dC (.int 10)) (dCons (dOp qPow (dC (.int 10)) (dC (.int 5))) (dCons (dOp qPow (dC (.int 10)) (dC (.int 18))) (dCons (dOp qPow (dC (.int 10)) (dC (.int 36))) dNil))))))) dNil))) (dgName 1))
    (dSeq (dAsg (dOp qAdd (dOp qMul (dOp qAdd (dC (.int 1)) (dCall 2 T__law_take (dCons (dVar 0) (dCons (dC (.int 1009)) dNil)))) (dVar 1)) (dCall 2 T__law_take (dCons (dVar 0) (dCons (dC (.int 7)) dNil)))) (dgName 2))
    (dSeq (dAsg (dOp qSub (dC (.int 1)) (dOp qMul (dC (.int 2)) (dCall 2 T__law_take (dCons (dVar 0) (dCons (dC (.int 2)) dNil))))) (dgName 3))
    (dRet (dCall 2 T__law_ratio (dCons (dOp qMul (dVar 3) (dVar 2)) (dCons (dOp qAdd (dC (.int 1)) (dOp qMul (dCall 2 T__law_take (dCons (dVar 0) (dCons (dC (.int 12)) dNil))) (dCall 2 T__law_pick (dCons (dVar 0) (dCons (dLst (dCons (dC (.int 1)) (dCons (dC (.int 1)) (dCons (dOp qPow (dC (.int 10)) (dC (.int 9))) (dCons (dOp qPow (dC (.int 10)) (dC (.int 30))) dNil))))) dNil))))) dNil)))))))
def rd__law_units_b1 : TSD := (dDrop (dApp (dVar 2) (dCall 2 T__law_pick (dCons (dVar 0) (dCons (dLst (dCons (dTup (dCons (dC (.int 1)) (dCons (dC (.int 1)) dNil))) (dCons (dTup (dCons (dC (.int 1)) (dCons (dC (.int 2)) dNil))) (dCons (dTup (dCons (dC (.int 2)) (dCons (dC (.int 3)) dNil))) (dCons (dTup (dCons (dC (.int 7)) (dCons (dC (.int 1)) dNil))) (dCons (dTup (dCons (dC (.int 1)) (dCons (dOp qPow (dC (.int 10)) (dC (.int 12))) dNil))) (dCons (dTup (dCons (dOp qAdd (dOp qPow (dC (.int 10)) (dC (.int 15))) (dC (.int 1))) (dCons (dC (.int 3)) dNil))) (dCons (dTup (dCons (dC (.int 1)) (dCons (dC (.int 360)) dNil))) dNil)))))))) dNil)))))
/-- slots of _law_units: 0 deal, 1 n, 2 found, 3 k -/
def rd__law_units : TSD := (dSeq (dAsg (dLstM dNil) (dgName 2))
    (dSeq (dFor (dRg1 (dCons (dVar 1) dNil)) (dgName 3)
    rd__law_units_b1)
    (dRet (dCB cTup (dCons (dVar 2) dNil)))))
def rd__law_whole_b1 : TSD := (dSeq (dAsg (dOp qAdd (dOp qMul (dOp qSub (dCall 2 T__law_take (dCons (dVar 0) (dCons (dC (.int 41)) dNil))) (dC (.int 20))) (dCall 2 T__law_pick (dCons (dVar 0) (dCons (dLst (dCons (dC (.int 1)) (dCons (dC (.int 1)) (dCons (dOp qPow (dC (.int 10)) (dC (.int 6))) (dCons (dOp qPow (dC (.int 10)) (dC (.int 15))) dNil))))) dNil)))) (dCall 2 T__law_take (dCons (dVar 0) (dCons (dC (.int 3)) dNil)))) (dgName 4))
    (dDrop (dApp (dVar 2) (dTup (dCons (dVar 4) (dCons (dOp qAdd (dVar 4) (dCall 2 T__law_pick (dCons (dVar 0) (dCons (dLst (dCons (dC (.int 0)) (dCons (dC (.int 1)) (dCons (dC (.int 5)) (dCons (dOp qPow (dC (.int 10)) (dC (.int 9))) dNil))))) dNil)))) dNil))))))
/-- slots of _law_whole: 0 deal, 1 n, 2 found, 3 k, 4 lo -/
def rd__law_whole : TSD := (dSeq (dAsg (dLstM dNil) (dgName 2))
    (dSeq (dFor (dRg1 (dCons (dVar 1) dNil)) (dgName 3)
    rd__law_whole_b1)
    (dRet (dCB cTup (dCons (dVar 2) dNil)))))
def rd__law_worst_b1 : TSD := (dSeq (dAsg (dCall 2 T__law_mult (dCons (dOp dIxR (dVar 1) (dVar 4)) (dCons (dOp dIxR (dVar 0) (dVar 4)) dNil))) (dgName 5))
    (dAsg (dCall 2 T__law_plus (dCons (dVar 3) (dCons (dCall 2 T__law_mult (dCons (dVar 5) (dCons (dTup (dCons (dIf (dTestR (dOp qGt (dIxK 0 (dVar 5)) (dC (.int 0)))) (dIxK 0 (dOp dIxR (dVar 2) (dVar 4))) (dIxK 1 (dOp dIxR (dVar 2) (dVar 4)))) (dCons (dC (.int 1)) dNil))) dNil))) dNil))) (dgName 3)))
/-- slots of _law_worst: 0 units, 1 factors, 2 whole, 3 total, 4 k, 5 own -/
def rd__law_worst : TSD := (dSeq (dAsg (dTup (dCons (dC (.int 0)) (dCons (dC (.int 1)) dNil))) (dgName 3))
    (dSeq (dFor (dRg1 (dCons (dCB cLen (dCons (dVar 0) dNil)) dNil)) (dgName 4)
    rd__law_worst_b1)
    (dRet (dVar 3))))
def rd__law_bound_e1 : TD := (dIf (dTestR (dOp qGt (dCall 2 T__law_take (dCons (dVar 0) (dCons (dC (.int 3)) dNil))) (dC (.int 0)))) (dCall 1 T__law_great (dCons (dVar 0) dNil)) (dTup (dCons (dC (.int 0)) (dCons (dC (.int 1)) dNil))))
/-- slots of _law_bound: 0 deal, 1 units, 2 whole, 3 n, 4 factors, 5 worst, 6 tiny, 7 k -/
def rd__law_bound : TSD := (dSeq (dAsg (dCB cLen (dCons (dVar 1) dNil)) (dgName 3))
    (dSeq (dAsg (dLcG (dRg1 (dCons (dVar 3) dNil)) (dgName 7) dYes rd__law_bound_e1 [7] kMut) (dgName 4))
    (dSeq (dIfS (dTestR (dOp qGt (dCall 2 T__law_take (dCons (dVar 0) (dCons (dC (.int 9)) dNil))) (dC (.int 0))))
    (dAsg (dCall 1 T__law_great (dCons (dVar 0) dNil)) (dgSub (dVar 4) (dCall 2 T__law_take (dCons (dVar 0) (dCons (dVar 3) dNil)))))
    dNext)
    (dSeq (dAsg (dCB cTup (dCons (dVar 4) dNil)) (dgName 4))
    (dSeq (dAsg (dCall 3 T__law_worst (dCons (dVar 1) (dCons (dVar 4) (dCons (dVar 2) dNil)))) (dgName 5))
    (dSeq (dAsg (dCall 2 T__law_pick (dCons (dVar 0) (dCons (dLst (dCons (dTup (dCons (dC (.int 0)) (dCons (dC (.int 1)) dNil))) (dCons (dTup (dCons (dC (.int 0)) (dCons (dC (.int 1)) dNil))) (dCons (dTup (dCons (dC (.int 1)) (dCons (dOp qPow (dC (.int 10)) (dC (.int 20))) dNil))) (dCons (dTup (dCons (dUn qNeg (dC (.int 1))) (dCons (dOp qPow (dC (.int 10)) (dC (.int 20))) dNil))) (dCons (dCall 1 T__law_great (dCons (dVar 0) dNil)) dNil)))))) dNil))) (dgName 6))
    (dRet (dTup (dCons (dVar 4) (dCons (dCall 2 T__law_plus (dCons (dTup (dCons (dUn qNeg (dIxK 0 (dVar 5))) (dCons (dIxK 1 (dVar 5)) dNil))) (dCons (dVar 6) dNil))) (dCons (dOp qEq (dCall 2 T__law_take (dCons (dVar 0) (dCons (dC (.int 3)) dNil))) (dC (.int 0))) dNil)))))))))))
def rd__law_test_e1 : TD := (dCall 2 T__law_mult (dCons (dOp dIxR (dVar 2) (dVar 13)) (dCons (dOp dIxR (dVar 0) (dVar 13)) dNil)))
def rd__law_test_b1 : TSD := (dAsg (dOp qDiv (dOp qMul (dVar 6) (dIxK 1 (dVar 7))) (dCall 2 T__law_shared (dCons (dVar 6) (dCons (dIxK 1 (dVar 7)) dNil)))) (dgName 6))
def rd__law_test_e2 : TD := (dOp qMul (dIxK 0 (dVar 7)) (dOp qDiv (dVar 6) (dIxK 1 (dVar 7))))
def rd__law_test_b2 : TSD := (dAsg (dCall 2 T__law_shared (dCons (dVar 9) (dCons (dCB cAbs (dCons (dVar 10) dNil)) dNil))) (dgName 9))
def rd__law_test_e3 : TD := (dOp qDiv (dVar 10) (dVar 9))
/-- slots of _law_test: 0 units, 1 bound, 2 factors, 3 rest, 4 strict, 5 own, 6 many, 7 t, 8 whole, 9 shared, 10 number, 11 p, 12 q, 13 k -/
def rd__law_test : TSD := (dSeq (dAsg (dVar 1) (dgTup 3 (dgCons (dgName 2) (dgCons (dgName 3) (dgCons (dgName 4) dgNil)))))
    (dSeq (dAsg (dLcG (dRg1 (dCons (dCB cLen (dCons (dVar 0) dNil)) dNil)) (dgName 13) dYes rd__law_test_e1 [13] kFro) (dgName 5))
    (dSeq (dAsg (dC (.int 1)) (dgName 6))
    (dSeq (dFor (dItems (dVar 5)) (dgName 7)
    rd__law_test_b1)
    (dSeq (dAsg (dLcG (dItems (dVar 5)) (dgName 7) dYes rd__law_test_e2 [7] kFro) (dgName 8))
    (dSeq (dAsg (dC (.int 0)) (dgName 9))
    (dSeq (dFor (dItems (dVar 8)) (dgName 10)
    rd__law_test_b2)
    (dSeq (dIfS (dTestR (dOp qEq (dVar 9) (dC (.int 0))))
    (dRet (dTup (dCons (dCB cTup (dCons (dVar 8) dNil)) (dCons (dOp qSub (dIxK 0 (dVar 3)) (dCB cInt (dCons (dVar 4) dNil))) dNil))))
    dNext)
    (dSeq (dAsg (dCall 2 T__law_over (dCons (dVar 3) (dCons (dCall 2 T__law_ratio (dCons (dVar 9) (dCons (dVar 6) dNil))) dNil))) (dgTup 2 (dgCons (dgName 11) (dgCons (dgName 12) dgNil))))
    (dRet (dTup (dCons (dCB cTup (dCons (dLcG (dItems (dVar 8)) (dgName 10) dYes rd__law_test_e3 [10] kFro) dNil)) (dCons (dIf (dTru (dVar 4)) (dOp qSub (dUn qNeg (dOp qDiv (dUn qNeg (dVar 11)) (dVar 12))) (dC (.int 1))) (dOp qDiv (dVar 11) (dVar 12))) dNil)))))))))))))
/-- slots of _law_holds: 0 units, 1 bound, 2 whole, 3 high -/
def rd__law_holds : TSD := (dSeq (dAsg (dCall 2 T__law_plus (dCons (dCall 3 T__law_worst (dCons (dVar 0) (dCons (dIxK 0 (dVar 1)) (dCons (dVar 2) dNil)))) (dCons (dIxK 1 (dVar 1)) dNil))) (dgName 3))
    (dRet (dOrV (dOp qGt (dIxK 0 (dVar 3)) (dC (.int 0))) (dAndV (dOp qEq (dIxK 0 (dVar 3)) (dC (.int 0))) (dNotV (dIxK 2 (dVar 1)))))))
def rd__law_sized_e1 : TD := (dCall 2 T__law_mult (dCons (dVar 1) (dCons (dVar 2) dNil)))
/-- slots of _law_sized: 0 bound, 1 t, 2 factor -/
def rd__law_sized : TSD := (dRet (dTup (dCons (dCB cTup (dCons (dLcG (dItems (dIxK 0 (dVar 0))) (dgName 2) dYes rd__law_sized_e1 [2] kFro) dNil)) (dCons (dCall 2 T__law_mult (dCons (dVar 1) (dCons (dIxK 1 (dVar 0)) dNil))) (dCons (dIxK 2 (dVar 0)) dNil)))))
def rd__law_boxes_right_b1 : TSD := (dSeq (dAsg (dOp qSub (dCall 2 T__law_take (dCons (dVar 0) (dCons (dC (.int 401)) dNil))) (dC (.int 200))) (dgName 6))
    (dSeq (dAsg (dOp qAdd (dVar 6) (dCall 2 T__law_take (dCons (dVar 0) (dCons (dC (.int 9)) dNil)))) (dgName 7))
    (dSeq (dAsg (dCall 2 T__law_mult (dCons (dOp dIxR (dVar 1) (dVar 5)) (dCons (dCall 2 T__law_pick (dCons (dVar 0) (dCons (dLst (dCons (dTup (dCons (dC (.int 0)) (dCons (dC (.int 1)) dNil))) (dCons (dTup (dCons (dC (.int 1)) (dCons (dC (.int 7)) dNil))) (dCons (dTup (dCons (dUn qNeg (dC (.int 1))) (dCons (dOp qPow (dC (.int 10)) (dC (.int 25))) dNil))) dNil)))) dNil))) dNil))) (dgName 8))
    (dSeq (dAsg (dCall 2 T__law_plus (dCons (dCall 2 T__law_mult (dCons (dOp dIxR (dVar 1) (dVar 5)) (dCons (dTup (dCons (dVar 6) (dCons (dC (.int 1)) dNil))) dNil))) (dCons (dVar 8) dNil))) (dgName 9))
    (dSeq (dAsg (dCall 2 T__law_plus (dCons (dCall 2 T__law_mult (dCons (dOp dIxR (dVar 1) (dVar 5)) (dCons (dTup (dCons (dVar 7) (dCons (dC (.int 1)) dNil))) dNil))) (dCons (dVar 8) dNil))) (dgName 10))
    (dSeq (dDrop (dApp (dVar 3) (dTup (dCons (dVar 9) (dCons (dVar 10) dNil)))))
    (dSeq (dDrop (dApp (dVar 4) (dTup (dCons (dOp qSub (dVar 6) (dCB cInt (dCons (dOp qLt (dIxK 0 (dVar 8)) (dC (.int 0))) dNil))) (dCons (dOp qAdd (dVar 7) (dCB cInt (dCons (dOp qGt (dIxK 0 (dVar 8)) (dC (.int 0))) dNil))) dNil)))))
    (dIfS (dOr (dNot (dTru (dCall 2 T__law_same (dCons (dCall 2 T_down (dCons (dVar 9) (dCons (dOp dIxR (dVar 1) (dVar 5)) dNil))) (dCons (dIxK 0 (dOp dIxR (dVar 4) (dVar 5))) dNil))))) (dNot (dTru (dCall 2 T__law_same (dCons (dCall 2 T_up (dCons (dVar 10) (dCons (dOp dIxR (dVar 1) (dVar 5)) dNil))) (dCons (dIxK 1 (dOp dIxR (dVar 4) (dVar 5))) dNil))))))
    (dRet (dC (.bool false)))
    dNext))))))))
/-- slots of _law_boxes_right: 0 deal, 1 units, 2 n, 3 box, 4 due, 5 k, 6 lo, 7 hi, 8 tiny, 9 low, 10 high -/
def rd__law_boxes_right : TSD := (dSeq (dAsg (dCB cLen (dCons (dVar 1) dNil)) (dgName 2))
    (dSeq (dPar 3 4 (dCons (dLstM dNil) (dCons (dLstM dNil) dNil)))
    (dSeq (dFor (dRg1 (dCons (dVar 2) dNil)) (dgName 5)
    rd__law_boxes_right_b1)
    (dRet (dCall 2 T__law_same (dCons (dCall 2 T_made_whole (dCons (dVar 1) (dCons (dCB cTup (dCons (dVar 3) dNil)) dNil))) (dCons (dCB cTup (dCons (dVar 4) dNil)) dNil)))))))
def rd_law_e1 : TD := (dC (.int 1))
def rd_law_t1 : TTD := (dTestR (dOp qNotB (dCall 2 T_are_units (dCons (dVar 2) (dCons (dVar 20) dNil))) (dC (.bool false))))
def rd_law_e2 : TD := (dTup (dCons (dCall 2 T__law_mult (dCons (dOp dIxR (dVar 3) (dVar 21)) (dCons (dTup (dCons (dIxK 0 (dOp dIxR (dVar 5) (dVar 21))) (dCons (dC (.int 1)) dNil))) dNil))) (dCons (dCall 2 T__law_mult (dCons (dOp dIxR (dVar 3) (dVar 21)) (dCons (dTup (dCons (dIxK 1 (dOp dIxR (dVar 5) (dVar 21))) (dCons (dC (.int 1)) dNil))) dNil))) dNil)))
def rd_law_e3 : TD := (dCall 3 T__law_bound (dCons (dVar 1) (dCons (dVar 3) (dCons (dVar 5) dNil))))
def rd_law_b1 : TSD := (dSeq (dAsg (dLcG (dRg1 (dCons (dOp qAdd (dC (.int 1)) (dCall 2 T__law_take (dCons (dVar 1) (dCons (dC (.int 4)) dNil)))) dNil)) (dgName 21) dYes rd_law_e3 [21] kFro) (dgName 9))
    (dDrop (dApp (dVar 7) (dTup (dCons (dCB cTup (dCons (dVar 9) dNil)) (dCons (dCall 2 T__law_take (dCons (dVar 1) (dCons (dC (.int 9)) dNil))) dNil))))))
def rd_law_e4 : TD := (dC (.int 1))
def rd_law_t2 : TTD := (dTestR (dOp qNe (dIxK 0 (dVar 22)) (dC (.int 0))))
def rd_law_b2 : TSD := (dSeq (dAsg (dCall 3 T__law_holds (dCons (dVar 3) (dCons (dVar 15) (dCons (dVar 11) dNil)))) (dgName 16))
    (dSeq (dAsg (dCall 2 T_whole_test (dCons (dVar 3) (dCons (dVar 15) dNil))) (dgName 17))
    (dSeq (dIfS (dOr (dNot (dTru (dCall 2 T__law_same (dCons (dVar 17) (dCons (dCall 2 T__law_test (dCons (dVar 3) (dCons (dVar 15) dNil))) dNil))))) (dNot (dTru (dCall 2 T__law_bool (dCons (dCall 2 T_holds_for (dCons (dVar 17) (dCons (dVar 11) dNil))) (dCons (dVar 16) dNil))))))
    (dRet (dC (.bool false)))
    dNext)
    (dSeq (dIfS (dTestR (dOp qGt (dCB cLen (dCons (dLcG (dItems (dIxK 0 (dVar 15))) (dgName 22) rd_law_t2 rd_law_e4 [22] kFro) dNil)) (dC (.int 0))))
    (dSeq (dAsg (dCall 2 T__law_pick (dCons (dVar 1) (dCons (dLst (dCons (dTup (dCons (dC (.int 1)) (dCons (dC (.int 3)) dNil))) (dCons (dTup (dCons (dC (.int 12)) (dCons (dC (.int 1)) dNil))) (dCons (dTup (dCons (dOp qPow (dC (.int 10)) (dC (.int 9))) (dCons (dC (.int 7)) dNil))) dNil)))) dNil))) (dgName 18))
    (dIfS (dNot (dTru (dCall 2 T__law_same (dCons (dCall 2 T_whole_test (dCons (dVar 3) (dCons (dCall 2 T__law_sized (dCons (dVar 15) (dCons (dVar 18) dNil))) dNil))) (dCons (dVar 17) dNil)))))
    (dRet (dC (.bool false)))
    dNext))
    dNext)
    (dAsg (dAndV (dVar 14) (dVar 16)) (dgName 14))))))
def rd_law_e5 : TD := (dCall 2 T__law_test (dCons (dVar 3) (dCons (dVar 15) dNil)))
def rd_law_b3 : TSD := (dSeq (dAsg (dC (.bool true)) (dgName 14))
    (dSeq (dFor (dItems (dVar 9)) (dgName 15)
    rd_law_b2)
    (dSeq (dAsg (dCall 2 T_whole_row (dCons (dVar 3) (dCons (dTup (dCons (dVar 9) (dCons (dVar 13) dNil))) dNil))) (dgName 19))
    (dSeq (dIfS (dNot (dTru (dCall 2 T__law_same (dCons (dVar 19) (dCons (dTup (dCons (dCB cTup (dCons (dLcG (dItems (dVar 9)) (dgName 15) dYes rd_law_e5 [15] kFro) dNil)) (dCons (dVar 13) dNil))) dNil)))))
    (dRet (dC (.bool false)))
    dNext)
    (dSeq (dIfS (dNot (dTru (dCall 2 T__law_bool (dCons (dCall 2 T_row_holds (dCons (dVar 19) (dCons (dVar 11) dNil))) (dCons (dVar 14) dNil)))))
    (dRet (dC (.bool false)))
    dNext)
    (dIfS (dAnd (dTru (dVar 14)) (dTestR (dOp qIsN (dVar 12) (dC .none))))
    (dAsg (dVar 13) (dgName 12))
    dNext))))))
def rd_law_b4 : TSD := (dSeq (dAsg (dC .none) (dgName 12))
    (dSeq (dFor (dItems (dVar 7)) (dgTup 2 (dgCons (dgName 9) (dgCons (dgName 13) dgNil)))
    rd_law_b3)
    (dIfS (dNot (dTru (dCall 2 T__law_same (dCons (dCall 2 T_command_in (dCons (dCall 2 T_whole_table (dCons (dVar 3) (dCons (dCB cTup (dCons (dVar 7) dNil)) dNil))) (dCons (dVar 11) dNil))) (dCons (dVar 12) dNil)))))
    (dRet (dC (.bool false)))
    dNext)))
/-- slots of law: 0 script, 1 deal, 2 n, 3 units, 4 odds, 5 whole, 6 worths, 7 table, 8 i, 9 bounds, 10 other, 11 spot, 12 first, 13 command, 14 all_hold, 15 bound, 16 due, 17 test, 18 size, 19 row, 20 odd, 21 k, 22 t -/
def rd_law : TSD := (dSeq (dAsg (dCall 1 T__law_deal (dCons (dVar 0) dNil)) (dgName 1))
    (dSeq (dAsg (dCall 2 T__law_pick (dCons (dVar 1) (dCons (dLst (dCons (dC (.int 3)) (dCons (dC (.int 2)) (dCons (dC (.int 1)) (dCons (dC (.int 3)) dNil))))) dNil))) (dgName 2))
    (dSeq (dAsg (dCall 2 T__law_units (dCons (dVar 1) (dCons (dVar 2) dNil))) (dgName 3))
    (dSeq (dAsg (dLst (dCons (dOp qAddL (dVar 3) (dSl (dVar 3) dNoPart (dPart (dC (.int 1))))) (dCons (dSl (dVar 3) dNoPart (dPart (dOp qSub (dVar 2) (dC (.int 1))))) (dCons (dOp qAddL (dSl (dVar 3) dNoPart (dPart (dOp qSub (dVar 2) (dC (.int 1))))) (dTup (dCons (dTup (dCons (dC (.int 0)) (dCons (dC (.int 1)) dNil))) dNil))) (dCons (dOp qAddL (dSl (dVar 3) dNoPart (dPart (dOp qSub (dVar 2) (dC (.int 1))))) (dTup (dCons (dTup (dCons (dUn qNeg (dC (.int 1))) (dCons (dC (.int 2)) dNil))) dNil))) (dCons (dOp qAddL (dSl (dVar 3) dNoPart (dPart (dOp qSub (dVar 2) (dC (.int 1))))) (dTup (dCons (dTup (dCons (dC (.int 2)) (dCons (dC (.int 6)) dNil))) dNil))) dNil)))))) (dgName 4))
    (dSeq (dIfS (dOr (dTestR (dOp qNotB (dCall 2 T_are_units (dCons (dVar 2) (dCons (dVar 3) dNil))) (dC (.bool true)))) (dTestR (dOp qGt (dCB cLen (dCons (dLcG (dItems (dVar 4)) (dgName 20) rd_law_t1 rd_law_e1 [20] kFro) dNil)) (dC (.int 0)))))
    (dRet (dC (.bool false)))
    dNext)
    (dSeq (dAsg (dCall 2 T__law_whole (dCons (dVar 1) (dCons (dVar 2) dNil))) (dgName 5))
    (dSeq (dAsg (dCB cTup (dCons (dLcG (dRg1 (dCons (dVar 2) dNil)) (dgName 21) dYes rd_law_e2 [21] kFro) dNil)) (dgName 6))
    (dSeq (dIfS (dNot (dTru (dCall 2 T__law_same (dCons (dCall 2 T_worth_of (dCons (dVar 3) (dCons (dVar 5) dNil))) (dCons (dVar 6) dNil)))))
    (dRet (dC (.bool false)))
    dNext)
    (dSeq (dAsg (dLstM dNil) (dgName 7))
    (dSeq (dFor (dRg1 (dCons (dC (.int 3)) dNil)) (dgName 8)
    rd_law_b1)
    (dSeq (dAsg (dCall 2 T__law_whole (dCons (dVar 1) (dCons (dVar 2) dNil))) (dgName 10))
    (dSeq (dFor (dItems (dLst (dCons (dVar 5) (dCons (dVar 10) dNil)))) (dgName 11)
    rd_law_b4)
    (dRet (dCall 2 T__law_boxes_right (dCons (dVar 1) (dCons (dVar 3) dNil))))))))))))))))
end K42

set_option Elab.async false
set_option linter.all false
set_option maxRecDepth 100000
set_option maxHeartbeats 2000000
namespace K42
open PySem L2 FL FR
local macro_rules | `(tactic| walk_at "fl") => `(tactic| simp only [dSeq, dAsg, dgName, dVar, dC, dOp, dUn, dIxK, ixkR, itemsR, dTup, dLst, dCons, dNil, dCall, dCB, dIfS, dIf, dTestR, dTru, dTruR, dRet, dRetN, dNext, dDrop, dAnd, dOr, dNot, dAndV, dOrV, dNotV, dPar, dFor, dRg1, dRg2, dItems, dgTup, dgCons, dgNil, dZip, dZipR, dIsi, isTy, tgOf, tab, dApp, dgSub, dLstM, dVarF, dBreak, dCont, dSl, dSlR, dPart, dNoPart, dLcG, dChain, dAug, dEnum,
  qI, qI0, qNeg, qEq, qNe, qIsN, qNotN, isNone, eqOk, dIxR, cAbs, cInt, cLen, cSum, cMax2, cMin2, cTup, cList, cListM, eqv_ii, eqv_bb, kFro, kMut,
  endsD, sd1, sd2, sd3, getS, getC, datas, List.length_cons, List.length_nil, List.map_cons, List.map_nil, Option.map_some, List.set_cons_zero, List.set_cons_succ, List.replicate_succ, List.replicate_zero, List.getElem?_cons_zero, List.getElem?_cons_succ, List.cons_append, List.nil_append,
  Option.some.injEq, S.d.injEq, S.ref.injEq, PyData.int.injEq, PyData.bool.injEq, PyData.list.injEq, PyData.tuple.injEq, List.cons.injEq, and_true, true_and, exists_eq_left, exists_eq_left', exists_eq_right, exists_and_left, exists_and_right, exists_const, forall_const, imp_self, reduceCtorEq, false_and, and_false, decide_eq_true_eq, decide_eq_false_iff_not, Bool.not_eq_true', Bool.not_eq_false', ne_eq, Classical.not_not, Bool.true_eq_false, Bool.false_eq_true, Nat.reduceAdd, false_implies, true_implies, implies_true, sizeLine_eq, Nat.reduceLeDiff, decide_true, decide_false, Bool.not_true, Bool.not_false, decide_not])
local macro_rules | `(tactic| walk_at "fm") => `(tactic| simp only [rgS_len, wip, dSeq, ixk_l, ixk_t, ixk_r, ixr_l, ixr_t, ixr_s, ixr_r, tru_n, tru_b, tru_i, tru_l, tru_t, tru_s, tru_r, its_l, its_t, its_r, gtup_t, eqk_i, eqk_b, eqk_s, eqk_t, eqk_l, len_l, len_t, len_s, len_r, int_i, int_b, sum_l, sum_r, tup_l, tup_t, tup_r, lis_l, lis_t, lis_r, lim_l, lim_t, lim_r, zip_t, zip_l, sl_l, sl_t, sl_r, dAsg, dgName, dVar, dC, dOp, dUn, dIxK, dTup, dLst, dCons, dNil, dCall, dCB, dIfS, dIf, dTestR, dTru, dRet, dRetN, dNext, dDrop, dAnd, dOr, dNot, dAndV, dOrV, dNotV, dPar, dFor, dRg1, dRg2, dItems, dgCons, dgNil, dZip, dIsi, isTy, tgOf, tab, dApp, dgSub, dLstM, dVarF, dBreak, dCont, dSl, dPart, dNoPart, dLcG, dChain, dAug, dEnum,
  qI, qI0, qNeg, qEq, qNe, qIsN, qNotN, isNone, qIsB, qNotB, isB, addl_i, addl_t, addl_l, cAbs, cMax2, cMin2, eqv_ii, eqv_bb, kFro, kMut,
  endsD, sd1, sd2, sd3, getS, getC, datas, List.length_cons, List.length_nil, List.map_cons, List.map_nil, Option.map_some, List.set_cons_zero, List.set_cons_succ, List.replicate_succ, List.replicate_zero, List.getElem?_cons_zero, List.getElem?_cons_succ, List.cons_append, List.nil_append,
  Option.some.injEq, S.d.injEq, S.ref.injEq, PyData.int.injEq, PyData.bool.injEq, PyData.list.injEq, PyData.tuple.injEq, List.cons.injEq, and_true, true_and, exists_eq_left, exists_eq_left', exists_eq_right, exists_and_left, exists_and_right, exists_const, exists_eq', exists_eq, ixk_enc0, ixk_enc1, not_true_eq_false, not_false_eq_true, and_self, enc_eq, dOk_enc, dOk_int, eqv_enc, datas_si, datas_map, intsOf_map, and_assoc, List.length_map, List.length_append, forall_const, imp_self, reduceCtorEq, false_and, and_false, decide_eq_true_eq, decide_eq_false_iff_not, Bool.not_eq_true', Bool.not_eq_false', ne_eq, Classical.not_not, Bool.true_eq_false, Bool.false_eq_true, Nat.reduceAdd, false_implies, true_implies, implies_true, sizeLine_eq, Nat.reduceLeDiff, decide_true, decide_false, Bool.not_true, Bool.not_false, decide_not])
theorem gd_turns {d : EndsD} {cs : Sto} : ∀ (n : Nat) (p q : Int), 0 ≤ q → q.toNat < n → (∀ g : Int, (if g < 0 then -g else g) = (Int.gcd p q : Nat) → d.nx [some (si g), some (si 0)] cs) →
    whileR (dTestR (dOp qNe (dVar 1) (dC (.int 0)))) rd_greatest_divisor_b1 d n [some (si p), some (si q)] cs
  | 0, p, q, _, h, _ => absurd h (Nat.not_lt_zero _)
  | n + 1, p, q, hq, h, k => by
    unfold whileR rd_greatest_divisor_b1
    walk_at "fl"
    refine ⟨fun hne => ⟨by omega, ?_⟩, fun e => ?_⟩
    · have h0 : 0 < q := by omega
      have h1 := Int.emod_nonneg p (show q ≠ 0 by omega)
      have h2 := Int.emod_lt_of_pos p h0
      exact gd_turns n q (p % q) h1 (by omega) fun g hg => k g (by rw [hg, gcd_turn])
    · subst e
      refine k p ?_
      rw [Int.gcd_zero_right]
      split <;> omega
theorem m_greatest_divisor : ∀ xs cs R, xs.length = 2 → Okc cs.length cs → T_greatest_divisor xs cs R → rd_greatest_divisor (endsD cs.length R) (startD 2 xs) cs := by
  rintro xs cs R hl hc ⟨p, q, rfl, hq, h⟩
  unfold rd_greatest_divisor
  walk_at "fl"
  refine ⟨q.toNat + 1, gd_turns _ p q hq (by omega) fun g hg => ?_⟩
  walk_at "fl"
  rw [hg]
  exact rt_l h
theorem m_ratio : ∀ xs cs R, xs.length = 2 → Okc cs.length cs → T_ratio xs cs R → rd_ratio (endsD cs.length R) (startD 3 xs) cs := by
  rintro xs cs R hl hc ⟨p, q, rfl, hq, hb, h⟩
  unfold rd_ratio T_greatest_divisor
  walk_at "fl"
  refine ⟨fun hn => ⟨-p, -q, ⟨rfl, rfl⟩, by omega, ?_⟩, fun hn => ⟨p, q, ⟨rfl, rfl⟩, by omega, ?_⟩⟩
  · have hq' : (0 : Int) < -q := by omega
    have g1 : CDivW (-p) (Int.gcd (-p) (-q) : Nat) := cdiv_ok _ (gcd_ne (by omega)) (gcd_bound (by omega) hb.neg)
    have g2 : CDivW (-q) (Int.gcd (-p) (-q) : Nat) := cdiv_ok _ (gcd_ne (by omega)) (gcd_bound (by omega) hb.neg)
    refine ⟨g1, g2, rt_l ?_⟩
    rw [num_is hq', den_is hq', divInt_flip]
    exact h
  · have hq' : (0 : Int) < q := by omega
    have g1 : CDivW p (Int.gcd p q : Nat) := cdiv_ok _ (gcd_ne hq) (gcd_bound hq hb)
    have g2 : CDivW q (Int.gcd p q : Nat) := cdiv_ok _ (gcd_ne hq) (gcd_bound hq hb)
    refine ⟨g1, g2, rt_l ?_⟩
    rw [num_is hq', den_is hq']
    exact h
theorem m_times : ∀ xs cs R, xs.length = 2 → Okc cs.length cs → T_times xs cs R → rd_times (endsD cs.length R) (startD 2 xs) cs := by
  rintro xs cs R hl hc ⟨r, t, rfl, hr, ht, h⟩
  unfold rd_times T_ratio sr encR
  walk_at "fl"
  refine ⟨hr.n.cm ht.n, hr.d.cm ht.d, _, _, ⟨rfl, rfl⟩, mul_ne (den_ne r) (den_ne t), (hr.d.mul ht.d).mono (by decide), rt_l ?_⟩
  rw [← mul_is]
  exact h
theorem m_over : ∀ xs cs R, xs.length = 2 → Okc cs.length cs → T_over xs cs R → rd_over (endsD cs.length R) (startD 2 xs) cs := by
  rintro xs cs R hl hc ⟨r, t, rfl, hr, ht, h0, h⟩
  unfold rd_over T_ratio sr encR
  walk_at "fl"
  refine ⟨hr.n.cm ht.d, hr.d.cm ht.n, _, _, ⟨rfl, rfl⟩, mul_ne (den_ne r) (num_ne h0), (hr.d.mul ht.n).mono (by decide), rt_l ?_⟩
  rw [← div_is]
  exact h
theorem cmp_is {r t : Rat} : cmpR r t = if r.num * t.den - t.num * r.den < 0 then -1 else if r.num * t.den - t.num * r.den > 0 then 1 else 0 := by
  unfold cmpR
  simp only [Rat.lt_iff]
  split <;> split <;> (try split) <;> omega
theorem m_compare : ∀ xs cs R, xs.length = 2 → Okc cs.length cs → T_compare xs cs R → rd_compare (endsD cs.length R) (startD 3 xs) cs := by
  rintro xs cs R hl hc ⟨r, t, rfl, hr, ht, h⟩
  rw [cmp_is] at h
  unfold rd_compare sr encR
  walk_at "fl"
  refine ⟨hr.n.cm ht.d, ht.n.cm hr.d, fun h1 => rt_l ?_, fun h1 => ⟨fun h2 => rt_l ?_, fun h2 => rt_l ?_⟩⟩
  · rw [if_pos h1] at h; exact h
  · rw [if_neg h1, if_pos h2] at h; exact h
  · rw [if_neg h1, if_neg (by omega)] at h; exact h
theorem nothing_is : c_NOTHING = encR 0 := rfl
theorem m_is_ratio : ∀ xs cs R, xs.length = 1 → Okc cs.length cs → T_is_ratio xs cs R → rd_is_ratio (endsD cs.length R) (startD 1 xs) cs := by
  rintro xs cs R hl hc ⟨p, q, rfl, h⟩
  unfold rd_is_ratio T_greatest_divisor
  unfold low at h
  walk_at "fl"
  refine ⟨fun h1 => ⟨p, q, ⟨rfl, rfl⟩, by omega, rt_l ?_⟩, fun h1 => rt_l ?_⟩
  · rw [decide_eq_true h1, Bool.true_and] at h
    have e : decide (((Int.gcd p q : Nat) : Int) = 1) = decide (Int.gcd p q = 1) := by
      congr 1
      exact propext ⟨fun z => by omega, fun z => by omega⟩
    rw [e]
    exact h
  · rw [decide_eq_false h1, Bool.false_and] at h
    exact h
theorem m__law_bool : ∀ xs cs R, xs.length = 2 → Okc cs.length cs → T__law_bool xs cs R → rd__law_bool (endsD cs.length R) (startD 2 xs) cs := by
  rintro xs cs R hl hc ⟨b, rfl, h⟩
  unfold rd__law_bool
  walk_at "fl"
  refine rt_l ?_
  simpa using h
theorem m__law_plus : ∀ xs cs R, xs.length = 2 → Okc cs.length cs → T__law_plus xs cs R → rd__law_plus (endsD cs.length R) (startD 2 xs) cs := by
  rintro xs cs R hl hc ⟨r, t, rfl, hr, ht, h⟩
  unfold rd__law_plus T__law_ratio sr encR
  walk_at "fl"
  refine ⟨hr.n.cm ht.d, ht.n.cm hr.d, hr.d.cm ht.d, _, _, ⟨rfl, rfl⟩, mul_ne (den_ne r) (den_ne t), ((hr.n.mul ht.d).add (ht.n.mul hr.d)).mono (by decide), (hr.d.mul ht.d).mono (by decide), rt_l ?_⟩
  rw [← add_is]
  exact h
theorem m__law_mult : ∀ xs cs R, xs.length = 2 → Okc cs.length cs → T__law_mult xs cs R → rd__law_mult (endsD cs.length R) (startD 2 xs) cs := by
  rintro xs cs R hl hc ⟨r, t, rfl, hr, ht, h⟩
  unfold rd__law_mult T__law_ratio sr encR
  walk_at "fl"
  refine ⟨hr.n.cm ht.n, hr.d.cm ht.d, _, _, ⟨rfl, rfl⟩, mul_ne (den_ne r) (den_ne t), (hr.n.mul ht.n).mono (by decide), (hr.d.mul ht.d).mono (by decide), rt_l ?_⟩
  rw [← mul_is]
  exact h
theorem m__law_over : ∀ xs cs R, xs.length = 2 → Okc cs.length cs → T__law_over xs cs R → rd__law_over (endsD cs.length R) (startD 2 xs) cs := by
  rintro xs cs R hl hc ⟨r, t, rfl, hr, ht, h0, h⟩
  unfold rd__law_over T__law_ratio sr encR
  walk_at "fl"
  refine ⟨hr.n.cm ht.d, hr.d.cm ht.n, _, _, ⟨rfl, rfl⟩, mul_ne (den_ne r) (num_ne h0), (hr.n.mul ht.d).mono (by decide), (hr.d.mul ht.n).mono (by decide), rt_l ?_⟩
  rw [← div_is]
  exact h
theorem gcd_turn' {a b : Int} : Int.gcd (b % a) a = Int.gcd a b := by rw [Int.gcd_comm, gcd_turn, Int.gcd_comm]
theorem eu_half {a b : Int} (ha : 0 < a) (hab : a < b) : b % a * a * 2 ≤ a * b := by
  have h1 := Int.emod_add_mul_ediv b a
  have h2 := Int.emod_lt_of_pos b ha
  have h3 := Int.emod_nonneg b (show a ≠ 0 by omega)
  have h4 : 1 ≤ b / a := Int.le_ediv_of_mul_le ha (by omega)
  have h5 : a * 1 ≤ a * (b / a) := Int.mul_le_mul_of_nonneg_left h4 (by omega)
  have h6 : b % a * 2 ≤ b := by omega
  have h7 : b % a * 2 * a ≤ b * a := Int.mul_le_mul_of_nonneg_right h6 (by omega)
  have e1 : b % a * a * 2 = b % a * 2 * a := by rw [Int.mul_assoc, Int.mul_comm a 2, ← Int.mul_assoc]
  rw [e1, Int.mul_comm a b]
  exact h7
theorem lr_turns {d : EndsD} {cs : Sto} {P Q : Option S} : ∀ (n m : Nat) (lo a b : Int) (o : Option S), 0 ≤ a → a < b → a * b < 2 ^ n → n < m →
    (∀ o, d.nx [P, Q, some (si 0), some (si (Int.gcd a b : Nat)), o] cs) →
    forR okT (dgName 4) rd__law_ratio_b1 d (rgS lo m) [P, Q, some (si a), some (si b), o] cs
  | n, 0, lo, a, b, o, _, _, _, hm, _ => absurd hm (Nat.not_lt_zero _)
  | n, m + 1, lo, a, b, o, ha, hab, hn, hm, k => by
    rw [rgS_succ]
    refine ⟨trivial, ?_⟩
    unfold rd__law_ratio_b1
    walk_at "fl"
    refine ⟨fun e => ?_, fun e => ⟨by omega, ?_⟩⟩
    · subst e
      have := k (some (si lo))
      rw [Int.gcd_zero_left] at this
      have e2 : ((b.natAbs : Nat) : Int) = b := by omega
      rw [e2] at this
      exact this
    · have h0 : 0 < a := by omega
      have h1 := Int.emod_nonneg b (show a ≠ 0 by omega)
      have h2 := Int.emod_lt_of_pos b h0
      have h3 := eu_half h0 hab
      cases n with
      | zero =>
        have : 1 * 1 ≤ a * b := Int.mul_le_mul (by omega) (by omega) (by omega) (by omega)
        simp at hn
        omega
      | succ n =>
        have e : (2 : Int) ^ (n + 1) = 2 ^ n * 2 := Int.pow_succ 2 n
        refine lr_turns n m (lo + 1) (b % a) a (some (si lo)) h1 h2 (by omega) (by omega) fun o => ?_
        rw [gcd_turn']
        exact k o
theorem m__law_ratio : ∀ xs cs R, xs.length = 2 → Okc cs.length cs → T__law_ratio xs cs R → rd__law_ratio (endsD cs.length R) (startD 5 xs) cs := by
  rintro xs cs R hl hc ⟨p, q, rfl, hq, hp, hb, h⟩
  -- both ways: q below 0 or not
  have main : ∀ p q : Int, 0 < q → B 8000 p → B 8000 q → R (sr (Rat.divInt p q)) cs → ∀ o2 o3 o4, (dSeq (dAsg (dCB cAbs (dCons (dVar 0) dNil)) (dgName 2))
    (dSeq (dAsg (dVar 1) (dgName 3))
    (dSeq (dFor (dRg1 (dCons (dC (.int 100000)) dNil)) (dgName 4)
    rd__law_ratio_b1)
    (dRet (dTup (dCons (dOp qDiv (dVar 0) (dVar 3)) (dCons (dOp qDiv (dVar 1) (dVar 3)) dNil))))))) (endsD cs.length R) [some (si p), some (si q), o2, o3, o4] cs := fun p q hq hp hb h o2 o3 o4 => by
    walk_at "fl"
    refine ⟨by decide, by decide, ?_⟩
    have ea : (if p < 0 then -p else p) = (p.natAbs : Int) := by split <;> omega
    rw [ea]
    have fin : ∀ o, (dRet (dTup (dCons (dOp qDiv (dVar 0) (dVar 3)) (dCons (dOp qDiv (dVar 1) (dVar 3)) dNil)))) (endsD cs.length R) [some (si p), some (si q), some (si 0), some (si (Int.gcd p q : Nat)), o] cs := fun o => by
      walk_at "fl"
      refine ⟨cdiv_ok _ (gcd_ne (by omega)) (gcd_bound (by omega) hb), cdiv_ok _ (gcd_ne (by omega)) (gcd_bound (by omega) hb), rt_l ?_⟩
      rw [num_is hq, den_is hq]
      exact h
    have eg : Int.gcd (p.natAbs : Int) q = Int.gcd p q := by unfold Int.gcd; simp
    generalize hK : Int.toNat 100000 = KK
    have hK2 : 30000 ≤ KK := by omega
    clear hK
    cases KK with
    | zero => omega
    | succ M =>
    have hM : 20000 ≤ M := by omega
    have hpa : B 8000 (p.natAbs : Int) := hp.abs
    by_cases h0 : (p.natAbs : Int) < q
    · refine lr_turns (8000 + 8000) _ 0 _ _ _ (by omega) h0 (two_b (by omega) (by omega) hpa hb) (by omega) fun o => ?_
      rw [eg]
      exact fin o
    · rw [rgS_succ]
      refine ⟨trivial, ?_⟩
      unfold rd__law_ratio_b1
      walk_at "fl"
      refine ⟨fun e => by omega, fun e => ⟨by omega, ?_⟩⟩
      have h1 := Int.emod_nonneg q (show (p.natAbs : Int) ≠ 0 by omega)
      have h2 := Int.emod_lt_of_pos q (show 0 < (p.natAbs : Int) by omega)
      have hb2 : B 8000 (q % (p.natAbs : Int)) := hpa.le h1 (by omega)
      refine lr_turns (8000 + 8000) _ (0 + 1) _ _ _ h1 h2 (two_b h1 (by omega) hb2 hpa) (by omega) fun o => ?_
      rw [gcd_turn', eg]
      exact fin o
  by_cases hn : q < 0
  · have := main (-p) (-q) (by omega) hp.neg hb.neg (by rw [divInt_flip]; exact h) none none none
    revert this
    unfold rd__law_ratio
    walk_at "fl"
    exact fun this => ⟨fun _ => this, fun z => absurd hn z⟩
  · have := main p q (by omega) hp hb h none none none
    revert this
    unfold rd__law_ratio
    walk_at "fl"
    exact fun this => ⟨fun z => absurd z hn, fun _ => this⟩
theorem ixn1 : ixN 1 0 = some 0 := rfl
theorem m__law_take : ∀ xs cs R, xs.length = 2 → Okc cs.length cs → T__law_take xs cs R → rd__law_take (endsD cs.length R) (startD 3 xs) cs := by
  rintro xs cs R hl hc ⟨row, total, pos, gs, many, rfl, rfl, D, hm, h⟩
  have h' : ∀ v, 0 ≤ v → v < many → R (si v) (none :: some [si (pos + 1)] :: some [.d (.list (row.map PyData.int)), .ref 1, si total] :: gs) := h
  have p0 := D.p0
  have p1 := D.p1
  have t0 := D.t0
  have t1 := D.t1
  have bp : B 41 pos := by unfold B; omega
  have bt : B 41 total := by unfold B; omega
  unfold rd__law_take DS
  walk_at "fl"
  refine ⟨0, rfl, fun hlt => ?_, fun hge => ⟨bp.cm (m := 13) (by unfold B; decide), bt.cm (m := 5) (by unfold B; decide), bp.cm bp, (bp.mul bp).cm (m := 5) (by unfold B; decide), cdiv_ok (n := 2) _ (by decide) (by unfold B; decide), hm, rt_l ?_⟩⟩
  · obtain ⟨x, hx, e⟩ := atI_of p0 hlt
    obtain ⟨v, hv, rfl⟩ := List.mem_map.mp hx
    exact ⟨_, e, v, rfl, hm, rt_l (h' _ (Int.emod_nonneg _ (by omega)) (Int.emod_lt_of_pos _ hm))⟩
  · exact h' _ (Int.emod_nonneg _ (by omega)) (Int.emod_lt_of_pos _ hm)
theorem m__law_pick : ∀ xs cs R, xs.length = 2 → Okc cs.length cs → T__law_pick xs cs R → rd__law_pick (endsD cs.length R) (startD 2 xs) cs := by
  rintro xs cs R hl hc ⟨row, total, pos, gs, ds, rfl, rfl, D, hd, h⟩
  unfold rd__law_pick T__law_take
  walk_at "fl"
  refine ⟨row, total, pos, gs, rfl, D, by omega, fun v h0 h1 => ?_⟩
  obtain ⟨x, hx, e⟩ := atI_of h0 h1
  exact ⟨x, e, rt_l (h x hx)⟩
theorem Deal.next {row : List Int} {total pos : Int} (D : Deal row total pos) {p : Int} (h0 : pos ≤ p) (h1 : p < 2 ^ 40) : Deal row total p := ⟨D.len, D.lo, D.t0, D.t1, by have := D.p0; omega, h1⟩
end K42

set_option Elab.async false
set_option linter.all false
set_option maxRecDepth 100000
set_option maxHeartbeats 2000000
namespace K42
open PySem L2 FL FR
local macro_rules | `(tactic| walk_at "fl") => `(tactic| simp only [dSeq, dAsg, dgName, dVar, dC, dOp, dUn, dIxK, ixkR, itemsR, dTup, dLst, dCons, dNil, dCall, dCB, dIfS, dIf, dTestR, dTru, dTruR, dRet, dRetN, dNext, dDrop, dAnd, dOr, dNot, dAndV, dOrV, dNotV, dPar, dFor, dRg1, dRg2, dItems, dgTup, dgCons, dgNil, dZip, dZipR, dIsi, isTy, tgOf, tab, dApp, dgSub, dLstM, dVarF, dBreak, dCont, dSl, dSlR, dPart, dNoPart, dLcG, dChain, dAug, dEnum,
  qI, qI0, qNeg, qEq, qNe, qIsN, qNotN, isNone, eqOk, dIxR, cAbs, cInt, cLen, cSum, cMax2, cMin2, cTup, cList, cListM, eqv_ii, eqv_bb, kFro, kMut,
  endsD, sd1, sd2, sd3, getS, getC, datas, List.length_cons, List.length_nil, List.map_cons, List.map_nil, Option.map_some, List.set_cons_zero, List.set_cons_succ, List.replicate_succ, List.replicate_zero, List.getElem?_cons_zero, List.getElem?_cons_succ, List.cons_append, List.nil_append,
  Option.some.injEq, S.d.injEq, S.ref.injEq, PyData.int.injEq, PyData.bool.injEq, PyData.list.injEq, PyData.tuple.injEq, List.cons.injEq, and_true, true_and, exists_eq_left, exists_eq_left', exists_eq_right, exists_and_left, exists_and_right, exists_const, forall_const, imp_self, reduceCtorEq, false_and, and_false, decide_eq_true_eq, decide_eq_false_iff_not, Bool.not_eq_true', Bool.not_eq_false', ne_eq, Classical.not_not, Bool.true_eq_false, Bool.false_eq_true, Nat.reduceAdd, false_implies, true_implies, implies_true, sizeLine_eq, Nat.reduceLeDiff, decide_true, decide_false, Bool.not_true, Bool.not_false, decide_not])
local macro_rules | `(tactic| walk_at "fm") => `(tactic| simp only [rgS_len, wip, dSeq, ixk_l, ixk_t, ixk_r, ixr_l, ixr_t, ixr_s, ixr_r, tru_n, tru_b, tru_i, tru_l, tru_t, tru_s, tru_r, its_l, its_t, its_r, gtup_t, eqk_i, eqk_b, eqk_s, eqk_t, eqk_l, len_l, len_t, len_s, len_r, int_i, int_b, sum_l, sum_r, tup_l, tup_t, tup_r, lis_l, lis_t, lis_r, lim_l, lim_t, lim_r, zip_t, zip_l, sl_l, sl_t, sl_r, dAsg, dgName, dVar, dC, dOp, dUn, dIxK, dTup, dLst, dCons, dNil, dCall, dCB, dIfS, dIf, dTestR, dTru, dRet, dRetN, dNext, dDrop, dAnd, dOr, dNot, dAndV, dOrV, dNotV, dPar, dFor, dRg1, dRg2, dItems, dgCons, dgNil, dZip, dIsi, isTy, tgOf, tab, dApp, dgSub, dLstM, dVarF, dBreak, dCont, dSl, dPart, dNoPart, dLcG, dChain, dAug, dEnum,
  qI, qI0, qNeg, qEq, qNe, qIsN, qNotN, isNone, qIsB, qNotB, isB, addl_i, addl_t, addl_l, cAbs, cMax2, cMin2, eqv_ii, eqv_bb, kFro, kMut,
  endsD, sd1, sd2, sd3, getS, getC, datas, List.length_cons, List.length_nil, List.map_cons, List.map_nil, Option.map_some, List.set_cons_zero, List.set_cons_succ, List.replicate_succ, List.replicate_zero, List.getElem?_cons_zero, List.getElem?_cons_succ, List.cons_append, List.nil_append,
  Option.some.injEq, S.d.injEq, S.ref.injEq, PyData.int.injEq, PyData.bool.injEq, PyData.list.injEq, PyData.tuple.injEq, List.cons.injEq, and_true, true_and, exists_eq_left, exists_eq_left', exists_eq_right, exists_and_left, exists_and_right, exists_const, exists_eq', exists_eq, ixk_enc0, ixk_enc1, not_true_eq_false, not_false_eq_true, and_self, enc_eq, dOk_enc, dOk_int, eqv_enc, datas_si, datas_map, intsOf_map, and_assoc, List.length_map, List.length_append, forall_const, imp_self, reduceCtorEq, false_and, and_false, decide_eq_true_eq, decide_eq_false_iff_not, Bool.not_eq_true', Bool.not_eq_false', ne_eq, Classical.not_not, Bool.true_eq_false, Bool.false_eq_true, Nat.reduceAdd, false_implies, true_implies, implies_true, sizeLine_eq, Nat.reduceLeDiff, decide_true, decide_false, Bool.not_true, Bool.not_false, decide_not])
def Rows (row : List Int) : Prop := ∀ x ∈ row, 0 ≤ x ∧ x < 1009
theorem Rows.app {row : List Int} (h : Rows row) {x : Int} (h0 : 0 ≤ x) (h1 : x < 1009) : Rows (row ++ [x]) := fun y hy => by
  rcases List.mem_append.mp hy with z | z
  · exact h y z
  · have : y = x := by simpa using z
    subst this; exact ⟨h0, h1⟩
theorem sum_b : ∀ row : List Int, Rows row → 0 ≤ row.sum ∧ row.sum ≤ 1009 * row.length
  | [], _ => by simp
  | x :: row, h => by
    have h1 := h x List.mem_cons_self
    have h2 := sum_b row fun y hy => h y (List.mem_cons_of_mem _ hy)
    rw [List.sum_cons, List.length_cons]
    constructor <;> omega
theorem de1 {d : EndsD} {A K5 T : Option S} (n : Nat) : ∀ (lo : Int) (row : List Int) (cell : Int) (o : Option S), Rows row → row.length + n ≤ 10000 → 0 ≤ cell →
    (∀ row' cell' o, Rows row' → row'.length ≤ row.length + n → d.nx [A, some (.ref 0), K5, some (si cell'), o, T] [some (row'.map si)]) →
    forR okT (dgName 4) rd__law_deal_b1 d (rgS lo n) [A, some (.ref 0), K5, some (si cell), o, T] [some (row.map si)] := by
  induction n with
  | zero => intro lo row cell o hr hn h0 h; exact ⟨trivial, h row cell o hr (Nat.le_refl _)⟩
  | succ n ih =>
    intro lo row cell o hr hn h0 h
    rw [rgS_succ, forR_cons]
    refine ⟨trivial, ?_⟩
    unfold rd__law_deal_b1
    walk_at "fm"
    refine ⟨fun hp => ⟨by decide, by omega, cdiv_ok (n := 10) _ (by decide) (by unfold B; decide), ?_⟩, fun hp => ?_⟩
    · rw [map_app]
      refine ih _ _ _ _ (hr.app (Int.emod_nonneg _ (by decide)) (Int.emod_lt_of_pos _ (by decide))) (by simp; omega) (Int.ediv_nonneg h0 (by decide)) fun row' cell' o h1 h2 => h _ _ _ h1 ?_
      simp at h2
      omega
    · exact ih _ _ _ _ hr (by omega) h0 fun row' cell' o h1 h2 => h _ _ _ h1 (by omega)
theorem de2 {d : EndsD} {A K5 T : Option S} (n : Nat) : ∀ (lo : Int) (row : List Int) (cell : Int) (o : Option S), Rows row → row.length + n ≤ 10000 → B 60 cell →
    (∀ row' cell' o, Rows row' → row'.length ≤ row.length + n → d.nx [A, some (.ref 0), K5, some (si cell'), o, T] [some (row'.map si)]) →
    forR okT (dgName 4) rd__law_deal_b2 d (rgS lo n) [A, some (.ref 0), K5, some (si cell), o, T] [some (row.map si)] := by
  induction n with
  | zero => intro lo row cell o hr hn h0 h; exact ⟨trivial, h row cell o hr (Nat.le_refl _)⟩
  | succ n ih =>
    intro lo row cell o hr hn h0 h
    rw [rgS_succ, forR_cons]
    refine ⟨trivial, ?_⟩
    unfold rd__law_deal_b2
    walk_at "fm"
    refine ⟨h0.cm (m := 15) (by unfold B; decide), by decide, cdiv_ok (n := 3) _ (by decide) (by unfold B; decide), by decide, by omega, ?_⟩
    rw [map_app]
    have c0 := Int.emod_nonneg (cell * 16807 + 12345 + lo) (show (2147483647 : Int) ≠ 0 by decide)
    have c1 := Int.emod_lt_of_pos (cell * 16807 + 12345 + lo) (show (0 : Int) < 2147483647 by decide)
    refine ih _ _ _ _ (hr.app (Int.emod_nonneg _ (by decide)) (Int.emod_lt_of_pos _ (by decide))) (by simp; omega) (by unfold B; omega) fun row' cell' o h1 h2 => h _ _ _ h1 ?_
    simp at h2
    omega
theorem de3 {d : EndsD} {ns : List Int} {T : Option S} (n : Nat) : ∀ (lo : Nat) (row : List Int) (o2 o3 o4 : Option S), Rows row → row.length ≤ 40 * lo → lo + n ≤ 63 → lo + n ≤ ns.length →
    (∀ row' o2 o3 o4, Rows row' → row'.length ≤ 40 * (lo + n) → d.nx [some (.d (.list (ns.map PyData.int))), some (.ref 0), o2, o3, o4, T] [some (row'.map si)]) →
    forR okT (dgName 2) rd__law_deal_b3 d (rgS lo n) [some (.d (.list (ns.map PyData.int))), some (.ref 0), o2, o3, o4, T] [some (row.map si)] := by
  induction n with
  | zero => intro lo row o2 o3 o4 hr hl hn hs h; exact ⟨trivial, h row o2 o3 o4 hr (by omega)⟩
  | succ n ih =>
    intro lo row o2 o3 o4 hr hl hn hs h
    rw [rgS_succ, forR_cons]
    refine ⟨trivial, ?_⟩
    have hlt : lo < ns.length := by omega
    have next : ∀ row' o2 o3 o4, Rows row' → row'.length ≤ row.length + 40 → forR okT (dgName 2) rd__law_deal_b3 d (rgS ((lo : Int) + 1) n) [some (.d (.list (ns.map PyData.int))), some (.ref 0), o2, o3, o4, T] [some (row'.map si)] := fun row' o2 o3 o4 h1 h2 => by
      refine ih (lo + 1) row' o2 o3 o4 h1 (by omega) (by omega) (by omega) fun row' o2 o3 o4 h1 h2 => h _ _ _ _ h1 (by omega)
    generalize forR okT (dgName 2) rd__law_deal_b3 d (rgS ((lo : Int) + 1) n) = FR at next ⊢
    unfold rd__law_deal_b3
    walk_at "fm"
    refine ⟨.int ns[lo], atI_nat (by simp [hlt]), ?_⟩
    walk_at "fm"
    generalize ns[lo] = z
    have e : (if z < 0 then -z else z) = (z.natAbs : Int) := by split <;> omega
    rw [e]
    refine ⟨by unfold CPow; decide, fun hb => ⟨by decide, by decide, ?_⟩, fun hb => ?_⟩
    · refine de1 40 0 row _ _ hr (by omega) (by omega) fun row' cell' o h1 h2 => next _ _ _ _ h1 h2
    · have hb' : (z.natAbs : Int) < 10 ^ 18 := by
        have : (10 : Int) ^ Int.toNat 18 = 10 ^ 18 := rfl
        omega
      have bz : B 60 (z.natAbs : Int) := by unfold B; omega
      have c0 := Int.emod_nonneg (z.natAbs : Int) (show (2147483629 : Int) ≠ 0 by decide)
      have c1 := Int.emod_lt_of_pos (z.natAbs : Int) (show (0 : Int) < 2147483629 by decide)
      have bm : B 31 ((z.natAbs : Int) % 2147483629) := by unfold B; omega
      have bl : B 6 (lo : Int) := by unfold B; omega
      refine ⟨by decide, bm.cm (m := 16) (by unfold B; decide), bl.cm (m := 17) (by unfold B; decide), by decide, by decide, ?_⟩
      refine de2 5 0 row _ _ hr (by omega) ?_ fun row' cell' o h1 h2 => next _ _ _ _ h1 (by omega)
      unfold B
      omega
theorem m__law_deal : ∀ xs cs R, xs.length = 1 → Okc cs.length cs → T__law_deal xs cs R → rd__law_deal (endsD cs.length R) (startD 6 xs) cs := by
  rintro xs cs R hl hc ⟨rfl, ns, rfl, hn, h⟩
  unfold rd__law_deal
  walk_at "fm"
  rw [if_neg (show ¬ (63 : Int) < (ns.length : Int) by omega), Int.toNat_natCast]
  refine ⟨by omega, by omega, ?_⟩
  refine de3 ns.length 0 [] none none none (fun x hx => by simp at hx) (by simp) (by omega) (by omega) fun row o2 o3 o4 hr hl => ?_
  have hs := sum_b row hr
  walk_at "fm"
  refine ⟨row.map PyData.int, by simp, rt_l ?_⟩
  exact h row (row.sum + (ns.length : Int)) ⟨by omega, fun x hx => (hr x hx).1, by omega, by omega, by omega, by omega⟩
theorem sa_turns {d : EndsD} {cs : Sto} {ds : List PyData} {A Bq : S} {N : Nat} (hA : ∀ (i : Int) (R : RK), (∃ x, atI ds i = some x ∧ R (.d x) cs) → dIxR A (si i) cs R) (hB : ∀ (i : Int) (R : RK), (∃ x, atI ds i = some x ∧ R (.d x) cs) → dIxR Bq (si i) cs R)
    (hd : ∀ x ∈ ds, dOk N x = true) (n : Nat) : ∀ (lo : Nat) (o : Option S), lo + n = ds.length → (∀ o, d.nx [some A, some Bq, o] cs) →
    forR okT (dgName 2) (rd__law_same_b1 (T__law_sameN N)) d (rgS lo n) [some A, some Bq, o] cs := by
  induction n with
  | zero => intro lo o hl h; exact ⟨trivial, h o⟩
  | succ n ih =>
    intro lo o hl h
    rw [rgS_succ, forR_cons]
    refine ⟨trivial, ?_⟩
    have next := fun o => ih (lo + 1) o (by omega) h
    have el : ((lo + 1 : Nat) : Int) = (lo : Int) + 1 := by omega
    rw [el] at next
    generalize forR okT (dgName 2) (rd__law_same_b1 (T__law_sameN N)) d (rgS ((lo : Int) + 1) n) = FR at next ⊢
    have hlt : lo < ds.length := by omega
    have e : atI ds (lo : Int) = some ds[lo] := atI_nat (by simp [hlt])
    unfold rd__law_same_b1 T__law_sameN
    simp only [dIfS, dNot, dTru, dCall, dCons, dNil, dOp, dVar, getS, dgName, List.set_cons_succ, List.set_cons_zero, Option.some.injEq, exists_eq_left']
    refine hA _ _ ⟨_, e, hB _ _ ⟨_, e, ?_⟩⟩
    refine ⟨rfl, _, rfl, hd _ (List.getElem_mem hlt), ?_⟩
    walk_at "fm"
    exact next _
theorem m__law_sameN (N : Nat) : ∀ xs cs R, xs.length = 2 → Okc cs.length cs → T__law_sameN (N + 1) xs cs R → rd__law_same (T__law_sameN N) (endsD cs.length R) (startD 3 xs) cs := by
  rintro xs cs R hl hc ⟨d, rfl, hd, h⟩
  unfold rd__law_same
  cases d with
  | none => walk_at "fm"; exact rt_l h
  | bool b =>
    walk_at "fm"
    refine rt_l ?_
    simpa using h
  | int i => walk_at "fm"; exact rt_l h
  | str s => 
    walk_at "fm"
    refine rt_l ?_
    rw [eqv_ss]
    simpa using h
  | list ds =>
    have hd' : ds.all (dOk N) = true ∧ ds.length ≤ 1000000 := by simpa [dOk] using hd
    walk_at "fm"
    rw [Int.toNat_natCast]
    refine ⟨by omega, by omega, ?_⟩
    refine sa_turns (A := .d (.list ds)) (Bq := .d (.list ds)) (ds := ds) (fun i R h => ?_) (fun i R h => ?_) (List.all_eq_true.mp hd'.1) ds.length 0 none (by omega) fun o => ?_
    · obtain ⟨x, e, q⟩ := h; exact ⟨i, x, rfl, e, q⟩
    · obtain ⟨x, e, q⟩ := h; exact ⟨i, x, rfl, e, q⟩
    · walk_at "fm"
      exact rt_l h
  | tuple ds =>
    have hd' : ds.all (dOk N) = true ∧ ds.length ≤ 1000000 := by simpa [dOk] using hd
    walk_at "fm"
    rw [Int.toNat_natCast]
    refine ⟨by omega, by omega, ?_⟩
    refine sa_turns (A := .d (.tuple ds)) (Bq := .d (.tuple ds)) (ds := ds) (fun i R h => ?_) (fun i R h => ?_) (List.all_eq_true.mp hd'.1) ds.length 0 none (by omega) fun o => ?_
    · obtain ⟨x, e, q⟩ := h; exact ⟨i, x, rfl, e, q⟩
    · obtain ⟨x, e, q⟩ := h; exact ⟨i, x, rfl, e, q⟩
    · walk_at "fm"
      exact rt_l h
  | dict kvs => simp [dOk] at hd
theorem h__law_same0 : ∀ xs cs R, ¬ T__law_sameN 0 xs cs R := fun xs cs R ⟨d, _, h, _⟩ => by simp [dOk] at h
theorem DS_len (row : List Int) (total pos : Int) (gs : Sto) : (DS row total pos gs).length = gs.length + 3 := rfl
theorem DS_app (row : List Int) (total pos : Int) (gs hs : Sto) : DS row total pos gs ++ hs = DS row total pos (gs ++ hs) := rfl
theorem DS_get (row : List Int) (total pos : Int) (gs : Sto) (n : Nat) : getC (DS row total pos gs) (n + 3) = getC gs n := rfl
theorem DS_set (row : List Int) (total pos : Int) (gs : Sto) (n : Nat) (x : Option (List S)) : (DS row total pos gs).set (n + 3) x = DS row total pos (gs.set n x) := rfl
theorem DS_get0 (row : List Int) (total pos : Int) (x : Option (List S)) (gs : Sto) : getC (DS row total pos (x :: gs)) 3 = x := rfl
theorem DS_get1 (row : List Int) (total pos : Int) (x y : Option (List S)) (gs : Sto) : getC (DS row total pos (x :: y :: gs)) 4 = y := rfl
theorem DS_set0 (row : List Int) (total pos : Int) (x z : Option (List S)) (gs : Sto) : (DS row total pos (x :: gs)).set 3 z = DS row total pos (z :: gs) := rfl
theorem DS_set1 (row : List Int) (total pos : Int) (x y z : Option (List S)) (gs : Sto) : (DS row total pos (x :: y :: gs)).set 4 z = DS row total pos (x :: z :: gs) := rfl
theorem datas_sr (ws : List Rat) : datas (ws.map sr) = some (ws.map encR) := by
  have := datas_map (ws.map encR)
  rw [List.map_map] at this
  exact this
end K42

set_option Elab.async false
set_option linter.all false
set_option maxRecDepth 100000
set_option maxHeartbeats 2000000
namespace K42
open PySem L2 FL FR
local macro_rules | `(tactic| walk_at "fl") => `(tactic| simp only [dSeq, dAsg, dgName, dVar, dC, dOp, dUn, dIxK, ixkR, itemsR, dTup, dLst, dCons, dNil, dCall, dCB, dIfS, dIf, dTestR, dTru, dTruR, dRet, dRetN, dNext, dDrop, dAnd, dOr, dNot, dAndV, dOrV, dNotV, dPar, dFor, dRg1, dRg2, dItems, dgTup, dgCons, dgNil, dZip, dZipR, dIsi, isTy, tgOf, tab, dApp, dgSub, dLstM, dVarF, dBreak, dCont, dSl, dSlR, dPart, dNoPart, dLcG, dChain, dAug, dEnum,
  qI, qI0, qNeg, qEq, qNe, qIsN, qNotN, isNone, eqOk, dIxR, cAbs, cInt, cLen, cSum, cMax2, cMin2, cTup, cList, cListM, eqv_ii, eqv_bb, kFro, kMut,
  endsD, sd1, sd2, sd3, getS, getC, datas, List.length_cons, List.length_nil, List.map_cons, List.map_nil, Option.map_some, List.set_cons_zero, List.set_cons_succ, List.replicate_succ, List.replicate_zero, List.getElem?_cons_zero, List.getElem?_cons_succ, List.cons_append, List.nil_append,
  Option.some.injEq, S.d.injEq, S.ref.injEq, PyData.int.injEq, PyData.bool.injEq, PyData.list.injEq, PyData.tuple.injEq, List.cons.injEq, and_true, true_and, exists_eq_left, exists_eq_left', exists_eq_right, exists_and_left, exists_and_right, exists_const, forall_const, imp_self, reduceCtorEq, false_and, and_false, decide_eq_true_eq, decide_eq_false_iff_not, Bool.not_eq_true', Bool.not_eq_false', ne_eq, Classical.not_not, Bool.true_eq_false, Bool.false_eq_true, Nat.reduceAdd, false_implies, true_implies, implies_true, sizeLine_eq, Nat.reduceLeDiff, decide_true, decide_false, Bool.not_true, Bool.not_false, decide_not])
local macro_rules | `(tactic| walk_at "fm") => `(tactic| simp only [rgS_len, wip, dSeq, ixk_l, ixk_t, ixk_r, ixr_l, ixr_t, ixr_s, ixr_r, tru_n, tru_b, tru_i, tru_l, tru_t, tru_s, tru_r, its_l, its_t, its_r, gtup_t, eqk_i, eqk_b, eqk_s, eqk_t, eqk_l, len_l, len_t, len_s, len_r, int_i, int_b, sum_l, sum_r, tup_l, tup_t, tup_r, lis_l, lis_t, lis_r, lim_l, lim_t, lim_r, zip_t, zip_l, sl_l, sl_t, sl_r, dAsg, dgName, dVar, dC, dOp, dUn, dIxK, dTup, dLst, dCons, dNil, dCall, dCB, dIfS, dIf, dTestR, dTru, dRet, dRetN, dNext, dDrop, dAnd, dOr, dNot, dAndV, dOrV, dNotV, dPar, dFor, dRg1, dRg2, dItems, dgCons, dgNil, dZip, dIsi, isTy, tgOf, tab, dApp, dgSub, dLstM, dVarF, dBreak, dCont, dSl, dPart, dNoPart, dLcG, dChain, dAug, dEnum,
  qI, qI0, qNeg, qEq, qNe, qIsN, qNotN, isNone, qIsB, qNotB, isB, addl_i, addl_t, addl_l, cAbs, cMax2, cMin2, eqv_ii, eqv_bb, kFro, kMut,
  endsD, sd1, sd2, sd3, getS, getC, datas, List.length_cons, List.length_nil, List.map_cons, List.map_nil, Option.map_some, List.set_cons_zero, List.set_cons_succ, List.replicate_succ, List.replicate_zero, List.getElem?_cons_zero, List.getElem?_cons_succ, List.cons_append, List.nil_append,
  Option.some.injEq, S.d.injEq, S.ref.injEq, PyData.int.injEq, PyData.bool.injEq, PyData.list.injEq, PyData.tuple.injEq, List.cons.injEq, and_true, true_and, exists_eq_left, exists_eq_left', exists_eq_right, exists_and_left, exists_and_right, exists_const, exists_eq', exists_eq, ixk_enc0, ixk_enc1, not_true_eq_false, not_false_eq_true, and_self, enc_eq, dOk_enc, dOk_int, eqv_enc, datas_si, datas_map, intsOf_map, and_assoc, List.length_map, List.length_append, forall_const, imp_self, reduceCtorEq, false_and, and_false, decide_eq_true_eq, decide_eq_false_iff_not, Bool.not_eq_true', Bool.not_eq_false', ne_eq, Classical.not_not, Bool.true_eq_false, Bool.false_eq_true, Nat.reduceAdd, false_implies, true_implies, implies_true, sizeLine_eq, Nat.reduceLeDiff, decide_true, decide_false, Bool.not_true, Bool.not_false, decide_not])
theorem lcm_b {m d : Nat} {n k : Nat} (h : B n (m : Nat)) (h' : B k (d : Nat)) : B (n + k) (Nat.lcm m d : Nat) := by
  unfold B at *
  simp only [Int.natAbs_natCast] at *
  rw [Nat.pow_add]
  by_cases hz : m * d = 0
  · have : Nat.lcm m d = 0 := by
      rcases Nat.mul_eq_zero.mp hz with e | e <;> simp [e]
    rw [this]
    exact Nat.mul_pos (by omega) (by omega)
  · exact Nat.lt_of_le_of_lt (Nat.le_of_dvd (Nat.pos_of_ne_zero hz) (Nat.lcm_dvd (Nat.dvd_mul_right _ _) (Nat.dvd_mul_left _ _))) (Nat.mul_lt_mul'' h h')
theorem m_common_multiple : ∀ xs cs R, xs.length = 1 → Okc cs.length cs → T_common_multiple xs cs R → rd_common_multiple (endsD cs.length R) (startD 4 xs) cs := by
  rintro xs cs R hl hc ⟨rs, rfl, hb, hn, h⟩
  unfold rd_common_multiple
  walk_at "fm"
  rw [map_d]
  refine for_all (fun r => S.d (encR r)) (fun as ρ cs' => cs' = cs ∧ ∃ m : Nat, as.foldl (fun m r => Nat.lcm m r.den) m = lcmD rs ∧ as.length ≤ 10 ∧ B (1500 * (11 - as.length)) (m : Nat) ∧ (∀ r ∈ as, RB 1500 r) ∧ ∃ o1 o2 o3, ρ = [o1, some (si (m : Nat)), o2, o3]) (fun _ _ _ _ => trivial) ?_ ?_ rs _ _ ⟨rfl, 1, rfl, hn, ?_, hb, _, _, _, rfl⟩
  · rintro ρ cs' ⟨rfl, m, e, _, _, _, o1, o2, o3, rfl⟩
    walk_at "fm"
    rw [show m = lcmD rs from e]
    exact rt_l h
  · rintro a as ρ cs' ⟨rfl, m, e, hl, hm, hb, o1, o2, o3, rfl⟩ Z hz
    unfold rd_common_multiple_b1 T_greatest_divisor encR
    have ha := hb a List.mem_cons_self
    rw [List.length_cons] at hl hm
    rw [gtup_t]
    walk_at "fm"
    have hg := gcd_ne (p := (m : Int)) (den_ne a)
    have e1 : (m : Int) * a.den / (Int.gcd m a.den : Nat) = (Nat.lcm m a.den : Nat) := by
      show (m : Int) * a.den / (Nat.gcd m a.den : Nat) = (m * a.den / Nat.gcd m a.den : Nat)
      simp
    rw [e1]
    refine ⟨hm.cm ha.d (by omega) (by omega) (by omega), by omega, cdiv_ok _ hg (gcd_bound (den_ne a) ha.d), hz _ _ ⟨rfl, Nat.lcm m a.den, e, by omega, (lcm_b hm ha.d).mono (by omega), fun r hr => hb r (List.mem_cons_of_mem _ hr), _, _, _, rfl⟩⟩
  · have : B 1500 ((1 : Nat) : Int) := B.mono (n := 1) (by unfold B; decide) (by decide)
    exact this.mono (by omega)
theorem gcdL_c (n : Int) (ns : List Int) (g : Nat) : (n :: ns).foldl (fun g n => Int.gcd n (g : Nat)) g = ns.foldl (fun g n => Int.gcd n (g : Nat)) (Int.gcd n g) := rfl
theorem m_common_divisor : ∀ xs cs R, xs.length = 1 → Okc cs.length cs → T_common_divisor xs cs R → rd_common_divisor (endsD cs.length R) (startD 3 xs) cs := by
  rintro xs cs R hl hc ⟨ns, rfl, h⟩
  unfold rd_common_divisor
  walk_at "fm"
  rw [map_d]
  refine for_all (fun n => si n) (fun as ρ cs' => cs' = cs ∧ ∃ m : Nat, as.foldl (fun g n => Int.gcd n (g : Nat)) m = gcdL ns ∧ ∃ o1 o2, ρ = [o1, some (si (m : Nat)), o2]) (fun _ _ _ _ => trivial) ?_ ?_ ns _ _ ⟨rfl, 0, rfl, _, _, rfl⟩
  · rintro ρ cs' ⟨rfl, m, e, o1, o2, rfl⟩
    walk_at "fm"
    rw [show m = gcdL ns from e]
    exact rt_l h
  · rintro a as ρ cs' ⟨rfl, m, e, o1, o2, rfl⟩ Z hz
    unfold rd_common_divisor_b1 T_greatest_divisor
    walk_at "fm"
    refine ⟨fun h0 => ⟨by omega, hz _ _ ⟨rfl, _, e, _, _, rfl⟩⟩, fun h0 => hz _ _ ⟨rfl, m, ?_, _, _, rfl⟩⟩
    subst h0
    rw [gcdL_c] at e
    simpa using e
end K42

set_option Elab.async false
set_option linter.all false
set_option maxRecDepth 100000
set_option maxHeartbeats 2000000
namespace K42
open PySem L2 FL FR
local macro_rules | `(tactic| walk_at "fl") => `(tactic| simp only [dSeq, dAsg, dgName, dVar, dC, dOp, dUn, dIxK, ixkR, itemsR, dTup, dLst, dCons, dNil, dCall, dCB, dIfS, dIf, dTestR, dTru, dTruR, dRet, dRetN, dNext, dDrop, dAnd, dOr, dNot, dAndV, dOrV, dNotV, dPar, dFor, dRg1, dRg2, dItems, dgTup, dgCons, dgNil, dZip, dZipR, dIsi, isTy, tgOf, tab, dApp, dgSub, dLstM, dVarF, dBreak, dCont, dSl, dSlR, dPart, dNoPart, dLcG, dChain, dAug, dEnum,
  qI, qI0, qNeg, qEq, qNe, qIsN, qNotN, isNone, eqOk, dIxR, cAbs, cInt, cLen, cSum, cMax2, cMin2, cTup, cList, cListM, eqv_ii, eqv_bb, kFro, kMut,
  endsD, sd1, sd2, sd3, getS, getC, datas, List.length_cons, List.length_nil, List.map_cons, List.map_nil, Option.map_some, List.set_cons_zero, List.set_cons_succ, List.replicate_succ, List.replicate_zero, List.getElem?_cons_zero, List.getElem?_cons_succ, List.cons_append, List.nil_append,
  Option.some.injEq, S.d.injEq, S.ref.injEq, PyData.int.injEq, PyData.bool.injEq, PyData.list.injEq, PyData.tuple.injEq, List.cons.injEq, and_true, true_and, exists_eq_left, exists_eq_left', exists_eq_right, exists_and_left, exists_and_right, exists_const, forall_const, imp_self, reduceCtorEq, false_and, and_false, decide_eq_true_eq, decide_eq_false_iff_not, Bool.not_eq_true', Bool.not_eq_false', ne_eq, Classical.not_not, Bool.true_eq_false, Bool.false_eq_true, Nat.reduceAdd, false_implies, true_implies, implies_true, sizeLine_eq, Nat.reduceLeDiff, decide_true, decide_false, Bool.not_true, Bool.not_false, decide_not])
local macro_rules | `(tactic| walk_at "fm") => `(tactic| simp only [rgS_len, wip, dSeq, ixk_l, ixk_t, ixk_r, ixr_l, ixr_t, ixr_s, ixr_r, tru_n, tru_b, tru_i, tru_l, tru_t, tru_s, tru_r, its_l, its_t, its_r, gtup_t, eqk_i, eqk_b, eqk_s, eqk_t, eqk_l, len_l, len_t, len_s, len_r, int_i, int_b, sum_l, sum_r, tup_l, tup_t, tup_r, lis_l, lis_t, lis_r, lim_l, lim_t, lim_r, zip_t, zip_l, sl_l, sl_t, sl_r, dAsg, dgName, dVar, dC, dOp, dUn, dIxK, dTup, dLst, dCons, dNil, dCall, dCB, dIfS, dIf, dTestR, dTru, dRet, dRetN, dNext, dDrop, dAnd, dOr, dNot, dAndV, dOrV, dNotV, dPar, dFor, dRg1, dRg2, dItems, dgCons, dgNil, dZip, dIsi, isTy, tgOf, tab, dApp, dgSub, dLstM, dVarF, dBreak, dCont, dSl, dPart, dNoPart, dLcG, dChain, dAug, dEnum,
  qI, qI0, qNeg, qEq, qNe, qIsN, qNotN, isNone, qIsB, qNotB, isB, addl_i, addl_t, addl_l, cAbs, cMax2, cMin2, eqv_ii, eqv_bb, kFro, kMut,
  endsD, sd1, sd2, sd3, getS, getC, datas, List.length_cons, List.length_nil, List.map_cons, List.map_nil, Option.map_some, List.set_cons_zero, List.set_cons_succ, List.replicate_succ, List.replicate_zero, List.getElem?_cons_zero, List.getElem?_cons_succ, List.cons_append, List.nil_append,
  Option.some.injEq, S.d.injEq, S.ref.injEq, PyData.int.injEq, PyData.bool.injEq, PyData.list.injEq, PyData.tuple.injEq, List.cons.injEq, and_true, true_and, exists_eq_left, exists_eq_left', exists_eq_right, exists_and_left, exists_and_right, exists_const, exists_eq', exists_eq, ixk_enc0, ixk_enc1, not_true_eq_false, not_false_eq_true, and_self, enc_eq, dOk_enc, dOk_int, eqv_enc, datas_si, datas_map, intsOf_map, and_assoc, List.length_map, List.length_append, forall_const, imp_self, reduceCtorEq, false_and, and_false, decide_eq_true_eq, decide_eq_false_iff_not, Bool.not_eq_true', Bool.not_eq_false', ne_eq, Classical.not_not, Bool.true_eq_false, Bool.false_eq_true, Nat.reduceAdd, false_implies, true_implies, implies_true, sizeLine_eq, Nat.reduceLeDiff, decide_true, decide_false, Bool.not_true, Bool.not_false, decide_not])
theorem lcmD_app (ws : List Rat) (r : Rat) : lcmD (ws ++ [r]) = Nat.lcm (lcmD ws) r.den := by simp [lcmD, List.foldl_append]
theorem lcm_fold_b (rs : List Rat) : ∀ (m n : Nat), B n (m : Nat) → (∀ r ∈ rs, RB 1500 r) → B (n + 1500 * rs.length) (rs.foldl (fun m r => Nat.lcm m r.den) m : Nat) := by
  induction rs with
  | nil => intro m n h _; exact h.mono (by simp)
  | cons r rs ih =>
    intro m n h hb
    exact (ih (Nat.lcm m r.den) (n + 1500) (lcm_b h (hb r List.mem_cons_self).d) fun x hx => hb x (List.mem_cons_of_mem _ hx)).mono (by rw [List.length_cons]; omega)
theorem lcmD_b {rs : List Rat} (hb : ∀ r ∈ rs, RB 1500 r) (hl : rs.length ≤ 5) : B 7501 (lcmD rs : Nat) :=
  (lcm_fold_b rs 1 1 (by unfold B; decide) hb).mono (by omega)
theorem b_ediv {n : Nat} {a : Int} (h : B n a) (b : Int) : B n (a / b) := by
  unfold B at *
  exact Nat.lt_of_le_of_lt (Int.natAbs_ediv_le_natAbs a b) h
theorem zw_map {α β γ : Type} (f : α → β → γ) : ∀ (as : List α) (bs : List β), List.zipWith f as bs = (as.zip bs).map fun p => f p.1 p.2
  | [], _ => by simp
  | _ :: _, [] => by simp
  | a :: as, b :: bs => by simp [zw_map f as bs]
theorem muls_b {fs us : List Rat} (hu : UOk us) (hf : ∀ f ∈ fs, RB 300 f) : ∀ w ∈ muls fs us, RB 360 w := fun w hw => by
  unfold muls at hw
  rw [zw_map] at hw
  obtain ⟨p, hp, rfl⟩ := List.mem_map.mp hw
  obtain ⟨f, u⟩ := p
  exact (hf f (List.of_mem_zip hp).1).mul (hu.b u (List.of_mem_zip hp).2)
theorem gcd_fold_b {k : Nat} : ∀ (ns : List Int) (g : Nat), B k (g : Nat) → (∀ n ∈ ns, B k n) → B k (ns.foldl (fun g n => Int.gcd n (g : Nat)) g : Nat)
  | [], g, h, _ => h
  | n :: ns, g, h, hb => by
    refine gcd_fold_b ns (Int.gcd n g) ?_ fun x hx => hb x (List.mem_cons_of_mem _ hx)
    have hn := hb n List.mem_cons_self
    by_cases h0 : n = 0
    · subst h0; simpa using h
    · rw [Int.gcd_comm]
      exact gcd_bound h0 hn
theorem gcdL_b {k : Nat} {ns : List Int} (h : ∀ n ∈ ns, B k n) : B k (gcdL ns : Nat) := gcd_fold_b ns 0 (Nat.pos_of_ne_zero (by simp)) h
theorem m_whole_test : ∀ xs cs R, xs.length = 2 → Okc cs.length cs → T_whole_test xs cs R → rd_whole_test (endsD cs.length R) (startD 14 xs) cs := by
  rintro xs cs R hl hc ⟨us, ⟨fs, r, s⟩, rfl, hu, hb, h⟩
  unfold rd_whole_test bndD ratsD
  have hl0 := hu.len
  have hl1 : fs.length = us.length := hb.len
  have hfb : ∀ f ∈ fs, RB 300 f := hb.f
  have hrb : RB 1500 r := hb.r
  have ez : muls fs us = (fs.zip us).map fun p => p.1 * p.2 := zw_map ..
  have hwb := muls_b hu hfb
  have lw : (muls fs us).length ≤ 4 := by rw [ez, List.length_map, List.length_zip]; omega
  refine stp fun T hT => ?_
  walk_at "fm"
  subst hT
  refine stp fun T hT => ?_
  walk_at "fm"
  rw [zipD_fn]
  refine ⟨by rw [List.length_map, List.length_zip]; omega, comp_map _ (fun p => sr (p.1 * p.2)) trivial _ _ (fun p hp R hR => ?_) ?_⟩
  · unfold rd_whole_test_e1 T_times
    walk_at "fm"
    exact ⟨(hfb _ (List.of_mem_zip hp).1).mono (by decide), (hu.b _ (List.of_mem_zip hp).2).mono (by decide), hR⟩
  refine ⟨_, datas_fn _ _, ?_⟩
  have e1 : ((fs.zip us).map fun p => encR (p.1 * p.2)) = (muls fs us).map encR := by rw [ez, List.map_map]; rfl
  rw [e1]
  unfold wtB wt at h
  simp only at h
  generalize muls fs us = ws at h hwb lw
  subst hT
  refine stp fun T hT => ?_
  unfold T_common_multiple
  walk_at "fm"
  refine ⟨by omega, ws ++ [r], by simp, ?_, by simp; omega, ?_⟩
  · intro x hx
    rcases List.mem_append.mp hx with z | z
    · exact (hwb x z).mono (by decide)
    · have : x = r := by simpa using z
      subst this; exact hrb
  have hmb : B 7501 (lcmD (ws ++ [r]) : Nat) := lcmD_b (fun x hx => by
    rcases List.mem_append.mp hx with z | z
    · exact (hwb x z).mono (by decide)
    · have : x = r := by simpa using z
      subst this; exact hrb) (by simp; omega)
  generalize lcmD (ws ++ [r]) = M at h hmb
  subst hT
  refine stp fun T hT => ?_
  walk_at "fm"
  rw [map_d]
  refine ⟨by omega, comp_map _ (fun w => si (cut M w)) trivial _ _ (fun w hw R hR => ?_) ?_⟩
  · unfold rd_whole_test_e2 encR
    rw [gtup_t]
    walk_at "fm"
    have wb := hwb w hw
    exact ⟨cdiv_ok _ (den_pos w) (wb.d), wb.n.cm (b_ediv hmb _), hR⟩
  refine ⟨_, datas_fn _ _, ?_⟩
  subst hT
  refine stp fun T hT => ?_
  walk_at "fm"
  have key : CDivW (M : Int) r.den ∧ CMulW r.num ((M : Int) / r.den) := ⟨cdiv_ok _ (den_pos r) hrb.d, hrb.n.cm (b_ediv hmb _)⟩
  refine ⟨key.1, key.2, ?_⟩
  have e2 : ∀ z : Int, (s = true → z = 1) → (s = false → z = 0) → r.num * ((M : Int) / r.den) - z = cut M r - one s := fun z h1 h2 => by
    unfold cut one
    cases s
    · rw [h2 rfl]; rfl
    · rw [h1 rfl]; rfl
  suffices goal : T { nx := fun x cs' => rtD (List.length cs) R (S.d PyData.none) cs', rt := rtD (List.length cs) R, bk := fun x x_1 => False, ct := fun x x_1 => False }
      [some (S.d (PyData.tuple (List.map encR us))), some (S.d (PyData.tuple [PyData.tuple (List.map encR fs), encR r, PyData.bool s])), some (S.d (PyData.tuple (List.map encR fs))), some (S.d (encR r)), some (S.d (PyData.bool s)),
        some (S.d (PyData.list (List.map encR ws))), some (si ↑M), some (S.d (PyData.list (List.map (fun w => PyData.int (cut M w)) ws))), some (si (cut M r - one s)), none, none, none, none, none] cs by
    refine ⟨fun hs => ?_, fun hs => ?_⟩
    · rw [← e2 1 (fun _ => rfl) (fun h => by rw [hs] at h; cases h)] at goal; exact goal
    · rw [← e2 0 (fun h => by rw [hs] at h; cases h) (fun _ => rfl)] at goal; exact goal
  have e3 : (ws.map fun w => PyData.int (cut M w)) = (ws.map (cut M)).map PyData.int := by rw [List.map_map]; rfl
  rw [e3]
  have hWb : ∀ n ∈ ws.map (cut M), B 8000 n := fun n hn => by
    obtain ⟨w, hw, rfl⟩ := List.mem_map.mp hn
    exact ((hwb w hw).n.mul (b_ediv hmb _)).mono (by decide)
  have hGb := gcdL_b hWb
  have lW : (ws.map (cut M)).length ≤ 4 := by simpa using lw
  generalize ws.map (cut M) = W at h hWb hGb lW
  generalize cut M r - one s = N at h
  unfold wt0 at h
  simp only at h
  subst hT
  refine stp fun T hT => ?_
  unfold T_common_divisor
  walk_at "fm"
  refine ⟨W, rfl, ?_⟩
  generalize gcdL W = G at h hGb
  subst hT
  refine stp fun T hT => ?_
  walk_at "fm"
  rw [map_d]
  refine ⟨fun hG => ⟨by omega, comp_map _ (fun n => si (n / (G : Int))) trivial _ _ (fun w hw R hR => ?_) ⟨_, datas_fn _ _, cdiv_ok _ (by omega) hGb, ?_⟩⟩, fun hG => ?_⟩
  · unfold rd_whole_test_e3
    walk_at "fm"
    exact ⟨cdiv_ok _ (by omega) hGb, hR⟩
  · rw [if_pos (by omega)] at h
    subst hT
    walk_at "fm"
    refine rt_l ?_
    unfold testD at h
    rw [List.map_map] at h
    exact h
  · rw [if_neg (by omega)] at h
    subst hT
    walk_at "fm"
    exact rt_l h
end K42

set_option Elab.async false
set_option linter.all false
set_option maxRecDepth 100000
set_option maxHeartbeats 2000000
namespace K42
open PySem L2 FL FR
local macro_rules | `(tactic| walk_at "fl") => `(tactic| simp only [dSeq, dAsg, dgName, dVar, dC, dOp, dUn, dIxK, ixkR, itemsR, dTup, dLst, dCons, dNil, dCall, dCB, dIfS, dIf, dTestR, dTru, dTruR, dRet, dRetN, dNext, dDrop, dAnd, dOr, dNot, dAndV, dOrV, dNotV, dPar, dFor, dRg1, dRg2, dItems, dgTup, dgCons, dgNil, dZip, dZipR, dIsi, isTy, tgOf, tab, dApp, dgSub, dLstM, dVarF, dBreak, dCont, dSl, dSlR, dPart, dNoPart, dLcG, dChain, dAug, dEnum,
  qI, qI0, qNeg, qEq, qNe, qIsN, qNotN, isNone, eqOk, dIxR, cAbs, cInt, cLen, cSum, cMax2, cMin2, cTup, cList, cListM, eqv_ii, eqv_bb, kFro, kMut,
  endsD, sd1, sd2, sd3, getS, getC, datas, List.length_cons, List.length_nil, List.map_cons, List.map_nil, Option.map_some, List.set_cons_zero, List.set_cons_succ, List.replicate_succ, List.replicate_zero, List.getElem?_cons_zero, List.getElem?_cons_succ, List.cons_append, List.nil_append,
  Option.some.injEq, S.d.injEq, S.ref.injEq, PyData.int.injEq, PyData.bool.injEq, PyData.list.injEq, PyData.tuple.injEq, List.cons.injEq, and_true, true_and, exists_eq_left, exists_eq_left', exists_eq_right, exists_and_left, exists_and_right, exists_const, forall_const, imp_self, reduceCtorEq, false_and, and_false, decide_eq_true_eq, decide_eq_false_iff_not, Bool.not_eq_true', Bool.not_eq_false', ne_eq, Classical.not_not, Bool.true_eq_false, Bool.false_eq_true, Nat.reduceAdd, false_implies, true_implies, implies_true, sizeLine_eq, Nat.reduceLeDiff, decide_true, decide_false, Bool.not_true, Bool.not_false, decide_not])
local macro_rules | `(tactic| walk_at "fm") => `(tactic| simp only [rgS_len, wip, dSeq, ixk_l, ixk_t, ixk_r, ixr_l, ixr_t, ixr_s, ixr_r, tru_n, tru_b, tru_i, tru_l, tru_t, tru_s, tru_r, its_l, its_t, its_r, gtup_t, eqk_i, eqk_b, eqk_s, eqk_t, eqk_l, len_l, len_t, len_s, len_r, int_i, int_b, sum_l, sum_r, tup_l, tup_t, tup_r, lis_l, lis_t, lis_r, lim_l, lim_t, lim_r, zip_t, zip_l, sl_l, sl_t, sl_r, dAsg, dgName, dVar, dC, dOp, dUn, dIxK, dTup, dLst, dCons, dNil, dCall, dCB, dIfS, dIf, dTestR, dTru, dRet, dRetN, dNext, dDrop, dAnd, dOr, dNot, dAndV, dOrV, dNotV, dPar, dFor, dRg1, dRg2, dItems, dgCons, dgNil, dZip, dIsi, isTy, tgOf, tab, dApp, dgSub, dLstM, dVarF, dBreak, dCont, dSl, dPart, dNoPart, dLcG, dChain, dAug, dEnum,
  qI, qI0, qNeg, qEq, qNe, qIsN, qNotN, isNone, qIsB, qNotB, isB, addl_i, addl_t, addl_l, cAbs, cMax2, cMin2, eqv_ii, eqv_bb, kFro, kMut,
  endsD, sd1, sd2, sd3, getS, getC, datas, List.length_cons, List.length_nil, List.map_cons, List.map_nil, Option.map_some, List.set_cons_zero, List.set_cons_succ, List.replicate_succ, List.replicate_zero, List.getElem?_cons_zero, List.getElem?_cons_succ, List.cons_append, List.nil_append,
  Option.some.injEq, S.d.injEq, S.ref.injEq, PyData.int.injEq, PyData.bool.injEq, PyData.list.injEq, PyData.tuple.injEq, List.cons.injEq, and_true, true_and, exists_eq_left, exists_eq_left', exists_eq_right, exists_and_left, exists_and_right, exists_const, exists_eq', exists_eq, ixk_enc0, ixk_enc1, not_true_eq_false, not_false_eq_true, and_self, enc_eq, dOk_enc, dOk_int, eqv_enc, datas_si, datas_map, intsOf_map, and_assoc, List.length_map, List.length_append, forall_const, imp_self, reduceCtorEq, false_and, and_false, decide_eq_true_eq, decide_eq_false_iff_not, Bool.not_eq_true', Bool.not_eq_false', ne_eq, Classical.not_not, Bool.true_eq_false, Bool.false_eq_true, Nat.reduceAdd, false_implies, true_implies, implies_true, sizeLine_eq, Nat.reduceLeDiff, decide_true, decide_false, Bool.not_true, Bool.not_false, decide_not])
theorem m_whole_row : ∀ xs cs R, xs.length = 2 → Okc cs.length cs → T_whole_row xs cs R → rd_whole_row (endsD cs.length R) (startD 3 xs) cs := by
  rintro xs cs R hl hc ⟨us, ⟨bs, c⟩, rfl, hu, hb, hn, h⟩
  unfold rd_whole_row rowD
  walk_at "fm"
  rw [map_d]
  refine ⟨Nat.le_trans hn (by decide), comp_map _ (fun b => .d (testD (wtB us b))) trivial _ _ (fun b hm R hR => ?_) ⟨_, datas_fn _ _, ?_⟩⟩
  · unfold rd_whole_row_e1 T_whole_test
    walk_at "fm"
    exact ⟨us, rfl, b, rfl, hu, hb b hm, hR⟩
  · refine rt_l ?_
    unfold rowD at h
    rw [List.map_map] at h
    exact h
theorem m_whole_table : ∀ xs cs R, xs.length = 2 → Okc cs.length cs → T_whole_table xs cs R → rd_whole_table (endsD cs.length R) (startD 3 xs) cs := by
  rintro xs cs R hl hc ⟨us, tb, rfl, hu, hb, hn, h⟩
  unfold rd_whole_table
  walk_at "fm"
  rw [map_d]
  refine ⟨Nat.le_trans hn (by decide), comp_map _ (fun w => .d (rowD testD (w.1.map (wtB us), w.2))) trivial _ _ (fun b hm R hR => ?_) ⟨_, datas_fn _ _, ?_⟩⟩
  · unfold rd_whole_table_e1 T_whole_row
    walk_at "fm"
    exact ⟨us, rfl, b, rfl, hu, (hb b hm).1, (hb b hm).2, hR⟩
  · refine rt_l ?_
    rw [List.map_map] at h
    exact h
theorem m_least_sum : ∀ xs cs R, xs.length = 2 → Okc cs.length cs → T_least_sum xs cs R → rd_least_sum (endsD cs.length R) (startD 7 xs) cs := by
  rintro xs cs R hl hc ⟨⟨fs, m⟩, ws, n, rfl, ht, hw, hn, h⟩
  unfold rd_least_sum testD
  have l1 : fs.length = n := ht.1
  have hf : ∀ v ∈ fs, B 9000 v := ht.2
  have l2 : ws.length = n := hw.1
  walk_at "fm"
  rw [zipD_fn]
  refine ⟨by rw [List.length_map, List.length_zip]; omega, comp_map _ (fun p => si (if p.1 * p.2.2 < p.1 * p.2.1 then p.1 * p.2.2 else p.1 * p.2.1)) trivial _ _ (fun p hp R hR => ?_) ⟨_, datas_fn _ _, _, intsOf_fn _ _, rt_l ?_⟩⟩
  · obtain ⟨f, w⟩ := p
    have hf' := hf f (List.of_mem_zip hp).1
    have hw' := hw.2 w (List.of_mem_zip hp).2
    unfold rd_least_sum_e1 spanD
    walk_at "fm"
    exact ⟨hf'.cm hw'.2.1, hf'.cm hw'.2.2, hR⟩
  · unfold least at h
    rw [zw_map] at h
    exact h
theorem m_holds_for : ∀ xs cs R, xs.length = 2 → Okc cs.length cs → T_holds_for xs cs R → rd_holds_for (endsD cs.length R) (startD 2 xs) cs := by
  rintro xs cs R hl hc ⟨t, ws, n, rfl, ht, hw, hn, h⟩
  unfold rd_holds_for T_least_sum
  walk_at "fm"
  refine ⟨t, rfl, ws, rfl, n, ht, hw, hn, rt_l ?_⟩
  unfold holds at h
  exact h
theorem m_row_holds : ∀ xs cs R, xs.length = 2 → Okc cs.length cs → T_row_holds xs cs R → rd_row_holds (endsD cs.length R) (startD 3 xs) cs := by
  rintro xs cs R hl hc ⟨n, ws, ⟨ts, c⟩, rfl, ht, hw, hn, h⟩
  unfold rd_row_holds rowD
  walk_at "fm"
  rw [map_d]
  simp only at h ht
  refine for_all (fun t => S.d (testD t)) (fun as ρ cs' => cs' = cs ∧ as.all (holds ws) = ts.all (holds ws) ∧ (∀ t ∈ as, TOk n t) ∧ ∃ o0 o2, ρ = [o0, some (.d (.tuple (ws.map spanD))), o2]) (fun _ _ _ _ => trivial) ?_ ?_ ts _ _ ⟨rfl, rfl, ht, _, _, rfl⟩
  · rintro ρ cs' ⟨rfl, e, _, o0, o2, rfl⟩
    walk_at "fm"
    rw [← e] at h
    exact rt_l h
  · rintro t as ρ cs' ⟨rfl, e, ht, o0, o2, rfl⟩ Z hz
    unfold rd_row_holds_b1 T_holds_for
    walk_at "fm"
    refine ⟨t, rfl, ws, rfl, n, ht t List.mem_cons_self, hw, hn, fun hs => ?_, fun hs => hz _ _ ⟨rfl, ?_, fun x hx => ht x (List.mem_cons_of_mem _ hx), _, _, rfl⟩⟩
    · rw [List.all_cons, hs, Bool.false_and] at e
      rw [← e] at h
      exact rt_l h
    · rw [List.all_cons, hs, Bool.true_and] at e
      exact e
theorem firstD_c (ws : List (Int × Int)) (w : List Tst × Int) (r : List (List Tst × Int)) : firstD ws (w :: r) = if w.1.all (holds ws) then .int w.2 else firstD ws r := rfl
theorem m_command_in : ∀ xs cs R, xs.length = 2 → Okc cs.length cs → T_command_in xs cs R → rd_command_in (endsD cs.length R) (startD 3 xs) cs := by
  rintro xs cs R hl hc ⟨n, ws, tb, rfl, ht, hw, hn, h⟩
  unfold rd_command_in
  walk_at "fm"
  rw [map_d]
  refine for_all (fun w => S.d (rowD testD w)) (fun as ρ cs' => cs' = cs ∧ firstD ws as = firstD ws tb ∧ (∀ w ∈ as, ∀ t ∈ w.1, TOk n t) ∧ ∃ o0 o2, ρ = [o0, some (.d (.tuple (ws.map spanD))), o2]) (fun _ _ _ _ => trivial) ?_ ?_ tb _ _ ⟨rfl, rfl, ht, _, _, rfl⟩
  · rintro ρ cs' ⟨rfl, e, _, o0, o2, rfl⟩
    walk_at "fm"
    rw [← e] at h
    exact rt_l h
  · rintro t as ρ cs' ⟨rfl, e, ht, o0, o2, rfl⟩ Z hz
    unfold rd_command_in_b1 T_row_holds
    walk_at "fm"
    rw [firstD_c] at e
    refine ⟨n, ws, t, rfl, rfl, ht t List.mem_cons_self, hw, hn, fun hs => ?_, fun hs => hz _ _ ⟨rfl, ?_, fun x hx => ht x (List.mem_cons_of_mem _ hx), _, _, rfl⟩⟩
    · rw [if_pos hs] at e
      rw [← e] at h
      unfold rowD
      walk_at "fm"
      exact rt_l h
    · rw [if_neg (by rw [hs]; decide)] at e
      exact e
end K42

set_option Elab.async false
set_option linter.all false
set_option maxRecDepth 100000
set_option maxHeartbeats 2000000
namespace K42
open PySem L2 FL FR
local macro_rules | `(tactic| walk_at "fl") => `(tactic| simp only [dSeq, dAsg, dgName, dVar, dC, dOp, dUn, dIxK, ixkR, itemsR, dTup, dLst, dCons, dNil, dCall, dCB, dIfS, dIf, dTestR, dTru, dTruR, dRet, dRetN, dNext, dDrop, dAnd, dOr, dNot, dAndV, dOrV, dNotV, dPar, dFor, dRg1, dRg2, dItems, dgTup, dgCons, dgNil, dZip, dZipR, dIsi, isTy, tgOf, tab, dApp, dgSub, dLstM, dVarF, dBreak, dCont, dSl, dSlR, dPart, dNoPart, dLcG, dChain, dAug, dEnum,
  qI, qI0, qNeg, qEq, qNe, qIsN, qNotN, isNone, eqOk, dIxR, cAbs, cInt, cLen, cSum, cMax2, cMin2, cTup, cList, cListM, eqv_ii, eqv_bb, kFro, kMut,
  endsD, sd1, sd2, sd3, getS, getC, datas, List.length_cons, List.length_nil, List.map_cons, List.map_nil, Option.map_some, List.set_cons_zero, List.set_cons_succ, List.replicate_succ, List.replicate_zero, List.getElem?_cons_zero, List.getElem?_cons_succ, List.cons_append, List.nil_append,
  Option.some.injEq, S.d.injEq, S.ref.injEq, PyData.int.injEq, PyData.bool.injEq, PyData.list.injEq, PyData.tuple.injEq, List.cons.injEq, and_true, true_and, exists_eq_left, exists_eq_left', exists_eq_right, exists_and_left, exists_and_right, exists_const, forall_const, imp_self, reduceCtorEq, false_and, and_false, decide_eq_true_eq, decide_eq_false_iff_not, Bool.not_eq_true', Bool.not_eq_false', ne_eq, Classical.not_not, Bool.true_eq_false, Bool.false_eq_true, Nat.reduceAdd, false_implies, true_implies, implies_true, sizeLine_eq, Nat.reduceLeDiff, decide_true, decide_false, Bool.not_true, Bool.not_false, decide_not])
local macro_rules | `(tactic| walk_at "fm") => `(tactic| simp only [rgS_len, wip, dSeq, ixk_l, ixk_t, ixk_r, ixr_l, ixr_t, ixr_s, ixr_r, tru_n, tru_b, tru_i, tru_l, tru_t, tru_s, tru_r, its_l, its_t, its_r, gtup_t, eqk_i, eqk_b, eqk_s, eqk_t, eqk_l, len_l, len_t, len_s, len_r, int_i, int_b, sum_l, sum_r, tup_l, tup_t, tup_r, lis_l, lis_t, lis_r, lim_l, lim_t, lim_r, zip_t, zip_l, sl_l, sl_t, sl_r, dAsg, dgName, dVar, dC, dOp, dUn, dIxK, dTup, dLst, dCons, dNil, dCall, dCB, dIfS, dIf, dTestR, dTru, dRet, dRetN, dNext, dDrop, dAnd, dOr, dNot, dAndV, dOrV, dNotV, dPar, dFor, dRg1, dRg2, dItems, dgCons, dgNil, dZip, dIsi, isTy, tgOf, tab, dApp, dgSub, dLstM, dVarF, dBreak, dCont, dSl, dPart, dNoPart, dLcG, dChain, dAug, dEnum,
  qI, qI0, qNeg, qEq, qNe, qIsN, qNotN, isNone, qIsB, qNotB, isB, addl_i, addl_t, addl_l, cAbs, cMax2, cMin2, eqv_ii, eqv_bb, kFro, kMut,
  endsD, sd1, sd2, sd3, getS, getC, datas, List.length_cons, List.length_nil, List.map_cons, List.map_nil, Option.map_some, List.set_cons_zero, List.set_cons_succ, List.replicate_succ, List.replicate_zero, List.getElem?_cons_zero, List.getElem?_cons_succ, List.cons_append, List.nil_append,
  Option.some.injEq, S.d.injEq, S.ref.injEq, PyData.int.injEq, PyData.bool.injEq, PyData.list.injEq, PyData.tuple.injEq, List.cons.injEq, and_true, true_and, exists_eq_left, exists_eq_left', exists_eq_right, exists_and_left, exists_and_right, exists_const, exists_eq', exists_eq, ixk_enc0, ixk_enc1, not_true_eq_false, not_false_eq_true, and_self, enc_eq, dOk_enc, dOk_int, eqv_enc, datas_si, datas_map, intsOf_map, and_assoc, List.length_map, List.length_append, forall_const, imp_self, reduceCtorEq, false_and, and_false, decide_eq_true_eq, decide_eq_false_iff_not, Bool.not_eq_true', Bool.not_eq_false', ne_eq, Classical.not_not, Bool.true_eq_false, Bool.false_eq_true, Nat.reduceAdd, false_implies, true_implies, implies_true, sizeLine_eq, Nat.reduceLeDiff, decide_true, decide_false, Bool.not_true, Bool.not_false, decide_not])
theorem pair_low {p q : Int} (h : low p q = true) : PyData.tuple [.int p, .int q] = encR (Rat.divInt p q) ∧ 0 < q := by
  unfold low at h
  simp only [Bool.and_eq_true, decide_eq_true_eq] at h
  have hq : 0 < q := by omega
  refine ⟨?_, hq⟩
  unfold encR
  rw [← num_is hq, ← den_is hq, h.2]
  simp
theorem m_are_units : ∀ xs cs R, xs.length = 2 → Okc cs.length cs → T_are_units xs cs R → rd_are_units (endsD cs.length R) (startD 3 xs) cs := by
  rintro xs cs R hl hc ⟨n, ps, rfl, hb, hn, h⟩
  unfold rd_are_units
  walk_at "fm"
  refine ⟨fun hne => rt_l ?_, fun he => ?_⟩
  · rw [decide_eq_false hne, Bool.false_and] at h
    exact h
  · rw [map_d]
    refine ⟨Nat.le_trans hn (by decide), comp_flt _ (fun p => !isUnit p) (fun _ => si 1) trivial _ _ (fun p hp Y Nn hy hnn => ?_) ⟨_, datas_fn _ _, rt_l ?_⟩⟩
    · obtain ⟨a, b⟩ := p
      have hpb := hb _ hp
      unfold rd_are_units_t1 rd_are_units_e1 T_is_ratio T_compare spanD
      walk_at "fm"
      unfold isUnit at hy hnn
      simp only at hy hnn hpb
      by_cases hlw : low a b = true
      · obtain ⟨e, hq⟩ := pair_low hlw
        have rb : RB 3000 (Rat.divInt a b) := (divInt_b (by omega) hpb.1 hpb.2).mono (by decide)
        have enum : (Rat.divInt a b).num = a := by
          unfold low at hlw
          simp only [Bool.and_eq_true, decide_eq_true_eq] at hlw
          rw [← num_is hq, hlw.2]; simp
        have e0 : cmpR (Rat.divInt a b) 0 = if a < 0 then -1 else if 0 < a then 1 else 0 := by
          rw [cmp_is, enum]
          simp
        rw [hlw] at hy hnn ⊢
        rw [Bool.true_and] at hy hnn
        refine ⟨(fun z => by cases z), fun _ => ⟨_, e, 0, rfl, rb, RB.mono (n := 1) ⟨by decide, by decide⟩ (by decide), ?_, ?_⟩⟩
        · rw [e0]
          intro hlt
          refine hy ?_
          have : ¬ 0 < a := fun h0 => by
            rw [if_neg (by omega), if_pos h0] at hlt
            omega
          simp [this]
        · rw [e0]
          intro hlt
          refine hnn ?_
          have : 0 < a := by
            by_cases h1 : a < 0
            · rw [if_pos h1] at hlt; omega
            · by_cases h2 : 0 < a
              · exact h2
              · rw [if_neg h1, if_neg h2] at hlt; omega
          simp [this]
      · have hf : low a b = false := by simpa using hlw
        rw [hf] at hy ⊢
        exact ⟨fun _ => hy rfl, fun z => by cases z⟩
    · have e1 : decide ((((ps.filter fun p => !isUnit p).map fun _ => PyData.int 1).length : Int) = 0) = ps.all isUnit := by
        rw [List.length_map]
        by_cases ha : ps.all isUnit = true
        · have : ps.filter (fun p => !isUnit p) = [] := List.filter_eq_nil_iff.mpr fun p hp => by
            have := List.all_eq_true.mp ha p hp
            simp [this]
          rw [this, ha]; rfl
        · have : ps.filter (fun p => !isUnit p) ≠ [] := fun z => ha (List.all_eq_true.mpr fun p hp => by
            have := List.filter_eq_nil_iff.mp z p hp
            simpa using this)
          have hp := List.length_pos_iff.mpr this
          rw [show ps.all isUnit = false by simpa using ha]
          exact decide_eq_false (by omega)
      rw [decide_eq_true he, Bool.true_and] at h
      rw [e1]
      exact h
theorem gtup_enc {r : Rat} {gs : TGsD} {ρ : Ev} {cs : Sto} {RG : Ev → Sto → Prop} : dgTup 2 gs (.d (encR r)) ρ cs RG = gs [si r.num, si (r.den : Int)] ρ cs RG := propext ⟨fun h => h.2, fun h => ⟨rfl, h⟩⟩
theorem m_down : ∀ xs cs R, xs.length = 2 → Okc cs.length cs → T_down xs cs R → rd_down (endsD cs.length R) (startD 4 xs) cs := by
  rintro xs cs R hl hc ⟨t, d, rfl, ht, hd, h0, h⟩
  unfold rd_down T_over
  walk_at "fm"
  refine ⟨ht.mono (by decide), hd.mono (by decide), h0, ?_⟩
  rw [gtup_enc]
  walk_at "fm"
  rw [Rat.floor_def] at h
  exact ⟨cdiv_ok _ (den_pos _) (ht.div hd h0).d, rt_l h⟩
theorem m_up : ∀ xs cs R, xs.length = 2 → Okc cs.length cs → T_up xs cs R → rd_up (endsD cs.length R) (startD 4 xs) cs := by
  rintro xs cs R hl hc ⟨t, d, rfl, ht, hd, h0, h⟩
  unfold rd_up T_over
  walk_at "fm"
  refine ⟨ht.mono (by decide), hd.mono (by decide), h0, ?_⟩
  rw [gtup_enc]
  walk_at "fm"
  rw [Rat.ceil_eq_neg_floor_neg, Rat.floor_def, Rat.neg_num, Rat.neg_den] at h
  exact ⟨cdiv_ok _ (den_pos _) (ht.div hd h0).d, rt_l h⟩
theorem m_made_whole : ∀ xs cs R, xs.length = 2 → Okc cs.length cs → T_made_whole xs cs R → rd_made_whole (endsD cs.length R) (startD 5 xs) cs := by
  rintro xs cs R hl hc ⟨us, box, rfl, hu, h0, hb, hn, h⟩
  unfold rd_made_whole ratsD
  walk_at "fm"
  have hl := hu.len
  rw [zipD_fn]
  refine ⟨by rw [List.length_map, List.length_zip]; omega, comp_map _ (fun p => .d (spanD ((p.2.1 / p.1).floor, (p.2.2 / p.1).ceil))) trivial _ _ (fun p hp R hR => ?_) ⟨_, datas_fn _ _, rt_l ?_⟩⟩
  · obtain ⟨u, w⟩ := p
    have hp1 := (List.of_mem_zip hp).1
    have hw := hb _ (List.of_mem_zip hp).2
    unfold rd_made_whole_e1 T_down T_up boxD
    walk_at "fm"
    exact ⟨hw.1, (hu.b u hp1).mono (by decide), h0 u hp1, hw.2, (hu.b u hp1).mono (by decide), h0 u hp1, hR⟩
  · rw [zw_map] at h
    exact h
theorem int_enc (i : Int) : PyData.tuple [.int i, .int 1] = encR (i : Rat) := rfl
theorem int_rb {n : Nat} {i : Int} (h : B n i) (hn : 0 < n := by decide) : RB n (i : Rat) := ⟨h, by
  show 1 < 2 ^ n
  exact Nat.one_lt_two_pow (by omega)⟩
theorem m_worth_of : ∀ xs cs R, xs.length = 2 → Okc cs.length cs → T_worth_of xs cs R → rd_worth_of (endsD cs.length R) (startD 5 xs) cs := by
  rintro xs cs R hl hc ⟨us, ws, rfl, hu, hw, h⟩
  unfold rd_worth_of ratsD
  walk_at "fm"
  have hl := hu.len
  rw [zipD_fn]
  refine ⟨by rw [List.length_map, List.length_zip]; omega, comp_map _ (fun p => .d (boxD (p.1 * (p.2.1 : Rat), p.1 * (p.2.2 : Rat)))) trivial _ _ (fun p hp R hR => ?_) ⟨_, datas_fn _ _, rt_l ?_⟩⟩
  · obtain ⟨u, w⟩ := p
    have hp1 := (List.of_mem_zip hp).1
    have hw' := hw.2 _ (List.of_mem_zip hp).2
    unfold rd_worth_of_e1 T_times spanD
    walk_at "fm"
    simp only [int_enc, enc_eq, exists_eq_left']
    exact ⟨(hu.b u hp1).mono (by decide), (int_rb hw'.2.1).mono (by decide), (hu.b u hp1).mono (by decide), (int_rb hw'.2.2).mono (by decide), hR⟩
  · rw [zw_map] at h
    exact h
end K42

set_option Elab.async false
set_option linter.all false
set_option maxRecDepth 100000
set_option maxHeartbeats 2000000
namespace K42
open PySem L2 FL FR
local macro_rules | `(tactic| walk_at "fl") => `(tactic| simp only [dSeq, dAsg, dgName, dVar, dC, dOp, dUn, dIxK, ixkR, itemsR, dTup, dLst, dCons, dNil, dCall, dCB, dIfS, dIf, dTestR, dTru, dTruR, dRet, dRetN, dNext, dDrop, dAnd, dOr, dNot, dAndV, dOrV, dNotV, dPar, dFor, dRg1, dRg2, dItems, dgTup, dgCons, dgNil, dZip, dZipR, dIsi, isTy, tgOf, tab, dApp, dgSub, dLstM, dVarF, dBreak, dCont, dSl, dSlR, dPart, dNoPart, dLcG, dChain, dAug, dEnum,
  qI, qI0, qNeg, qEq, qNe, qIsN, qNotN, isNone, eqOk, dIxR, cAbs, cInt, cLen, cSum, cMax2, cMin2, cTup, cList, cListM, eqv_ii, eqv_bb, kFro, kMut,
  endsD, sd1, sd2, sd3, getS, getC, datas, List.length_cons, List.length_nil, List.map_cons, List.map_nil, Option.map_some, List.set_cons_zero, List.set_cons_succ, List.replicate_succ, List.replicate_zero, List.getElem?_cons_zero, List.getElem?_cons_succ, List.cons_append, List.nil_append,
  Option.some.injEq, S.d.injEq, S.ref.injEq, PyData.int.injEq, PyData.bool.injEq, PyData.list.injEq, PyData.tuple.injEq, List.cons.injEq, and_true, true_and, exists_eq_left, exists_eq_left', exists_eq_right, exists_and_left, exists_and_right, exists_const, forall_const, imp_self, reduceCtorEq, false_and, and_false, decide_eq_true_eq, decide_eq_false_iff_not, Bool.not_eq_true', Bool.not_eq_false', ne_eq, Classical.not_not, Bool.true_eq_false, Bool.false_eq_true, Nat.reduceAdd, false_implies, true_implies, implies_true, sizeLine_eq, Nat.reduceLeDiff, decide_true, decide_false, Bool.not_true, Bool.not_false, decide_not])
local macro_rules | `(tactic| walk_at "fm") => `(tactic| simp only [rgS_len, wip, dSeq, ixk_l, ixk_t, ixk_r, ixr_l, ixr_t, ixr_s, ixr_r, tru_n, tru_b, tru_i, tru_l, tru_t, tru_s, tru_r, its_l, its_t, its_r, gtup_t, eqk_i, eqk_b, eqk_s, eqk_t, eqk_l, len_l, len_t, len_s, len_r, int_i, int_b, sum_l, sum_r, tup_l, tup_t, tup_r, lis_l, lis_t, lis_r, lim_l, lim_t, lim_r, zip_t, zip_l, sl_l, sl_t, sl_r, dAsg, dgName, dVar, dC, dOp, dUn, dIxK, dTup, dLst, dCons, dNil, dCall, dCB, dIfS, dIf, dTestR, dTru, dRet, dRetN, dNext, dDrop, dAnd, dOr, dNot, dAndV, dOrV, dNotV, dPar, dFor, dRg1, dRg2, dItems, dgCons, dgNil, dZip, dIsi, isTy, tgOf, tab, dApp, dgSub, dLstM, dVarF, dBreak, dCont, dSl, dPart, dNoPart, dLcG, dChain, dAug, dEnum,
  qI, qI0, qNeg, qEq, qNe, qIsN, qNotN, isNone, qIsB, qNotB, isB, addl_i, addl_t, addl_l, cAbs, cMax2, cMin2, eqv_ii, eqv_bb, kFro, kMut,
  endsD, sd1, sd2, sd3, getS, getC, datas, List.length_cons, List.length_nil, List.map_cons, List.map_nil, Option.map_some, List.set_cons_zero, List.set_cons_succ, List.replicate_succ, List.replicate_zero, List.getElem?_cons_zero, List.getElem?_cons_succ, List.cons_append, List.nil_append,
  Option.some.injEq, S.d.injEq, S.ref.injEq, PyData.int.injEq, PyData.bool.injEq, PyData.list.injEq, PyData.tuple.injEq, List.cons.injEq, and_true, true_and, exists_eq_left, exists_eq_left', exists_eq_right, exists_and_left, exists_and_right, exists_const, exists_eq', exists_eq, ixk_enc0, ixk_enc1, not_true_eq_false, not_false_eq_true, and_self, enc_eq, dOk_enc, dOk_int, eqv_enc, datas_si, datas_map, intsOf_map, and_assoc, List.length_map, List.length_append, forall_const, imp_self, reduceCtorEq, false_and, and_false, decide_eq_true_eq, decide_eq_false_iff_not, Bool.not_eq_true', Bool.not_eq_false', ne_eq, Classical.not_not, Bool.true_eq_false, Bool.false_eq_true, Nat.reduceAdd, false_implies, true_implies, implies_true, sizeLine_eq, Nat.reduceLeDiff, decide_true, decide_false, Bool.not_true, Bool.not_false, decide_not])
theorem sh_turns {d : EndsD} {cs : Sto} : ∀ (n m : Nat) (lo a b : Int) (o : Option S), 0 ≤ b → b < a → a * b < 2 ^ n → n < m →
    (∀ o, d.nx [some (si (Int.gcd a b : Nat)), some (si 0), o] cs) →
    forR okT (dgName 2) rd__law_shared_b1 d (rgS lo m) [some (si a), some (si b), o] cs
  | n, 0, lo, a, b, o, _, _, _, hm, _ => absurd hm (Nat.not_lt_zero _)
  | n, m + 1, lo, a, b, o, hb, hab, hn, hm, k => by
    rw [rgS_succ]
    refine ⟨trivial, ?_⟩
    unfold rd__law_shared_b1
    walk_at "fl"
    refine ⟨fun e => ?_, fun e => ⟨by omega, ?_⟩⟩
    · subst e
      have := k (some (si lo))
      rw [Int.gcd_zero_right] at this
      have e2 : ((a.natAbs : Nat) : Int) = a := by omega
      rw [e2] at this
      exact this
    · have h0 : 0 < b := by omega
      have h1 := Int.emod_nonneg a (show b ≠ 0 by omega)
      have h2 := Int.emod_lt_of_pos a h0
      have h3 := eu_half h0 hab
      cases n with
      | zero =>
        have : 1 * 1 ≤ a * b := Int.mul_le_mul (by omega) (by omega) (by omega) (by omega)
        simp at hn
        omega
      | succ n =>
        have e : (2 : Int) ^ (n + 1) = 2 ^ n * 2 := Int.pow_succ 2 n
        have e3 : b * a = a * b := Int.mul_comm b a
        have e4 : b * (a % b) = a % b * b := Int.mul_comm _ _
        refine sh_turns n m (lo + 1) b (a % b) (some (si lo)) h1 h2 (by omega) (by omega) fun o => ?_
        have eg : Int.gcd b (a % b) = Int.gcd a b := by rw [Int.gcd_comm b, gcd_turn', Int.gcd_comm]
        rw [eg]
        exact k o
theorem m__law_shared : ∀ xs cs R, xs.length = 2 → Okc cs.length cs → T__law_shared xs cs R → rd__law_shared (endsD cs.length R) (startD 3 xs) cs := by
  rintro xs cs R hl hc ⟨a, b, rfl, h0, ha, hb, h⟩
  unfold rd__law_shared
  walk_at "fm"
  refine ⟨by decide, by decide, ?_⟩
  have fin : ∀ (g : Int) (o1 o2 : Option S), (if g < 0 then -g else g) = (Int.gcd a b : Nat) → (dRet (dCB cAbs (dCons (dVar 0) dNil))) (endsD cs.length R) [some (si g), o1, o2] cs := fun g o1 o2 e => by
    walk_at "fm"
    refine rt_l ?_
    rw [e]
    exact h
  generalize hK : Int.toNat 100000 = KK
  have hK2 : 30000 ≤ KK := by omega
  clear hK
  cases KK with
  | zero => omega
  | succ M =>
  rw [rgS_succ]
  refine ⟨trivial, ?_⟩
  unfold rd__law_shared_b1
  walk_at "fl"
  refine ⟨fun e => ?_, fun e => ⟨by omega, ?_⟩⟩
  · subst e
    rw [Int.gcd_zero_right] at h
    have : (if a < 0 then -a else a) = (a.natAbs : Int) := by split <;> omega
    rw [this]
    exact rt_l h
  · have h0' : 0 < b := by omega
    have h1 := Int.emod_nonneg a (show b ≠ 0 by omega)
    have h2 := Int.emod_lt_of_pos a h0'
    have hb2 : B 8000 (a % b) := hb.le h1 (by omega)
    refine sh_turns (8000 + 8000) M (0 + 1) b (a % b) _ h1 h2 (two_b h0 h1 hb hb2) (by omega) fun o => ?_
    refine fin _ _ _ ?_
    have eg : Int.gcd b (a % b) = Int.gcd a b := by rw [Int.gcd_comm b, gcd_turn', Int.gcd_comm]
    rw [eg]
    split <;> omega
instance dec_B {n : Nat} {i : Int} : Decidable (B n i) := Nat.decLt _ _
theorem pk_b {n : Nat} {ds : List PyData} {ns : List Int} (e : ds = ns.map PyData.int) (h : ∀ i ∈ ns, 0 ≤ i ∧ B n i) : ∀ d ∈ ds, ∃ i : Int, d = .int i ∧ 0 ≤ i ∧ B n i := fun d hd => by
  subst e
  obtain ⟨i, hi, rfl⟩ := List.mem_map.mp hd
  exact ⟨i, rfl, h i hi⟩
theorem m__law_great : ∀ xs cs R, xs.length = 1 → Okc cs.length cs → T__law_great xs cs R → rd__law_great (endsD cs.length R) (startD 4 xs) cs := by
  rintro xs cs R hl hc ⟨row, total, pos, gs, rfl, rfl, D, hp, h⟩
  unfold rd__law_great T__law_pick T__law_take T__law_ratio
  walk_at "fm"
  refine ⟨by unfold CPow; decide, by unfold CPow; decide, by unfold CPow; decide, row, total, pos, gs, rfl, D, by decide, fun d hd => ?_⟩
  obtain ⟨z, rfl, z0, zb⟩ := pk_b (n := 120) (ns := [1, 1, 10, 10 ^ Int.toNat 5, 10 ^ Int.toNat 18, 10 ^ Int.toNat 36]) rfl (by decide) d hd
  walk_at "fm"
  refine ⟨row, total, pos + 1, gs, rfl, D.next (by omega) (by omega), by decide, fun v v0 v1 => ?_⟩
  have vb : B 11 (1 + v) := by unfold B; omega
  refine ⟨vb.cm zb, row, total, _, gs, rfl, D.next (by omega) (by omega), by decide, fun w w0 w1 => ?_⟩
  refine ⟨row, total, _, gs, rfl, D.next (by omega) (by omega), by decide, fun s s0 s1 => ?_⟩
  have wb : B 3 w := by unfold B; omega
  have nb : B 132 ((1 + v) * z + w) := ((vb.mul zb).add wb).mono (by decide)
  have sb : B 1 (1 - 2 * s) := by unfold B; omega
  have s2 : CMulW 2 s := B.cm (n := 2) (m := 2) (by unfold B; decide) (by unfold B; omega)
  refine ⟨s2, sb.cm nb, row, total, _, gs, rfl, D.next (by omega) (by omega), by decide, fun t t0 t1 => ?_⟩
  refine ⟨by unfold CPow; decide, by unfold CPow; decide, row, total, _, gs, rfl, D.next (by omega) (by omega), by decide, fun d hd => ?_⟩
  obtain ⟨y, rfl, y0, yb⟩ := pk_b (n := 120) (ns := [1, 1, 10 ^ Int.toNat 9, 10 ^ Int.toNat 30]) rfl (by decide) d hd
  walk_at "fm"
  have tb : B 4 t := by unfold B; omega
  have ty : 0 ≤ t * y := Int.mul_nonneg t0 y0
  have qb : B 130 (1 + t * y) := (B.add (n := 1) (by unfold B; decide) (tb.mul yb)).mono (by decide)
  refine ⟨tb.cm yb, by omega, (sb.mul nb).mono (by decide), qb.mono (by decide), rt_l (h _ _ ?_ (by omega) (by omega))⟩
  exact (divInt_b (n := 150) (by omega) ((sb.mul nb).mono (by decide)) (qb.mono (by decide))).mono (by decide)
end K42

set_option Elab.async false
set_option linter.all false
set_option maxRecDepth 100000
set_option maxHeartbeats 2000000
namespace K42
open PySem L2 FL FR
local macro_rules | `(tactic| walk_at "fl") => `(tactic| simp only [dSeq, dAsg, dgName, dVar, dC, dOp, dUn, dIxK, ixkR, itemsR, dTup, dLst, dCons, dNil, dCall, dCB, dIfS, dIf, dTestR, dTru, dTruR, dRet, dRetN, dNext, dDrop, dAnd, dOr, dNot, dAndV, dOrV, dNotV, dPar, dFor, dRg1, dRg2, dItems, dgTup, dgCons, dgNil, dZip, dZipR, dIsi, isTy, tgOf, tab, dApp, dgSub, dLstM, dVarF, dBreak, dCont, dSl, dSlR, dPart, dNoPart, dLcG, dChain, dAug, dEnum,
  qI, qI0, qNeg, qEq, qNe, qIsN, qNotN, isNone, eqOk, dIxR, cAbs, cInt, cLen, cSum, cMax2, cMin2, cTup, cList, cListM, eqv_ii, eqv_bb, kFro, kMut,
  endsD, sd1, sd2, sd3, getS, getC, datas, List.length_cons, List.length_nil, List.map_cons, List.map_nil, Option.map_some, List.set_cons_zero, List.set_cons_succ, List.replicate_succ, List.replicate_zero, List.getElem?_cons_zero, List.getElem?_cons_succ, List.cons_append, List.nil_append,
  Option.some.injEq, S.d.injEq, S.ref.injEq, PyData.int.injEq, PyData.bool.injEq, PyData.list.injEq, PyData.tuple.injEq, List.cons.injEq, and_true, true_and, exists_eq_left, exists_eq_left', exists_eq_right, exists_and_left, exists_and_right, exists_const, forall_const, imp_self, reduceCtorEq, false_and, and_false, decide_eq_true_eq, decide_eq_false_iff_not, Bool.not_eq_true', Bool.not_eq_false', ne_eq, Classical.not_not, Bool.true_eq_false, Bool.false_eq_true, Nat.reduceAdd, false_implies, true_implies, implies_true, sizeLine_eq, Nat.reduceLeDiff, decide_true, decide_false, Bool.not_true, Bool.not_false, decide_not])
local macro_rules | `(tactic| walk_at "fm") => `(tactic| simp only [rgS_len, wip, dSeq, ixk_l, ixk_t, ixk_r, ixr_l, ixr_t, ixr_s, ixr_r, tru_n, tru_b, tru_i, tru_l, tru_t, tru_s, tru_r, its_l, its_t, its_r, gtup_t, eqk_i, eqk_b, eqk_s, eqk_t, eqk_l, len_l, len_t, len_s, len_r, int_i, int_b, sum_l, sum_r, tup_l, tup_t, tup_r, lis_l, lis_t, lis_r, lim_l, lim_t, lim_r, zip_t, zip_l, sl_l, sl_t, sl_r, dAsg, dgName, dVar, dC, dOp, dUn, dIxK, dTup, dLst, dCons, dNil, dCall, dCB, dIfS, dIf, dTestR, dTru, dRet, dRetN, dNext, dDrop, dAnd, dOr, dNot, dAndV, dOrV, dNotV, dPar, dFor, dRg1, dRg2, dItems, dgCons, dgNil, dZip, dIsi, isTy, tgOf, tab, dApp, dgSub, dLstM, dVarF, dBreak, dCont, dSl, dPart, dNoPart, dLcG, dChain, dAug, dEnum,
  qI, qI0, qNeg, qEq, qNe, qIsN, qNotN, isNone, qIsB, qNotB, isB, addl_i, addl_t, addl_l, cAbs, cMax2, cMin2, eqv_ii, eqv_bb, kFro, kMut,
  endsD, sd1, sd2, sd3, getS, getC, datas, List.length_cons, List.length_nil, List.map_cons, List.map_nil, Option.map_some, List.set_cons_zero, List.set_cons_succ, List.replicate_succ, List.replicate_zero, List.getElem?_cons_zero, List.getElem?_cons_succ, List.cons_append, List.nil_append,
  Option.some.injEq, S.d.injEq, S.ref.injEq, PyData.int.injEq, PyData.bool.injEq, PyData.list.injEq, PyData.tuple.injEq, List.cons.injEq, and_true, true_and, exists_eq_left, exists_eq_left', exists_eq_right, exists_and_left, exists_and_right, exists_const, exists_eq', exists_eq, ixk_enc0, ixk_enc1, not_true_eq_false, not_false_eq_true, and_self, enc_eq, dOk_enc, dOk_int, eqv_enc, datas_si, datas_map, intsOf_map, and_assoc, List.length_map, List.length_append, forall_const, imp_self, reduceCtorEq, false_and, and_false, decide_eq_true_eq, decide_eq_false_iff_not, Bool.not_eq_true', Bool.not_eq_false', ne_eq, Classical.not_not, Bool.true_eq_false, Bool.false_eq_true, Nat.reduceAdd, false_implies, true_implies, implies_true, sizeLine_eq, Nat.reduceLeDiff, decide_true, decide_false, Bool.not_true, Bool.not_false, decide_not])
theorem getC_last : ∀ (gs : Sto) (x : Option (List S)), getC (gs ++ [x]) gs.length = x
  | [], _ => rfl
  | _ :: gs, x => getC_last gs x
theorem num_pos {r : Rat} : 0 < r.num ↔ 0 < r := by rw [Rat.lt_iff]; simp
theorem set_last (gs : Sto) (x y : Option (List S)) : (gs ++ [x]).set gs.length y = gs ++ [y] := by simp
theorem okc_ds {n : Nat} {row : List Int} {total pos p : Int} {gs : Sto} (h : Okc n (DS row total pos gs)) : Okc n (DS row total p gs) := fun k xs e x hx => by
  match k, e with
  | 1, e =>
    cases e
    have : x = si p := by simpa using hx
    subst this; trivial
  | 2, e => exact h 2 xs e x hx
  | k + 3, e => exact h (k + 3) xs e x hx
theorem rt_ds {row : List Int} {total pos p : Int} {gs : Sto} {R : RK} {x : PyData} (hs : Sto) (hc : Okc (DS row total pos gs).length (DS row total pos gs)) (h : R (.d x) (DS row total p gs)) : rtD (DS row total pos gs).length R (.d x) (DS row total p (gs ++ hs)) :=
  .inr ⟨DS row total p gs, hs, rfl, rfl, okc_ds hc, trivial, h⟩
theorem pk_u {p q : Int} (h : low p q = true) (hp : 0 < p) (h1 : B 60 p) (h2 : B 60 q) : ∃ u : Rat, PyData.tuple [.int p, .int q] = encR u ∧ 0 < u ∧ RB 60 u := by
  obtain ⟨e, hq⟩ := pair_low h
  refine ⟨_, e, ?_, divInt_b (by omega) h1 h2⟩
  have : (Rat.divInt p q).num = p := by
    unfold encR at e
    simp only [PyData.tuple.injEq, List.cons.injEq, PyData.int.injEq] at e
    exact e.1.symm
  exact num_pos.mp (by omega)
theorem m__law_units : ∀ xs cs R, xs.length = 2 → Okc cs.length cs → T__law_units xs cs R → rd__law_units (endsD cs.length R) (startD 4 xs) cs := by
  rintro xs cs R hl hc ⟨row, total, pos, gs, n, rfl, rfl, D, hp, hn, h⟩
  unfold rd__law_units
  walk_at "fm"
  refine ⟨by omega, by omega, ?_⟩
  rw [Int.toNat_natCast]
  refine for_rng n (fun k ρ cs' => ∃ us p o, us.length = k ∧ (∀ u ∈ us, RB 60 u ∧ 0 < u) ∧ pos ≤ p ∧ p ≤ pos + (k : Nat) ∧ ρ = [some (.ref 2), some (si (n : Nat)), some (.ref (gs.length + 3)), o] ∧ cs' = DS row total p (gs ++ [some (us.map sr)])) ?_ ?_ ⟨[], pos, _, rfl, by simp, by omega, by omega, rfl, rfl⟩
  · rintro ρ cs' ⟨us, p, o, hlen, hu, h0, h1, rfl, rfl⟩
    walk_at "fm"
    refine ⟨_, by rw [DS_get, getC_last], _, datas_sr us, rt_ds _ hc (h us p hlen ⟨⟨by omega, fun u hm => (hu u hm).1⟩, fun u hm => (hu u hm).2⟩ h0 (by omega))⟩
  · rintro k ρ cs' hk ⟨us, p, o, hlen, hu, h0, h1, rfl, rfl⟩ Z hz
    unfold rd__law_units_b1 T__law_pick
    walk_at "fm"
    refine ⟨⟨_, by rw [DS_get, getC_last]⟩, by unfold CPow; decide, by unfold CPow; decide, row, total, p, gs ++ [some (us.map sr)], rfl, D.next h0 (by omega), by decide, fun d hd => ?_⟩
    have all : ∀ d ∈ [PyData.tuple [.int 1, .int 1], .tuple [.int 1, .int 2], .tuple [.int 2, .int 3], .tuple [.int 7, .int 1], .tuple [.int 1, .int (10 ^ Int.toNat 12)], .tuple [.int (10 ^ Int.toNat 15 + 1), .int 3], .tuple [.int 1, .int 360]], ∃ u : Rat, d = encR u ∧ 0 < u ∧ RB 60 u := fun d hd => by
      simp only [List.mem_cons, List.not_mem_nil, or_false] at hd
      rcases hd with rfl | rfl | rfl | rfl | rfl | rfl | rfl <;> exact pk_u (by decide) (by decide) (by decide) (by decide)
    obtain ⟨u, rfl, u0, ub⟩ := all d hd
    refine ⟨_, by rw [DS_get, getC_last], by rw [List.length_map]; omega, hz _ _ ⟨us ++ [u], p + 1, _, by simp [hlen], ?_, by omega, by omega, rfl, ?_⟩⟩
    · intro x hx
      rcases List.mem_append.mp hx with z | z
      · exact hu x z
      · have : x = u := by simpa using z
        subst this; exact ⟨ub, u0⟩
    · rw [DS_set, set_last, List.map_append]
      rfl
theorem m__law_whole : ∀ xs cs R, xs.length = 2 → Okc cs.length cs → T__law_whole xs cs R → rd__law_whole (endsD cs.length R) (startD 5 xs) cs := by
  rintro xs cs R hl hc ⟨row, total, pos, gs, n, rfl, rfl, D, hp, hn, h⟩
  unfold rd__law_whole
  walk_at "fm"
  refine ⟨by omega, by omega, ?_⟩
  rw [Int.toNat_natCast]
  refine for_rng n (fun k ρ cs' => ∃ (ws : List (Int × Int)) (p : Int) (o o' : Option S), WOk k ws ∧ pos ≤ p ∧ p ≤ pos + 4 * (k : Nat) ∧ ρ = [some (.ref 2), some (si (n : Nat)), some (.ref (gs.length + 3)), o, o'] ∧ cs' = DS row total p (gs ++ [some (ws.map fun w => S.d (spanD w))])) ?_ ?_ ⟨[], pos, _, _, ⟨rfl, by simp⟩, by omega, by omega, rfl, rfl⟩
  · rintro ρ cs' ⟨ws, p, o, o', hw, h0, h1, rfl, rfl⟩
    walk_at "fm"
    refine ⟨_, by rw [DS_get, getC_last], _, datas_fn _ _, rt_ds _ hc (h ws p hw h0 (by omega))⟩
  · rintro k ρ cs' hk ⟨ws, p, o, o', hw, h0, h1, rfl, rfl⟩ Z hz
    unfold rd__law_whole_b1 T__law_pick T__law_take
    walk_at "fm"
    refine ⟨row, total, p, _, rfl, D.next h0 (by omega), by decide, fun v v0 v1 => ?_⟩
    refine ⟨by unfold CPow; decide, by unfold CPow; decide, row, total, p + 1, _, rfl, D.next (by omega) (by omega), by decide, fun d hd => ?_⟩
    obtain ⟨z, rfl, z0, zb⟩ := pk_b (n := 51) (ns := [1, 1, 10 ^ Int.toNat 6, 10 ^ Int.toNat 15]) rfl (by decide) d hd
    have vb : B 6 (v - 20) := by unfold B; omega
    walk_at "fm"
    refine ⟨vb.cm zb, row, total, _, _, rfl, D.next (by omega) (by omega), by decide, fun w w0 w1 => ?_⟩
    refine ⟨⟨_, by rw [DS_get, getC_last]⟩, by unfold CPow; decide, row, total, _, _, rfl, D.next (by omega) (by omega), by decide, fun d hd => ?_⟩
    obtain ⟨y, rfl, y0, yb⟩ := pk_b (n := 51) (ns := [0, 1, 5, 10 ^ Int.toNat 9]) rfl (by decide) d hd
    have wb : B 3 w := by unfold B; omega
    have lb : B 58 ((v - 20) * z + w) := ((vb.mul zb).add wb).mono (by decide)
    walk_at "fm"
    refine ⟨_, by rw [DS_get, getC_last], by rw [List.length_map, hw.1]; omega, hz _ _ ⟨ws ++ [((v - 20) * z + w, (v - 20) * z + w + y)], p + 4, _, _, ⟨by simp [hw.1], ?_⟩, by omega, by omega, rfl, ?_⟩⟩
    · intro x hx
      rcases List.mem_append.mp hx with q | q
      · exact hw.2 x q
      · have : x = ((v - 20) * z + w, (v - 20) * z + w + y) := by simpa using q
        subst this
        refine ⟨?_, lb.mono (by decide), (lb.add yb).mono (by decide)⟩
        show (v - 20) * z + w ≤ (v - 20) * z + w + y
        omega
    · rw [DS_set, set_last, List.map_append]
      have : p + 1 + 1 + 1 + 1 = p + 4 := by omega
      rw [this]
      rfl
end K42

set_option Elab.async false
set_option linter.all false
set_option maxRecDepth 100000
set_option maxHeartbeats 2000000
namespace K42
open PySem L2 FL FR
local macro_rules | `(tactic| walk_at "fl") => `(tactic| simp only [dSeq, dAsg, dgName, dVar, dC, dOp, dUn, dIxK, ixkR, itemsR, dTup, dLst, dCons, dNil, dCall, dCB, dIfS, dIf, dTestR, dTru, dTruR, dRet, dRetN, dNext, dDrop, dAnd, dOr, dNot, dAndV, dOrV, dNotV, dPar, dFor, dRg1, dRg2, dItems, dgTup, dgCons, dgNil, dZip, dZipR, dIsi, isTy, tgOf, tab, dApp, dgSub, dLstM, dVarF, dBreak, dCont, dSl, dSlR, dPart, dNoPart, dLcG, dChain, dAug, dEnum,
  qI, qI0, qNeg, qEq, qNe, qIsN, qNotN, isNone, eqOk, dIxR, cAbs, cInt, cLen, cSum, cMax2, cMin2, cTup, cList, cListM, eqv_ii, eqv_bb, kFro, kMut,
  endsD, sd1, sd2, sd3, getS, getC, datas, List.length_cons, List.length_nil, List.map_cons, List.map_nil, Option.map_some, List.set_cons_zero, List.set_cons_succ, List.replicate_succ, List.replicate_zero, List.getElem?_cons_zero, List.getElem?_cons_succ, List.cons_append, List.nil_append,
  Option.some.injEq, S.d.injEq, S.ref.injEq, PyData.int.injEq, PyData.bool.injEq, PyData.list.injEq, PyData.tuple.injEq, List.cons.injEq, and_true, true_and, exists_eq_left, exists_eq_left', exists_eq_right, exists_and_left, exists_and_right, exists_const, forall_const, imp_self, reduceCtorEq, false_and, and_false, decide_eq_true_eq, decide_eq_false_iff_not, Bool.not_eq_true', Bool.not_eq_false', ne_eq, Classical.not_not, Bool.true_eq_false, Bool.false_eq_true, Nat.reduceAdd, false_implies, true_implies, implies_true, sizeLine_eq, Nat.reduceLeDiff, decide_true, decide_false, Bool.not_true, Bool.not_false, decide_not])
local macro_rules | `(tactic| walk_at "fm") => `(tactic| simp only [rgS_len, wip, dSeq, ixk_l, ixk_t, ixk_r, ixr_l, ixr_t, ixr_s, ixr_r, tru_n, tru_b, tru_i, tru_l, tru_t, tru_s, tru_r, its_l, its_t, its_r, gtup_t, eqk_i, eqk_b, eqk_s, eqk_t, eqk_l, len_l, len_t, len_s, len_r, int_i, int_b, sum_l, sum_r, tup_l, tup_t, tup_r, lis_l, lis_t, lis_r, lim_l, lim_t, lim_r, zip_t, zip_l, sl_l, sl_t, sl_r, dAsg, dgName, dVar, dC, dOp, dUn, dIxK, dTup, dLst, dCons, dNil, dCall, dCB, dIfS, dIf, dTestR, dTru, dRet, dRetN, dNext, dDrop, dAnd, dOr, dNot, dAndV, dOrV, dNotV, dPar, dFor, dRg1, dRg2, dItems, dgCons, dgNil, dZip, dIsi, isTy, tgOf, tab, dApp, dgSub, dLstM, dVarF, dBreak, dCont, dSl, dPart, dNoPart, dLcG, dChain, dAug, dEnum,
  qI, qI0, qNeg, qEq, qNe, qIsN, qNotN, isNone, qIsB, qNotB, isB, addl_i, addl_t, addl_l, cAbs, cMax2, cMin2, eqv_ii, eqv_bb, kFro, kMut,
  endsD, sd1, sd2, sd3, getS, getC, datas, List.length_cons, List.length_nil, List.map_cons, List.map_nil, Option.map_some, List.set_cons_zero, List.set_cons_succ, List.replicate_succ, List.replicate_zero, List.getElem?_cons_zero, List.getElem?_cons_succ, List.cons_append, List.nil_append,
  Option.some.injEq, S.d.injEq, S.ref.injEq, PyData.int.injEq, PyData.bool.injEq, PyData.list.injEq, PyData.tuple.injEq, List.cons.injEq, and_true, true_and, exists_eq_left, exists_eq_left', exists_eq_right, exists_and_left, exists_and_right, exists_const, exists_eq', exists_eq, ixk_enc0, ixk_enc1, not_true_eq_false, not_false_eq_true, and_self, enc_eq, dOk_enc, dOk_int, eqv_enc, datas_si, datas_map, intsOf_map, and_assoc, List.length_map, List.length_append, forall_const, imp_self, reduceCtorEq, false_and, and_false, decide_eq_true_eq, decide_eq_false_iff_not, Bool.not_eq_true', Bool.not_eq_false', ne_eq, Classical.not_not, Bool.true_eq_false, Bool.false_eq_true, Nat.reduceAdd, false_implies, true_implies, implies_true, sizeLine_eq, Nat.reduceLeDiff, decide_true, decide_false, Bool.not_true, Bool.not_false, decide_not])
theorem low1_b {w : Rat} {s : Int × Int} (hw : RB 360 w) (h1 : B 60 s.1) (h2 : B 60 s.2) : RB 420 (low1 w s) := by
  unfold low1
  refine hw.mul (m := 60) (int_rb ?_)
  split
  · exact h1
  · exact h2
theorem m__law_worst : ∀ xs cs R, xs.length = 3 → Okc cs.length cs → T__law_worst xs cs R → rd__law_worst (endsD cs.length R) (startD 6 xs) cs := by
  rintro xs cs R hl hc ⟨us, fs, ws, rfl, hu, hf, hfb, hw, h⟩
  unfold rd__law_worst ratsD
  walk_at "fm"
  have hl4 := hu.len
  have hwl := hw.1
  refine ⟨by omega, by omega, ?_⟩
  rw [Int.toNat_natCast]
  have eL : List.zipWith low1 (muls fs us) ws = ((fs.zip us).zip ws).map fun p => low1 (p.1.1 * p.1.2) p.2 := by
    unfold muls
    rw [zw_map (fun x1 x2 => x1 * x2), zw_map, List.zip_map_left, List.map_map]
    rfl
  obtain ⟨L, hL, hLl, hLi⟩ : ∃ L : List Rat, List.zipWith low1 (muls fs us) ws = L ∧ L.length = us.length ∧ ∀ (k : Nat) (hk : k < us.length) (h1 : k < fs.length) (h2 : k < ws.length), L[k]? = some (low1 (fs[k] * us[k]) ws[k]) := by
    refine ⟨_, eL, ?_, fun k hk h1 h2 => ?_⟩
    · rw [List.length_map, List.length_zip, List.length_zip]; omega
    · rw [List.getElem?_map]
      have : ((fs.zip us).zip ws)[k]? = some ((fs[k], us[k]), ws[k]) := by
        rw [List.getElem?_eq_getElem (by rw [List.length_zip, List.length_zip]; omega)]
        simp
      rw [this]; rfl
  unfold worst at h
  rw [hL] at h
  refine for_rng us.length (fun k ρ cs' => cs' = cs ∧ ∃ r o o', r = (L.take k).foldl (· + ·) 0 ∧ RB (1 + 421 * k) r ∧ ρ = [some (.d (.tuple (us.map encR))), some (.d (.tuple (fs.map encR))), some (.d (.tuple (ws.map spanD))), some (sr r), o, o']) ?_ ?_ ⟨rfl, 0, _, _, rfl, ⟨by decide, by decide⟩, rfl⟩
  · rintro ρ cs' ⟨rfl, r, o, o', e, hb, rfl⟩
    walk_at "fm"
    rw [List.take_of_length_le (by omega)] at e
    rw [e]
    exact rt_l h
  · rintro k ρ cs' hk ⟨rfl, r, o, o', e, hb, rfl⟩ Z hz
    have hk1 : k < fs.length := by omega
    have hk2 : k < ws.length := by omega
    have wb : RB 360 (fs[k] * us[k]) := (hfb _ (List.getElem_mem hk1)).mul (hu.b _ (List.getElem_mem hk))
    have sb := hw.2 _ (List.getElem_mem hk2)
    unfold rd__law_worst_b1 T__law_mult T_times T__law_plus
    walk_at "fm"
    refine ⟨_, atI_map encR hk1, _, atI_map encR hk, ?_⟩
    walk_at "fm"
    refine ⟨(hfb _ (List.getElem_mem hk1)).mono (by decide), (hu.b _ (List.getElem_mem hk)).mono (by decide), ?_⟩
    have nx : ∀ (i : Int), (if 0 < (fs[k] * us[k]).num then ws[k].1 else ws[k].2) = i → Z [some (.d (.tuple (us.map encR))), some (.d (.tuple (fs.map encR))), some (.d (.tuple (ws.map spanD))), some (sr (r + fs[k] * us[k] * (i : Rat))), some (si (k : Nat)), some (sr (fs[k] * us[k]))] cs' := fun i hi => by
      have el : low1 (fs[k] * us[k]) ws[k] = fs[k] * us[k] * (i : Rat) := by unfold low1; rw [hi]
      rw [← el]
      refine hz _ _ ⟨rfl, r + low1 (fs[k] * us[k]) ws[k], _, _, ?_, (hb.add (low1_b wb sb.2.1 sb.2.2)).mono (by omega), rfl⟩
      rw [List.take_succ, hLi k hk hk1 hk2, List.foldl_append, ← e]; rfl
    have rb3 : RB 3000 r := hb.mono (by omega)
    have fb : ∀ i : Int, B 60 i → RB 3000 (fs[k] * us[k] * (i : Rat)) := fun i hi => (wb.mul (int_rb hi)).mono (by decide)
    refine ⟨fun hp => ⟨_, atI_map spanD hk2, ?_⟩, fun hp => ⟨_, atI_map spanD hk2, ?_⟩⟩
    · unfold spanD
      walk_at "fm"
      refine ⟨_, int_enc _, wb.mono (by decide), (int_rb sb.2.1).mono (by decide), rb3, fb _ sb.2.1, nx _ (if_pos (by omega))⟩
    · unfold spanD
      walk_at "fm"
      refine ⟨_, int_enc _, wb.mono (by decide), (int_rb sb.2.2).mono (by decide), rb3, fb _ sb.2.2, nx _ (if_neg (by omega))⟩
theorem fold_b {n : Nat} : ∀ (L : List Rat) (r : Rat) (m : Nat), (∀ x ∈ L, RB n x) → RB m r → RB (m + (n + 1) * L.length) (L.foldl (· + ·) r)
  | [], r, m, _, h => by simpa using h
  | x :: L, r, m, hx, h => by
    refine (fold_b L (r + x) (m + n + 1) (fun y hy => hx y (List.mem_cons_of_mem _ hy)) (h.add (hx x List.mem_cons_self))).mono ?_
    rw [List.length_cons, Nat.mul_add]
    omega
theorem worst_b {us fs : List Rat} {ws : List (Int × Int)} (hu : UOk us) (hfb : ∀ f ∈ fs, RB 300 f) (hw : WOk us.length ws) : RB 1700 (worst us fs ws) := by
  unfold worst
  have hl := hu.len
  refine (fold_b (n := 420) _ 0 1 (fun x hx => ?_) ⟨by decide, by decide⟩).mono ?_
  · rw [zw_map] at hx
    obtain ⟨p, hp, rfl⟩ := List.mem_map.mp hx
    have h1 := muls_b hu hfb p.1 (List.of_mem_zip (show (p.1, p.2) ∈ _ from hp)).1
    have h2 := hw.2 p.2 (List.of_mem_zip (show (p.1, p.2) ∈ _ from hp)).2
    exact low1_b h1 h2.2.1 h2.2.2
  · have : (List.zipWith low1 (muls fs us) ws).length ≤ 4 := by
      unfold muls
      rw [List.length_zipWith, List.length_zipWith]; omega
    omega
theorem m__law_holds : ∀ xs cs R, xs.length = 3 → Okc cs.length cs → T__law_holds xs cs R → rd__law_holds (endsD cs.length R) (startD 4 xs) cs := by
  rintro xs cs R hl hc ⟨us, ⟨fs, r, s⟩, ws, rfl, hu, hb, hw, h⟩
  have hfb : ∀ f ∈ fs, RB 300 f := hb.f
  have hrb : RB 1500 r := hb.r
  unfold rd__law_holds T__law_plus T__law_worst bndD
  walk_at "fm"
  refine ⟨us, rfl, fs, rfl, ws, rfl, hu, hb.len, hfb, hw, ?_⟩
  have wb := worst_b hu hfb hw
  refine ⟨wb.mono (by decide), hrb.mono (by decide), ?_⟩
  unfold due at h
  simp only at h
  generalize worst us fs ws + r = t at h
  refine ⟨fun h0 => ?_, fun h0 => ⟨fun h1 => ?_, fun h1 => ?_⟩⟩
  · rw [decide_eq_true h0, Bool.true_or] at h
    exact rt_l h
  · rw [decide_eq_false h0, decide_eq_true h1, Bool.false_or, Bool.true_and] at h
    exact rt_l h
  · rw [decide_eq_false h0, decide_eq_false h1, Bool.false_or, Bool.false_and] at h
    exact rt_l h
theorem m__law_sized : ∀ xs cs R, xs.length = 2 → Okc cs.length cs → T__law_sized xs cs R → rd__law_sized (endsD cs.length R) (startD 3 xs) cs := by
  rintro xs cs R hl hc ⟨⟨fs, r, s⟩, t, rfl, hb, hn, ht, h⟩
  have hfb : ∀ f ∈ fs, RB 300 f := hb.f
  have hrb : RB 1500 r := hb.r
  simp only at hn
  unfold rd__law_sized bndD ratsD
  walk_at "fm"
  rw [map_d]
  refine ⟨by omega, comp_map _ (fun f => sr (t * f)) trivial _ _ (fun f hf R hR => ?_) ⟨_, datas_fn _ _, ?_⟩⟩
  · unfold rd__law_sized_e1 T__law_mult T_times
    walk_at "fm"
    exact ⟨ht.mono (by decide), (hfb f hf).mono (by decide), hR⟩
  · unfold T__law_mult T_times
    walk_at "fm"
    refine ⟨ht.mono (by decide), hrb.mono (by decide), rt_l ?_⟩
    unfold sized bndD ratsD at h
    rw [List.map_map] at h
    exact h
end K42

set_option Elab.async false
set_option linter.all false
set_option maxRecDepth 100000
set_option maxHeartbeats 2000000
namespace K42
open PySem L2 FL FR
local macro_rules | `(tactic| walk_at "fl") => `(tactic| simp only [dSeq, dAsg, dgName, dVar, dC, dOp, dUn, dIxK, ixkR, itemsR, dTup, dLst, dCons, dNil, dCall, dCB, dIfS, dIf, dTestR, dTru, dTruR, dRet, dRetN, dNext, dDrop, dAnd, dOr, dNot, dAndV, dOrV, dNotV, dPar, dFor, dRg1, dRg2, dItems, dgTup, dgCons, dgNil, dZip, dZipR, dIsi, isTy, tgOf, tab, dApp, dgSub, dLstM, dVarF, dBreak, dCont, dSl, dSlR, dPart, dNoPart, dLcG, dChain, dAug, dEnum,
  qI, qI0, qNeg, qEq, qNe, qIsN, qNotN, isNone, eqOk, dIxR, cAbs, cInt, cLen, cSum, cMax2, cMin2, cTup, cList, cListM, eqv_ii, eqv_bb, kFro, kMut,
  endsD, sd1, sd2, sd3, getS, getC, datas, List.length_cons, List.length_nil, List.map_cons, List.map_nil, Option.map_some, List.set_cons_zero, List.set_cons_succ, List.replicate_succ, List.replicate_zero, List.getElem?_cons_zero, List.getElem?_cons_succ, List.cons_append, List.nil_append,
  Option.some.injEq, S.d.injEq, S.ref.injEq, PyData.int.injEq, PyData.bool.injEq, PyData.list.injEq, PyData.tuple.injEq, List.cons.injEq, and_true, true_and, exists_eq_left, exists_eq_left', exists_eq_right, exists_and_left, exists_and_right, exists_const, forall_const, imp_self, reduceCtorEq, false_and, and_false, decide_eq_true_eq, decide_eq_false_iff_not, Bool.not_eq_true', Bool.not_eq_false', ne_eq, Classical.not_not, Bool.true_eq_false, Bool.false_eq_true, Nat.reduceAdd, false_implies, true_implies, implies_true, sizeLine_eq, Nat.reduceLeDiff, decide_true, decide_false, Bool.not_true, Bool.not_false, decide_not])
local macro_rules | `(tactic| walk_at "fm") => `(tactic| simp only [rgS_len, wip, dSeq, ixk_l, ixk_t, ixk_r, ixr_l, ixr_t, ixr_s, ixr_r, tru_n, tru_b, tru_i, tru_l, tru_t, tru_s, tru_r, its_l, its_t, its_r, gtup_t, eqk_i, eqk_b, eqk_s, eqk_t, eqk_l, len_l, len_t, len_s, len_r, int_i, int_b, sum_l, sum_r, tup_l, tup_t, tup_r, lis_l, lis_t, lis_r, lim_l, lim_t, lim_r, zip_t, zip_l, sl_l, sl_t, sl_r, dAsg, dgName, dVar, dC, dOp, dUn, dIxK, dTup, dLst, dCons, dNil, dCall, dCB, dIfS, dIf, dTestR, dTru, dRet, dRetN, dNext, dDrop, dAnd, dOr, dNot, dAndV, dOrV, dNotV, dPar, dFor, dRg1, dRg2, dItems, dgCons, dgNil, dZip, dIsi, isTy, tgOf, tab, dApp, dgSub, dLstM, dVarF, dBreak, dCont, dSl, dPart, dNoPart, dLcG, dChain, dAug, dEnum,
  qI, qI0, qNeg, qEq, qNe, qIsN, qNotN, isNone, qIsB, qNotB, isB, addl_i, addl_t, addl_l, cAbs, cMax2, cMin2, eqv_ii, eqv_bb, kFro, kMut,
  endsD, sd1, sd2, sd3, getS, getC, datas, List.length_cons, List.length_nil, List.map_cons, List.map_nil, Option.map_some, List.set_cons_zero, List.set_cons_succ, List.replicate_succ, List.replicate_zero, List.getElem?_cons_zero, List.getElem?_cons_succ, List.cons_append, List.nil_append,
  Option.some.injEq, S.d.injEq, S.ref.injEq, PyData.int.injEq, PyData.bool.injEq, PyData.list.injEq, PyData.tuple.injEq, List.cons.injEq, and_true, true_and, exists_eq_left, exists_eq_left', exists_eq_right, exists_and_left, exists_and_right, exists_const, exists_eq', exists_eq, ixk_enc0, ixk_enc1, not_true_eq_false, not_false_eq_true, and_self, enc_eq, dOk_enc, dOk_int, eqv_enc, datas_si, datas_map, intsOf_map, and_assoc, List.length_map, List.length_append, forall_const, imp_self, reduceCtorEq, false_and, and_false, decide_eq_true_eq, decide_eq_false_iff_not, Bool.not_eq_true', Bool.not_eq_false', ne_eq, Classical.not_not, Bool.true_eq_false, Bool.false_eq_true, Nat.reduceAdd, false_implies, true_implies, implies_true, sizeLine_eq, Nat.reduceLeDiff, decide_true, decide_false, Bool.not_true, Bool.not_false, decide_not])
/-! plain: whole tests by one number that makes all whole -/
abbrev gf (ns : List Int) (g : Nat) : Nat := ns.foldl (fun g n => Int.gcd n (g : Nat)) g
theorem gf_dvd : ∀ (ns : List Int) (g : Nat), gf ns g ∣ g ∧ ∀ n ∈ ns, ((gf ns g : Nat) : Int) ∣ n
  | [], g => ⟨Nat.dvd_refl _, by simp⟩
  | n :: ns, g => by
    obtain ⟨h1, h2⟩ := gf_dvd ns (Int.gcd n g)
    have h3 : gf (n :: ns) g = gf ns (Int.gcd n g) := rfl
    rw [h3]
    refine ⟨Nat.dvd_trans h1 (by simpa using Int.gcd_dvd_natAbs_right n (g : Int)), fun x hx => ?_⟩
    rcases List.mem_cons.mp hx with rfl | hx
    · exact Int.dvd_trans (Int.natCast_dvd_natCast.mpr h1) (Int.gcd_dvd_left _ _)
    · exact h2 x hx
theorem gcdL_dvd {ns : List Int} {n : Int} (h : n ∈ ns) : ((gcdL ns : Nat) : Int) ∣ n := (gf_dvd ns 0).2 n h
theorem gf_mul (k : Nat) : ∀ (ns : List Int) (g : Nat), gf (ns.map (· * (k : Int))) (g * k) = gf ns g * k
  | [], g => rfl
  | n :: ns, g => by
    have e : Int.gcd (n * (k : Int)) ((g * k : Nat) : Int) = Int.gcd n g * k := by
      rw [Int.natCast_mul, Int.gcd_mul_right]; simp
    show gf (ns.map (· * (k : Int))) (Int.gcd (n * (k : Int)) ((g * k : Nat) : Int)) = gf ns (Int.gcd n g) * k
    rw [e]
    exact gf_mul k ns _
theorem gcdL_mul (k : Nat) (ns : List Int) : gcdL (ns.map (· * (k : Int))) = gcdL ns * k := by
  have := gf_mul k ns 0
  rw [Nat.zero_mul] at this
  exact this
theorem gf_zero : ∀ (ns : List Int) (g : Nat), gf ns g = 0 → ∀ n ∈ ns, n = 0
  | [], _, _ => by simp
  | n :: ns, g, h => fun x hx => by
    have h3 : gf ns (Int.gcd n g) = 0 := h
    rcases List.mem_cons.mp hx with rfl | hx
    · have h1 := (gf_dvd ns (Int.gcd x g)).1
      rw [h3] at h1
      exact (Int.gcd_eq_zero_iff.mp (Nat.eq_zero_of_zero_dvd h1)).1
    · exact gf_zero ns _ h3 x hx
theorem gcdL_zero {ns : List Int} (h : gcdL ns = 0) : ∀ n ∈ ns, n = 0 := gf_zero ns 0 h
/-- as many as the sum takes -/
def fl (s : Bool) (x : Rat) : Int := if s then x.ceil - 1 else x.floor
theorem le_ext {a b : Int} (h : ∀ x : Int, x ≤ a ↔ x ≤ b) : a = b := by
  have h1 := (h a).mp (Int.le_refl _)
  have h2 := (h b).mpr (Int.le_refl _)
  omega
theorem natCast_pos' {G : Nat} (h : 0 < G) : (0 : Rat) < ((G : Int) : Rat) := by
  have : ((0 : Int) : Rat) < ((G : Int) : Rat) := Rat.intCast_lt_intCast.mpr (by omega)
  simpa using this
theorem floor_frac (A : Int) {G : Nat} (h : 0 < G) : ((A : Rat) / ((G : Int) : Rat)).floor = A / (G : Int) := by
  refine le_ext fun x => ?_
  rw [Rat.le_floor_iff, Int.le_ediv_iff_mul_le (by omega)]
  have hg := natCast_pos' h
  rw [← Rat.intCast_le_intCast, Rat.intCast_mul, ← Rat.not_lt, Rat.div_lt_iff hg, Rat.not_lt]
theorem fl_frac (A : Int) {G : Nat} (h : 0 < G) (s : Bool) : (A - one s) / (G : Int) = fl s ((A : Rat) / ((G : Int) : Rat)) := by
  unfold fl one
  cases s
  · simp [floor_frac A h]
  · rw [if_pos rfl, if_pos rfl, Rat.ceil_eq_neg_floor_neg]
    have e : -((A : Rat) / ((G : Int) : Rat)) = ((-A : Int) : Rat) / ((G : Int) : Rat) := by
      rw [Rat.intCast_neg, Rat.div_def, Rat.div_def, Rat.neg_mul]
    rw [e, floor_frac (-A) h]
    refine le_ext fun x => ?_
    rw [Int.le_ediv_iff_mul_le (by omega)]
    have : x ≤ -(-A / (G : Int)) - 1 ↔ -A / (G : Int) < -x := by omega
    rw [this, Int.ediv_lt_iff_lt_mul (by omega)]
    rw [Int.neg_mul]
    omega
/-- the least whole row in a direction, and as many as the sum takes -/
structure Norm (v : List Rat) (r : Rat) (s : Bool) (t : Tst) (c : Rat) : Prop where
  pos : 0 < c
  row : t.1.map (fun n : Int => (n : Rat)) = v.map (c * ·)
  one : gcdL t.1 = 1
  num : t.2 = fl s (c * r)
theorem mul_den (w : Rat) : w * ((w.den : Int) : Rat) = (w.num : Rat) := by
  have h : (w.num : Rat) / ((w.den : Int) : Rat) = w := by rw [← Rat.divInt_eq_div]; exact rat_eta w
  have hp := natCast_pos' (Nat.pos_of_ne_zero w.den_nz)
  have hne : ((w.den : Int) : Rat) ≠ 0 := fun z => by rw [z] at hp; exact absurd hp Rat.lt_irrefl
  have := Rat.div_mul_cancel (a := (w.num : Rat)) hne
  rw [h] at this
  exact this
theorem cut_rat {M : Nat} {w : Rat} (h : w.den ∣ M) : ((cut M w : Int) : Rat) = (M : Int) * w := by
  obtain ⟨k, rfl⟩ := h
  have hd := den_pos w
  have e : cut (w.den * k) w = w.num * (k : Int) := by
    unfold cut
    rw [Int.natCast_mul, Int.mul_ediv_cancel_left _ (by omega)]
  rw [e, Rat.intCast_mul, Int.natCast_mul, Rat.intCast_mul]
  have e2 : ((w.den : Int) : Rat) * w = (w.num : Rat) := by
    rw [Rat.mul_comm]
    exact mul_den w
  rw [Rat.mul_comm ((w.den : Int) : Rat), Rat.mul_assoc, e2, Rat.mul_comm]
theorem lcm_fold_dvd : ∀ (rs : List Rat) (m : Nat), m ∣ rs.foldl (fun m r => Nat.lcm m r.den) m ∧ ∀ r ∈ rs, r.den ∣ rs.foldl (fun m r => Nat.lcm m r.den) m
  | [], m => ⟨Nat.dvd_refl _, by simp⟩
  | r :: rs, m => by
    obtain ⟨h1, h2⟩ := lcm_fold_dvd rs (Nat.lcm m r.den)
    refine ⟨Nat.dvd_trans (Nat.dvd_lcm_left _ _) h1, fun x hx => ?_⟩
    rcases List.mem_cons.mp hx with rfl | hx
    · exact Nat.dvd_trans (Nat.dvd_lcm_right _ _) h1
    · exact h2 x hx
theorem lcmD_dvd {rs : List Rat} {r : Rat} (h : r ∈ rs) : r.den ∣ lcmD rs := (lcm_fold_dvd rs 1).2 r h
theorem lcm_fold_pos : ∀ (rs : List Rat) (m : Nat), 0 < m → 0 < rs.foldl (fun m r => Nat.lcm m r.den) m
  | [], m, h => h
  | r :: rs, m, h => lcm_fold_pos rs _ (Nat.lcm_pos h (Nat.pos_of_ne_zero r.den_nz))
theorem lcmD_pos (rs : List Rat) : 0 < lcmD rs := lcm_fold_pos rs 1 (by decide)
theorem row_norm {v : List Rat} {M : Nat} (hM : 0 < M) (hd : ∀ w ∈ v, w.den ∣ M) (hG : 0 < gcdL (v.map (cut M))) :
    ((v.map (cut M)).map (· / (gcdL (v.map (cut M)) : Int))).map (fun n : Int => (n : Rat)) = v.map (fun w => ((M : Int) : Rat) / ((gcdL (v.map (cut M)) : Nat) : Int) * w) ∧ gcdL ((v.map (cut M)).map (· / (gcdL (v.map (cut M)) : Int))) = 1 := by
  have hdv : ∀ n ∈ v.map (cut M), ((gcdL (v.map (cut M)) : Nat) : Int) ∣ n := fun n hn => gcdL_dvd hn
  have hg := natCast_pos' hG
  generalize hGG : gcdL (v.map (cut M)) = G at hG hdv hg ⊢
  constructor
  · rw [List.map_map, List.map_map]
    refine List.map_congr_left fun w hw => ?_
    show ((cut M w / (G : Int) : Int) : Rat) = _
    obtain ⟨k, hk⟩ := hdv _ (List.mem_map_of_mem hw)
    have e := cut_rat (hd w hw)
    rw [hk, Int.mul_ediv_cancel_left _ (by omega)]
    rw [hk, Rat.intCast_mul] at e
    have hne : ((G : Int) : Rat) ≠ 0 := fun z => by rw [z] at hg; exact absurd hg Rat.lt_irrefl
    rw [Rat.div_def, Rat.mul_assoc, Rat.mul_comm _ w, ← Rat.mul_assoc, ← e, Rat.mul_comm ((G : Int) : Rat), Rat.mul_assoc, Rat.mul_inv_cancel _ hne, Rat.mul_one]
  · have e : ((v.map (cut M)).map (· / (G : Int))).map (· * (G : Int)) = v.map (cut M) := by
      rw [List.map_map]
      conv => rhs; rw [← List.map_id (v.map (cut M))]
      refine List.map_congr_left fun n hn => ?_
      exact Int.ediv_mul_cancel (hdv n hn)
    have := gcdL_mul G ((v.map (cut M)).map (· / (G : Int)))
    rw [e, hGG] at this
    exact Nat.eq_of_mul_eq_mul_right hG (by omega)
end K42

set_option Elab.async false
set_option linter.all false
set_option maxRecDepth 100000
set_option maxHeartbeats 2000000
namespace K42
open PySem L2 FL FR
local macro_rules | `(tactic| walk_at "fl") => `(tactic| simp only [dSeq, dAsg, dgName, dVar, dC, dOp, dUn, dIxK, ixkR, itemsR, dTup, dLst, dCons, dNil, dCall, dCB, dIfS, dIf, dTestR, dTru, dTruR, dRet, dRetN, dNext, dDrop, dAnd, dOr, dNot, dAndV, dOrV, dNotV, dPar, dFor, dRg1, dRg2, dItems, dgTup, dgCons, dgNil, dZip, dZipR, dIsi, isTy, tgOf, tab, dApp, dgSub, dLstM, dVarF, dBreak, dCont, dSl, dSlR, dPart, dNoPart, dLcG, dChain, dAug, dEnum,
  qI, qI0, qNeg, qEq, qNe, qIsN, qNotN, isNone, eqOk, dIxR, cAbs, cInt, cLen, cSum, cMax2, cMin2, cTup, cList, cListM, eqv_ii, eqv_bb, kFro, kMut,
  endsD, sd1, sd2, sd3, getS, getC, datas, List.length_cons, List.length_nil, List.map_cons, List.map_nil, Option.map_some, List.set_cons_zero, List.set_cons_succ, List.replicate_succ, List.replicate_zero, List.getElem?_cons_zero, List.getElem?_cons_succ, List.cons_append, List.nil_append,
  Option.some.injEq, S.d.injEq, S.ref.injEq, PyData.int.injEq, PyData.bool.injEq, PyData.list.injEq, PyData.tuple.injEq, List.cons.injEq, and_true, true_and, exists_eq_left, exists_eq_left', exists_eq_right, exists_and_left, exists_and_right, exists_const, forall_const, imp_self, reduceCtorEq, false_and, and_false, decide_eq_true_eq, decide_eq_false_iff_not, Bool.not_eq_true', Bool.not_eq_false', ne_eq, Classical.not_not, Bool.true_eq_false, Bool.false_eq_true, Nat.reduceAdd, false_implies, true_implies, implies_true, sizeLine_eq, Nat.reduceLeDiff, decide_true, decide_false, Bool.not_true, Bool.not_false, decide_not])
local macro_rules | `(tactic| walk_at "fm") => `(tactic| simp only [rgS_len, wip, dSeq, ixk_l, ixk_t, ixk_r, ixr_l, ixr_t, ixr_s, ixr_r, tru_n, tru_b, tru_i, tru_l, tru_t, tru_s, tru_r, its_l, its_t, its_r, gtup_t, eqk_i, eqk_b, eqk_s, eqk_t, eqk_l, len_l, len_t, len_s, len_r, int_i, int_b, sum_l, sum_r, tup_l, tup_t, tup_r, lis_l, lis_t, lis_r, lim_l, lim_t, lim_r, zip_t, zip_l, sl_l, sl_t, sl_r, dAsg, dgName, dVar, dC, dOp, dUn, dIxK, dTup, dLst, dCons, dNil, dCall, dCB, dIfS, dIf, dTestR, dTru, dRet, dRetN, dNext, dDrop, dAnd, dOr, dNot, dAndV, dOrV, dNotV, dPar, dFor, dRg1, dRg2, dItems, dgCons, dgNil, dZip, dIsi, isTy, tgOf, tab, dApp, dgSub, dLstM, dVarF, dBreak, dCont, dSl, dPart, dNoPart, dLcG, dChain, dAug, dEnum,
  qI, qI0, qNeg, qEq, qNe, qIsN, qNotN, isNone, qIsB, qNotB, isB, addl_i, addl_t, addl_l, cAbs, cMax2, cMin2, eqv_ii, eqv_bb, kFro, kMut,
  endsD, sd1, sd2, sd3, getS, getC, datas, List.length_cons, List.length_nil, List.map_cons, List.map_nil, Option.map_some, List.set_cons_zero, List.set_cons_succ, List.replicate_succ, List.replicate_zero, List.getElem?_cons_zero, List.getElem?_cons_succ, List.cons_append, List.nil_append,
  Option.some.injEq, S.d.injEq, S.ref.injEq, PyData.int.injEq, PyData.bool.injEq, PyData.list.injEq, PyData.tuple.injEq, List.cons.injEq, and_true, true_and, exists_eq_left, exists_eq_left', exists_eq_right, exists_and_left, exists_and_right, exists_const, exists_eq', exists_eq, ixk_enc0, ixk_enc1, not_true_eq_false, not_false_eq_true, and_self, enc_eq, dOk_enc, dOk_int, eqv_enc, datas_si, datas_map, intsOf_map, and_assoc, List.length_map, List.length_append, forall_const, imp_self, reduceCtorEq, false_and, and_false, decide_eq_true_eq, decide_eq_false_iff_not, Bool.not_eq_true', Bool.not_eq_false', ne_eq, Classical.not_not, Bool.true_eq_false, Bool.false_eq_true, Nat.reduceAdd, false_implies, true_implies, implies_true, sizeLine_eq, Nat.reduceLeDiff, decide_true, decide_false, Bool.not_true, Bool.not_false, decide_not])
theorem map_cut_zero {M : Nat} {v : List Rat} (hM : 0 < M) (hd : ∀ w ∈ v, w.den ∣ M) (h : gcdL (v.map (cut M)) = 0) : ∀ w ∈ v, w = 0 := fun w hw => by
  have h0 := gcdL_zero h _ (List.mem_map_of_mem hw)
  have e := cut_rat (hd w hw)
  rw [h0] at e
  have hp := natCast_pos' hM
  have hne : ((M : Int) : Rat) ≠ 0 := fun z => by rw [z] at hp; exact absurd hp Rat.lt_irrefl
  rcases Rat.mul_eq_zero.mp e.symm with z | z
  · exact absurd z hne
  · exact z
theorem dvd_app {v : List Rat} {r : Rat} : (∀ w ∈ v, w.den ∣ lcmD (v ++ [r])) ∧ r.den ∣ lcmD (v ++ [r]) :=
  ⟨fun w hw => lcmD_dvd (List.mem_append_left _ hw), lcmD_dvd (by simp)⟩
theorem wt_norm {v : List Rat} {r : Rat} {s : Bool} (h : ∃ w ∈ v, w ≠ 0) : ∃ c, Norm v r s (wt v r s) c := by
  obtain ⟨hd, hr⟩ := dvd_app (v := v) (r := r)
  have hM := lcmD_pos (v ++ [r])
  unfold wt
  simp only
  generalize lcmD (v ++ [r]) = M at hd hr hM ⊢
  have hG : 0 < gcdL (v.map (cut M)) := Nat.pos_of_ne_zero fun z => by
    obtain ⟨w, hw, hne⟩ := h
    exact hne (map_cut_zero hM hd z w hw)
  obtain ⟨h1, h2⟩ := row_norm hM hd hG
  have e : wt0 (v.map (cut M)) (cut M r - one s) = ((v.map (cut M)).map (· / (gcdL (v.map (cut M)) : Int)), (cut M r - one s) / (gcdL (v.map (cut M)) : Int)) := by
    unfold wt0
    simp only
    by_cases h1 : 1 < gcdL (v.map (cut M))
    · rw [if_pos h1]
    · rw [if_neg h1]
      have : gcdL (v.map (cut M)) = 1 := by omega
      rw [this]
      simp
  rw [e]
  refine ⟨_, ?_, h1, h2, ?_⟩
  · rw [Rat.div_def]
    exact Rat.mul_pos (natCast_pos' hM) (Rat.inv_pos.mpr (natCast_pos' hG))
  · show (cut M r - one s) / (gcdL (v.map (cut M)) : Int) = _
    rw [fl_frac _ hG, cut_rat hr, Rat.div_def, Rat.div_def, Rat.mul_assoc, Rat.mul_comm r, ← Rat.mul_assoc]
theorem law_norm {v : List Rat} {r : Rat} {s : Bool} (hG : 0 < gcdL (v.map (cut (lcmD v)))) :
    Norm v r s ((v.map (cut (lcmD v))).map (· / (gcdL (v.map (cut (lcmD v))) : Int)), fl s (r / Rat.divInt (gcdL (v.map (cut (lcmD v))) : Nat) (lcmD v : Nat))) (((lcmD v : Int) : Rat) / ((gcdL (v.map (cut (lcmD v))) : Nat) : Int)) := by
  have hM := lcmD_pos v
  obtain ⟨h1, h2⟩ := row_norm hM (fun w hw => lcmD_dvd hw) hG
  refine ⟨?_, h1, h2, ?_⟩
  · rw [Rat.div_def]
    exact Rat.mul_pos (natCast_pos' hM) (Rat.inv_pos.mpr (natCast_pos' hG))
  · show fl s _ = fl s _
    congr 1
    rw [Rat.divInt_eq_div]
    have p1 := natCast_pos' hM
    have p2 := natCast_pos' hG
    generalize ((lcmD v : Int) : Rat) = L at p1 ⊢
    generalize ((gcdL (v.map (cut (lcmD v))) : Int) : Rat) = G at p2 ⊢
    have q1 : L ≠ 0 := fun z => by rw [z] at p1; exact absurd p1 Rat.lt_irrefl
    have q2 : G ≠ 0 := fun z => by rw [z] at p2; exact absurd p2 Rat.lt_irrefl
    grind
theorem map_mul_inj {a b : Nat} : ∀ {xs ys : List Int}, xs.map (· * (a : Int)) = ys.map (· * (b : Int)) → a = b → 0 < a → xs = ys
  | [], [], _, _, _ => rfl
  | [], _ :: _, h, _, _ => by simp at h
  | _ :: _, [], h, _, _ => by simp at h
  | x :: xs, y :: ys, h, e, hp => by
    subst e
    simp only [List.map_cons, List.cons.injEq] at h
    rw [map_mul_inj h.2 rfl hp, Int.eq_of_mul_eq_mul_right (by omega) h.1]
theorem norm_uniq {v : List Rat} {r : Rat} {s : Bool} {t t' : Tst} {c c' : Rat} (h : Norm v r s t c) (h' : Norm v r s t' c') : t = t' := by
  -- c' a = c b over whole numbers
  obtain ⟨a, b, ha, hb, e⟩ : ∃ a b : Nat, 0 < a ∧ 0 < b ∧ c' * ((a : Int) : Rat) = c * ((b : Int) : Rat) := by
    have hc : 0 < c.num := num_pos.mpr h.pos
    have hc' : 0 < c'.num := num_pos.mpr h'.pos
    refine ⟨c'.den * c.num.toNat, c.den * c'.num.toNat, Nat.mul_pos (Nat.pos_of_ne_zero c'.den_nz) (by omega), Nat.mul_pos (Nat.pos_of_ne_zero c.den_nz) (by omega), ?_⟩
    have e1 : ((c.num.toNat : Nat) : Int) = c.num := by omega
    have e2 : ((c'.num.toNat : Nat) : Int) = c'.num := by omega
    rw [Int.natCast_mul, Int.natCast_mul, e1, e2, Rat.intCast_mul, Rat.intCast_mul, ← Rat.mul_assoc, ← Rat.mul_assoc, mul_den, mul_den, Rat.mul_comm]
  have rows : t'.1.map (· * (a : Int)) = t.1.map (· * (b : Int)) := by
    have cast_inj : ∀ {xs ys : List Int}, xs.map (fun n : Int => (n : Rat)) = ys.map (fun n : Int => (n : Rat)) → xs = ys := fun {xs ys} hh => by
      induction xs generalizing ys with
      | nil => cases ys with
        | nil => rfl
        | cons y ys => simp at hh
      | cons x xs ih => cases ys with
        | nil => simp at hh
        | cons y ys =>
          simp only [List.map_cons, List.cons.injEq] at hh
          rw [ih hh.2, Rat.intCast_inj.mp hh.1]
    refine cast_inj ?_
    have k1 : (t'.1.map (· * (a : Int))).map (fun n : Int => (n : Rat)) = (t'.1.map (fun n : Int => (n : Rat))).map (· * ((a : Int) : Rat)) := by
      rw [List.map_map, List.map_map]
      exact List.map_congr_left fun n _ => Rat.intCast_mul ..
    have k2 : (t.1.map (· * (b : Int))).map (fun n : Int => (n : Rat)) = (t.1.map (fun n : Int => (n : Rat))).map (· * ((b : Int) : Rat)) := by
      rw [List.map_map, List.map_map]
      exact List.map_congr_left fun n _ => Rat.intCast_mul ..
    rw [k1, k2, h.row, h'.row, List.map_map, List.map_map]
    refine List.map_congr_left fun w _ => ?_
    show c' * w * ((a : Int) : Rat) = c * w * ((b : Int) : Rat)
    rw [Rat.mul_assoc, Rat.mul_comm w, ← Rat.mul_assoc, e, Rat.mul_assoc, Rat.mul_comm _ w, ← Rat.mul_assoc]
  have g1 := gcdL_mul a t'.1
  have g2 := gcdL_mul b t.1
  rw [rows, g2, h.one, h'.one] at g1
  have hab : a = b := by omega
  have hr : t'.1 = t.1 := map_mul_inj rows hab ha
  have hcc : c' = c := by
    subst hab
    have hp := natCast_pos' ha
    have hne : ((a : Int) : Rat) ≠ 0 := fun z => by rw [z] at hp; exact absurd hp Rat.lt_irrefl
    have := congrArg (· * ((a : Int) : Rat)⁻¹) e
    simp only [Rat.mul_assoc, Rat.mul_inv_cancel _ hne, Rat.mul_one] at this
    exact this
  have hn : t'.2 = t.2 := by rw [h.num, h'.num, hcc]
  exact Prod.ext hr.symm hn.symm
theorem norm_sized {v : List Rat} {r t : Rat} {s : Bool} {u : Tst} {c : Rat} (ht : 0 < t) (h : Norm (v.map (t * ·)) (t * r) s u c) : Norm v r s u (c * t) where
  pos := Rat.mul_pos h.pos ht
  row := by
    rw [h.row, List.map_map]
    exact List.map_congr_left fun w _ => (Rat.mul_assoc ..).symm
  one := h.one
  num := by rw [h.num, Rat.mul_assoc]
theorem wt_zero {v : List Rat} {r : Rat} {s : Bool} (h : ∀ w ∈ v, w = 0) : wt v r s = (v.map (cut (lcmD v)), r.num - one s) := by
  have e1 : ∀ M, v.map (cut M) = v.map fun _ => (0 : Int) := fun M => List.map_congr_left fun w hw => by rw [h w hw]; simp [cut]
  have e2 : gcdL (v.map fun _ => (0 : Int)) = 0 := by
    have : ∀ (v : List Rat), gf (v.map fun _ => (0 : Int)) 0 = 0 := fun v => by
      induction v with
      | nil => rfl
      | cons w v ih =>
        have h0 : Int.gcd 0 ((0 : Nat) : Int) = 0 := by decide
        show gf (v.map fun _ => (0 : Int)) (Int.gcd 0 ((0 : Nat) : Int)) = 0
        rw [h0]
        exact ih
    exact this v
  have e3 : lcmD v = 1 := by
    have : ∀ (v : List Rat), (∀ w ∈ v, w = 0) → v.foldl (fun m r => Nat.lcm m r.den) 1 = 1 := fun v => by
      induction v with
      | nil => intro _; rfl
      | cons w v ih =>
        intro hv
        have h0 : w = 0 := hv w List.mem_cons_self
        subst h0
        exact ih fun x hx => hv x (List.mem_cons_of_mem _ hx)
    exact this v h
  unfold wt wt0
  simp only
  rw [e1, e1, e2, if_neg (by decide), lcmD_app, e3]
  refine Prod.ext rfl ?_
  show cut (Nat.lcm 1 r.den) r - one s = _
  rw [Nat.lcm_one_left]
  unfold cut
  rw [Int.ediv_self (den_ne r), Int.mul_one]
end K42

set_option Elab.async false
set_option linter.all false
set_option maxRecDepth 100000
set_option maxHeartbeats 2000000
namespace K42
open PySem L2 FL FR
local macro_rules | `(tactic| walk_at "fl") => `(tactic| simp only [dSeq, dAsg, dgName, dVar, dC, dOp, dUn, dIxK, ixkR, itemsR, dTup, dLst, dCons, dNil, dCall, dCB, dIfS, dIf, dTestR, dTru, dTruR, dRet, dRetN, dNext, dDrop, dAnd, dOr, dNot, dAndV, dOrV, dNotV, dPar, dFor, dRg1, dRg2, dItems, dgTup, dgCons, dgNil, dZip, dZipR, dIsi, isTy, tgOf, tab, dApp, dgSub, dLstM, dVarF, dBreak, dCont, dSl, dSlR, dPart, dNoPart, dLcG, dChain, dAug, dEnum,
  qI, qI0, qNeg, qEq, qNe, qIsN, qNotN, isNone, eqOk, dIxR, cAbs, cInt, cLen, cSum, cMax2, cMin2, cTup, cList, cListM, eqv_ii, eqv_bb, kFro, kMut,
  endsD, sd1, sd2, sd3, getS, getC, datas, List.length_cons, List.length_nil, List.map_cons, List.map_nil, Option.map_some, List.set_cons_zero, List.set_cons_succ, List.replicate_succ, List.replicate_zero, List.getElem?_cons_zero, List.getElem?_cons_succ, List.cons_append, List.nil_append,
  Option.some.injEq, S.d.injEq, S.ref.injEq, PyData.int.injEq, PyData.bool.injEq, PyData.list.injEq, PyData.tuple.injEq, List.cons.injEq, and_true, true_and, exists_eq_left, exists_eq_left', exists_eq_right, exists_and_left, exists_and_right, exists_const, forall_const, imp_self, reduceCtorEq, false_and, and_false, decide_eq_true_eq, decide_eq_false_iff_not, Bool.not_eq_true', Bool.not_eq_false', ne_eq, Classical.not_not, Bool.true_eq_false, Bool.false_eq_true, Nat.reduceAdd, false_implies, true_implies, implies_true, sizeLine_eq, Nat.reduceLeDiff, decide_true, decide_false, Bool.not_true, Bool.not_false, decide_not])
local macro_rules | `(tactic| walk_at "fm") => `(tactic| simp only [rgS_len, wip, dSeq, ixk_l, ixk_t, ixk_r, ixr_l, ixr_t, ixr_s, ixr_r, tru_n, tru_b, tru_i, tru_l, tru_t, tru_s, tru_r, its_l, its_t, its_r, gtup_t, eqk_i, eqk_b, eqk_s, eqk_t, eqk_l, len_l, len_t, len_s, len_r, int_i, int_b, sum_l, sum_r, tup_l, tup_t, tup_r, lis_l, lis_t, lis_r, lim_l, lim_t, lim_r, zip_t, zip_l, sl_l, sl_t, sl_r, dAsg, dgName, dVar, dC, dOp, dUn, dIxK, dTup, dLst, dCons, dNil, dCall, dCB, dIfS, dIf, dTestR, dTru, dRet, dRetN, dNext, dDrop, dAnd, dOr, dNot, dAndV, dOrV, dNotV, dPar, dFor, dRg1, dRg2, dItems, dgCons, dgNil, dZip, dIsi, isTy, tgOf, tab, dApp, dgSub, dLstM, dVarF, dBreak, dCont, dSl, dPart, dNoPart, dLcG, dChain, dAug, dEnum,
  qI, qI0, qNeg, qEq, qNe, qIsN, qNotN, isNone, qIsB, qNotB, isB, addl_i, addl_t, addl_l, cAbs, cMax2, cMin2, eqv_ii, eqv_bb, kFro, kMut,
  endsD, sd1, sd2, sd3, getS, getC, datas, List.length_cons, List.length_nil, List.map_cons, List.map_nil, Option.map_some, List.set_cons_zero, List.set_cons_succ, List.replicate_succ, List.replicate_zero, List.getElem?_cons_zero, List.getElem?_cons_succ, List.cons_append, List.nil_append,
  Option.some.injEq, S.d.injEq, S.ref.injEq, PyData.int.injEq, PyData.bool.injEq, PyData.list.injEq, PyData.tuple.injEq, List.cons.injEq, and_true, true_and, exists_eq_left, exists_eq_left', exists_eq_right, exists_and_left, exists_and_right, exists_const, exists_eq', exists_eq, ixk_enc0, ixk_enc1, not_true_eq_false, not_false_eq_true, and_self, enc_eq, dOk_enc, dOk_int, eqv_enc, datas_si, datas_map, intsOf_map, and_assoc, List.length_map, List.length_append, forall_const, imp_self, reduceCtorEq, false_and, and_false, decide_eq_true_eq, decide_eq_false_iff_not, Bool.not_eq_true', Bool.not_eq_false', ne_eq, Classical.not_not, Bool.true_eq_false, Bool.false_eq_true, Nat.reduceAdd, false_implies, true_implies, implies_true, sizeLine_eq, Nat.reduceLeDiff, decide_true, decide_false, Bool.not_true, Bool.not_false, decide_not])
theorem fold_add (f : List Rat) (r : Rat) : f.foldl (· + ·) r = r + f.foldl (· + ·) 0 := by
  induction f generalizing r with
  | nil => simp [Rat.add_zero]
  | cons x f ih => rw [List.foldl_cons, List.foldl_cons, ih, ih (0 + x), Rat.zero_add, Rat.add_assoc]
theorem mn_el {M G : Nat} {w : Rat} {V lo hi : Int} (hM : 0 < M) (hG : 0 < G) (hd : w.den ∣ M) (hV : cut M w = V * (G : Int)) (hl : lo ≤ hi) :
    (((if V * hi < V * lo then V * hi else V * lo) * (G : Int) : Int) : Rat) = ((M : Int) : Rat) * low1 w (lo, hi) := by
  have e := cut_rat hd
  have hs : 0 < V ↔ 0 < w.num := by
    have hk : 0 < (M : Int) / w.den := Int.ediv_pos_of_pos_of_dvd (by omega) (by omega) (Int.natCast_dvd_natCast.mpr hd)
    have h1 : 0 < cut M w ↔ 0 < w.num := by
      unfold cut
      constructor
      · intro h
        exact Int.pos_of_mul_pos_left h (by omega)
      · intro h
        exact Int.mul_pos h hk
    rw [← h1, hV]
    constructor
    · intro h
      exact Int.mul_pos h (by omega)
    · intro h
      exact Int.pos_of_mul_pos_left h (by omega)
  have hm : (if V * hi < V * lo then V * hi else V * lo) = V * (if 0 < w.num then lo else hi) := by
    by_cases h0 : 0 < w.num
    · rw [if_pos h0]
      have := Int.mul_le_mul_of_nonneg_left hl (show 0 ≤ V by omega)
      rw [if_neg (by omega)]
    · rw [if_neg h0]
      have h1 : ¬ 0 < V := fun z => h0 (hs.mp z)
      have := Int.mul_le_mul_of_nonpos_left (show V ≤ 0 by omega) hl
      by_cases h2 : V * hi < V * lo
      · rw [if_pos h2]
      · rw [if_neg h2]; omega
  rw [hm]
  unfold low1
  rw [← Rat.mul_assoc, ← e, hV, ← Rat.intCast_mul]
  congr 1
  rw [Int.mul_assoc, Int.mul_assoc, Int.mul_comm (G : Int)]
theorem mn_sum {M G : Nat} (hM : 0 < M) (hG : 0 < G) : ∀ (v : List Rat) (ws : List (Int × Int)), (∀ w ∈ v, w.den ∣ M) → (∀ w ∈ v, ((G : Nat) : Int) ∣ cut M w) → (∀ s ∈ ws, s.1 ≤ s.2) →
    (((List.zipWith (fun (f : Int) (w : Int × Int) => if f * w.2 < f * w.1 then f * w.2 else f * w.1) ((v.map (cut M)).map (· / (G : Int))) ws).sum * (G : Int) : Int) : Rat) = ((M : Int) : Rat) * (List.zipWith low1 v ws).foldl (· + ·) 0
  | [], ws, _, _, _ => by simp
  | w :: v, [], _, _, _ => by simp
  | w :: v, s :: ws, hd, hg, hs => by
    have ih := mn_sum hM hG v ws (fun x hx => hd x (List.mem_cons_of_mem _ hx)) (fun x hx => hg x (List.mem_cons_of_mem _ hx)) (fun x hx => hs x (List.mem_cons_of_mem _ hx))
    have h1 := mn_el (V := cut M w / (G : Int)) hM hG (hd w List.mem_cons_self) (Int.ediv_mul_cancel (hg w List.mem_cons_self)).symm (hs s List.mem_cons_self)
    rw [List.map_cons, List.map_cons, List.zipWith_cons_cons, List.zipWith_cons_cons, List.sum_cons, List.foldl_cons, fold_add, Rat.zero_add, Int.add_mul, Rat.intCast_add, ih, h1, Rat.mul_add]
theorem holds_due {us fs : List Rat} {r : Rat} {s : Bool} {ws : List (Int × Int)} (hw : ∀ x ∈ ws, x.1 ≤ x.2) : holds ws (wtB us (fs, r, s)) = due us ws (fs, r, s) := by
  unfold wtB wt due holds worst
  simp only
  obtain ⟨hd, hr⟩ := dvd_app (v := muls fs us) (r := r)
  have hM := lcmD_pos (muls fs us ++ [r])
  generalize muls fs us = v at hd hr hM ⊢
  generalize lcmD (v ++ [r]) = M at hd hr hM ⊢
  have er := cut_rat hr
  -- one divisor for both ways
  obtain ⟨G, hG, hgd, e⟩ : ∃ G : Nat, 0 < G ∧ (∀ w ∈ v, ((G : Nat) : Int) ∣ cut M w) ∧ wt0 (v.map (cut M)) (cut M r - one s) = ((v.map (cut M)).map (· / (G : Int)), (cut M r - one s) / (G : Int)) := by
    by_cases h1 : 1 < gcdL (v.map (cut M))
    · refine ⟨gcdL (v.map (cut M)), by omega, fun w hw => gcdL_dvd (List.mem_map_of_mem hw), ?_⟩
      unfold wt0
      simp only
      rw [if_pos h1]
    · refine ⟨1, by decide, fun w hw => Int.one_dvd _, ?_⟩
      unfold wt0
      simp only
      rw [if_neg h1]
      simp
  rw [e]
  unfold least
  simp only
  have hsum := mn_sum hM hG v ws hd hgd hw
  generalize (List.zipWith (fun (f : Int) (w : Int × Int) => if f * w.2 < f * w.1 then f * w.2 else f * w.1) ((v.map (cut M)).map (· / (G : Int))) ws).sum = T at hsum ⊢
  generalize (List.zipWith low1 v ws).foldl (· + ·) 0 = W at hsum ⊢
  generalize cut M r = A at er ⊢
  have hMp := natCast_pos' hM
  -- over whole numbers
  have k1 : 0 ≤ (A - one s) / (G : Int) + T ↔ 0 ≤ A - one s + T * (G : Int) := by
    have : 0 ≤ (A - one s) / (G : Int) + T ↔ -T ≤ (A - one s) / (G : Int) := by omega
    rw [this, Int.le_ediv_iff_mul_le (by omega), Int.neg_mul]
    omega
  have k2 : ((A + T * (G : Int) : Int) : Rat) = ((M : Int) : Rat) * (W + r) := by
    rw [Rat.intCast_add, er, hsum, Rat.mul_add, Rat.add_comm]
  have k3 : 0 < A + T * (G : Int) ↔ 0 < (W + r).num := by
    rw [num_pos, ← Rat.intCast_lt_intCast, k2]
    have := Rat.mul_lt_mul_left (a := 0) (b := W + r) hMp
    rw [Rat.mul_zero] at this
    exact this
  have k4 : A + T * (G : Int) = 0 ↔ (W + r).num = 0 := by
    rw [Rat.num_eq_zero, ← Rat.intCast_inj, k2]
    have hne : ((M : Int) : Rat) ≠ 0 := fun z => by rw [z] at hMp; exact absurd hMp Rat.lt_irrefl
    constructor
    · intro z
      rcases Rat.mul_eq_zero.mp z with z | z
      · exact absurd z hne
      · exact z
    · intro z; rw [z, Rat.mul_zero]; rfl
  cases s
  · unfold one at k1 ⊢
    simp only [Bool.false_eq_true, if_false, Int.sub_zero] at k1 ⊢
    rw [Bool.not_false, Bool.and_true, ← Bool.decide_or]
    refine decide_eq_decide.mpr ?_
    rw [k1, ← k3, ← k4]
    omega
  · unfold one at k1 ⊢
    simp only [if_true] at k1 ⊢
    rw [Bool.not_true, Bool.and_false, Bool.or_false]
    refine decide_eq_decide.mpr ?_
    rw [k1, ← k3]
    omega
end K42

set_option Elab.async false
set_option linter.all false
set_option maxRecDepth 100000
set_option maxHeartbeats 2000000
namespace K42
open PySem L2 FL FR
local macro_rules | `(tactic| walk_at "fl") => `(tactic| simp only [dSeq, dAsg, dgName, dVar, dC, dOp, dUn, dIxK, ixkR, itemsR, dTup, dLst, dCons, dNil, dCall, dCB, dIfS, dIf, dTestR, dTru, dTruR, dRet, dRetN, dNext, dDrop, dAnd, dOr, dNot, dAndV, dOrV, dNotV, dPar, dFor, dRg1, dRg2, dItems, dgTup, dgCons, dgNil, dZip, dZipR, dIsi, isTy, tgOf, tab, dApp, dgSub, dLstM, dVarF, dBreak, dCont, dSl, dSlR, dPart, dNoPart, dLcG, dChain, dAug, dEnum,
  qI, qI0, qNeg, qEq, qNe, qIsN, qNotN, isNone, eqOk, dIxR, cAbs, cInt, cLen, cSum, cMax2, cMin2, cTup, cList, cListM, eqv_ii, eqv_bb, kFro, kMut,
  endsD, sd1, sd2, sd3, getS, getC, datas, List.length_cons, List.length_nil, List.map_cons, List.map_nil, Option.map_some, List.set_cons_zero, List.set_cons_succ, List.replicate_succ, List.replicate_zero, List.getElem?_cons_zero, List.getElem?_cons_succ, List.cons_append, List.nil_append,
  Option.some.injEq, S.d.injEq, S.ref.injEq, PyData.int.injEq, PyData.bool.injEq, PyData.list.injEq, PyData.tuple.injEq, List.cons.injEq, and_true, true_and, exists_eq_left, exists_eq_left', exists_eq_right, exists_and_left, exists_and_right, exists_const, forall_const, imp_self, reduceCtorEq, false_and, and_false, decide_eq_true_eq, decide_eq_false_iff_not, Bool.not_eq_true', Bool.not_eq_false', ne_eq, Classical.not_not, Bool.true_eq_false, Bool.false_eq_true, Nat.reduceAdd, false_implies, true_implies, implies_true, sizeLine_eq, Nat.reduceLeDiff, decide_true, decide_false, Bool.not_true, Bool.not_false, decide_not])
local macro_rules | `(tactic| walk_at "fm") => `(tactic| simp only [rgS_len, wip, dSeq, ixk_l, ixk_t, ixk_r, ixr_l, ixr_t, ixr_s, ixr_r, tru_n, tru_b, tru_i, tru_l, tru_t, tru_s, tru_r, its_l, its_t, its_r, gtup_t, eqk_i, eqk_b, eqk_s, eqk_t, eqk_l, len_l, len_t, len_s, len_r, int_i, int_b, sum_l, sum_r, tup_l, tup_t, tup_r, lis_l, lis_t, lis_r, lim_l, lim_t, lim_r, zip_t, zip_l, sl_l, sl_t, sl_r, dAsg, dgName, dVar, dC, dOp, dUn, dIxK, dTup, dLst, dCons, dNil, dCall, dCB, dIfS, dIf, dTestR, dTru, dRet, dRetN, dNext, dDrop, dAnd, dOr, dNot, dAndV, dOrV, dNotV, dPar, dFor, dRg1, dRg2, dItems, dgCons, dgNil, dZip, dIsi, isTy, tgOf, tab, dApp, dgSub, dLstM, dVarF, dBreak, dCont, dSl, dPart, dNoPart, dLcG, dChain, dAug, dEnum,
  qI, qI0, qNeg, qEq, qNe, qIsN, qNotN, isNone, qIsB, qNotB, isB, addl_i, addl_t, addl_l, cAbs, cMax2, cMin2, eqv_ii, eqv_bb, kFro, kMut,
  endsD, sd1, sd2, sd3, getS, getC, datas, List.length_cons, List.length_nil, List.map_cons, List.map_nil, Option.map_some, List.set_cons_zero, List.set_cons_succ, List.replicate_succ, List.replicate_zero, List.getElem?_cons_zero, List.getElem?_cons_succ, List.cons_append, List.nil_append,
  Option.some.injEq, S.d.injEq, S.ref.injEq, PyData.int.injEq, PyData.bool.injEq, PyData.list.injEq, PyData.tuple.injEq, List.cons.injEq, and_true, true_and, exists_eq_left, exists_eq_left', exists_eq_right, exists_and_left, exists_and_right, exists_const, exists_eq', exists_eq, ixk_enc0, ixk_enc1, not_true_eq_false, not_false_eq_true, and_self, enc_eq, dOk_enc, dOk_int, eqv_enc, datas_si, datas_map, intsOf_map, and_assoc, List.length_map, List.length_append, forall_const, imp_self, reduceCtorEq, false_and, and_false, decide_eq_true_eq, decide_eq_false_iff_not, Bool.not_eq_true', Bool.not_eq_false', ne_eq, Classical.not_not, Bool.true_eq_false, Bool.false_eq_true, Nat.reduceAdd, false_implies, true_implies, implies_true, sizeLine_eq, Nat.reduceLeDiff, decide_true, decide_false, Bool.not_true, Bool.not_false, decide_not])
theorem m__law_test : ∀ xs cs R, xs.length = 2 → Okc cs.length cs → T__law_test xs cs R → rd__law_test (endsD cs.length R) (startD 14 xs) cs := by
  rintro xs cs R hl hc ⟨us, ⟨fs, r, s⟩, rfl, hu, hb, h⟩
  unfold rd__law_test bndD ratsD
  have hl0 := hu.len
  have hl1 : fs.length = us.length := hb.len
  have hfb : ∀ f ∈ fs, RB 300 f := hb.f
  have hrb : RB 1500 r := hb.r
  have ez : muls fs us = (fs.zip us).map fun p => p.1 * p.2 := zw_map ..
  have hwb := muls_b hu hfb
  have lw : (muls fs us).length ≤ 4 := by rw [ez, List.length_map, List.length_zip]; omega
  refine stp fun T hT => ?_
  walk_at "fm"
  subst hT
  refine stp fun T hT => ?_
  walk_at "fm"
  have lz : us.length = (fs.zip us).length := by rw [List.length_zip]; omega
  refine ⟨by omega, by omega, by omega, ?_⟩
  rw [Int.toNat_natCast]
  refine comp_rng (fun p : Rat × Rat => sr (p.1 * p.2)) (fs.zip us) lz (fun i hi R hR => ?_) ?_
  · have hi1 : i < fs.length := by omega
    have hi2 : i < us.length := by omega
    unfold rd__law_test_e1 T__law_mult T_times
    walk_at "fm"
    refine ⟨_, atI_map encR hi1, _, atI_map encR hi2, ?_⟩
    walk_at "fm"
    rw [List.getElem_zip] at hR
    exact ⟨(hfb _ (List.getElem_mem hi1)).mono (by decide), (hu.b _ (List.getElem_mem hi2)).mono (by decide), hR⟩
  refine ⟨_, datas_fn _ _, ?_⟩
  have e1 : ((fs.zip us).map fun p => encR (p.1 * p.2)) = (muls fs us).map encR := by rw [ez, List.map_map]; rfl
  rw [e1]
  unfold wtB at h
  simp only at h
  generalize muls fs us = ws at h hwb lw
  subst hT
  refine stp fun T hT => ?_
  walk_at "fm"
  subst hT
  refine stp fun T hT => ?_
  walk_at "fm"
  rw [map_d]
  refine for_all (fun r => S.d (encR r)) (fun as ρ cs' => cs' = cs ∧ ∃ m : Nat, as.foldl (fun m r => Nat.lcm m r.den) m = lcmD ws ∧ as.length ≤ 4 ∧ B (360 * (5 - as.length)) (m : Nat) ∧ (∀ r ∈ as, RB 360 r) ∧ ∃ o7 o13, ρ = [some (.d (.tuple (us.map encR))), some (S.d (PyData.tuple [PyData.tuple (List.map encR fs), encR r, PyData.bool s])), some (.d (.tuple (fs.map encR))), some (sr r), some (sb s), some (.d (.list (ws.map encR))), some (si (m : Nat)), o7, none, none, none, none, none, o13]) (fun _ _ _ _ => trivial) ?_ ?_ ws _ _ ⟨rfl, 1, rfl, lw, ?_, hwb, _, _, rfl⟩
  rotate_left
  · rintro a as ρ cs' ⟨rfl, m, e, hl, hm, hb, o7, o13, rfl⟩ Z hz
    unfold rd__law_test_b1 T__law_shared
    have ha := hb a List.mem_cons_self
    rw [List.length_cons] at hl hm
    walk_at "fm"
    have hg := gcd_ne (p := (m : Int)) (den_ne a)
    have e1 : (m : Int) * a.den / (Int.gcd m a.den : Nat) = (Nat.lcm m a.den : Nat) := by
      show (m : Int) * a.den / (Nat.gcd m a.den : Nat) = (m * a.den / Nat.gcd m a.den : Nat)
      simp
    rw [e1]
    refine ⟨hm.cm ha.d (by omega) (by omega) (by omega), by omega, hm.mono (by omega), ha.d.mono (by decide), cdiv_ok _ hg (gcd_bound (den_ne a) ha.d), hz _ _ ⟨rfl, Nat.lcm m a.den, e, by omega, (lcm_b hm ha.d).mono (by omega), fun r hr => hb r (List.mem_cons_of_mem _ hr), _, _, rfl⟩⟩
  · have : B 360 ((1 : Nat) : Int) := B.mono (n := 1) (by unfold B; decide) (by decide)
    exact this.mono (by omega)
  rintro ρ cs' ⟨rfl, M, eM, _, hM0, _, o7, o13, rfl⟩
  have hmb : B 1800 (M : Nat) := hM0.mono (by simp)
  have eM' : M = lcmD ws := eM
  have hMp : 0 < M := by rw [eM']; exact lcmD_pos ws
  simp only
  rw [hT]
  refine stp fun T hT => ?_
  walk_at "fm"
  rw [map_d]
  refine ⟨by omega, comp_map _ (fun w => si (cut M w)) trivial _ _ (fun w hw R hR => ?_) ?_⟩
  · unfold rd__law_test_e2
    walk_at "fm"
    have wb := hwb w hw
    exact ⟨cdiv_ok _ (den_pos w) (wb.d), wb.n.cm (b_ediv hmb _), hR⟩
  refine ⟨_, datas_fn _ _, ?_⟩
  have e3 : (ws.map fun w => PyData.int (cut M w)) = (ws.map (cut M)).map PyData.int := by rw [List.map_map]; rfl
  rw [e3]
  have hWb : ∀ n ∈ ws.map (cut M), B 2200 n := fun n hn => by
    obtain ⟨w, hw, rfl⟩ := List.mem_map.mp hn
    exact ((hwb w hw).n.mul (b_ediv hmb _)).mono (by decide)
  have hGb := gcdL_b hWb
  have lW : (ws.map (cut M)).length ≤ 4 := by simpa using lw
  have law0 : gcdL (ws.map (cut M)) = 0 → wt ws r s = (ws.map (cut M), r.num - one s) := fun z => by
    rw [eM']
    rw [eM'] at z
    exact wt_zero (map_cut_zero (lcmD_pos ws) (fun w hw => lcmD_dvd hw) z)
  have law1 : 0 < gcdL (ws.map (cut M)) → wt ws r s = ((ws.map (cut M)).map (· / (gcdL (ws.map (cut M)) : Int)), fl s (r / Rat.divInt (gcdL (ws.map (cut M)) : Nat) (M : Nat))) := fun z => by
    have hne : ∃ w ∈ ws, w ≠ 0 := Classical.byContradiction fun q => by
      have q' : ∀ w ∈ ws, w = 0 := fun w hw => Classical.byContradiction fun hh => q ⟨w, hw, hh⟩
      have : gcdL (ws.map (cut M)) = 0 := by
        have h0 : ∀ n ∈ ws.map (cut M), n = 0 := fun n hn => by
          obtain ⟨w, hw, rfl⟩ := List.mem_map.mp hn
          rw [q' w hw]; simp [cut]
        have : ∀ (ns : List Int), (∀ n ∈ ns, n = 0) → gf ns 0 = 0 := fun ns => by
          induction ns with
          | nil => intro _; rfl
          | cons n ns ih =>
            intro hn
            have hz := hn n List.mem_cons_self
            subst hz
            have h0 : Int.gcd 0 ((0 : Nat) : Int) = 0 := by decide
            show gf ns (Int.gcd 0 ((0 : Nat) : Int)) = 0
            rw [h0]
            exact ih fun x hx => hn x (List.mem_cons_of_mem _ hx)
        exact this _ h0
      omega
    obtain ⟨c, hcn⟩ := wt_norm (r := r) (s := s) hne
    rw [eM'] at z ⊢
    exact norm_uniq hcn (law_norm z)
  generalize ws.map (cut M) = W at h hWb hGb lW law0 law1
  subst hT
  refine stp fun T hT => ?_
  walk_at "fm"
  subst hT
  refine stp fun T hT => ?_
  walk_at "fm"
  rw [map_d]
  refine for_all (fun n => si n) (fun as ρ cs'' => cs'' = cs' ∧ ∃ m : Nat, as.foldl (fun g n => Int.gcd n (g : Nat)) m = gcdL W ∧ B 2200 (m : Nat) ∧ (∀ n ∈ as, B 2200 n) ∧ ∃ o10, ρ = [some (.d (.tuple (us.map encR))), some (S.d (PyData.tuple [PyData.tuple (List.map encR fs), encR r, PyData.bool s])), some (.d (.tuple (fs.map encR))), some (sr r), some (sb s), some (.d (.list (ws.map encR))), some (si (M : Nat)), o7, some (.d (.list (W.map PyData.int))), some (si (m : Nat)), o10, none, none, o13]) (fun _ _ _ _ => trivial) ?_ ?_ W _ _ ⟨rfl, 0, rfl, B.mono (n := 1) (by unfold B; decide) (by decide), hWb, _, rfl⟩
  rotate_left
  · rintro a as ρ cs'' ⟨rfl, m, e, hm, hb, o10, rfl⟩ Z hz
    unfold rd__law_test_b2 T__law_shared
    have ha := hb a List.mem_cons_self
    walk_at "fm"
    have ea : (if a < 0 then -a else a) = (a.natAbs : Int) := by split <;> omega
    rw [ea]
    have eg : Int.gcd (m : Int) (a.natAbs : Int) = Int.gcd a (m : Int) := by
      rw [Int.gcd_comm]; unfold Int.gcd; simp
    rw [eg]
    refine ⟨by omega, hm.mono (by decide), ha.abs.mono (by decide), hz _ _ ⟨rfl, Int.gcd a m, e, ?_, fun x hx => hb x (List.mem_cons_of_mem _ hx), _, rfl⟩⟩
    by_cases h0 : a = 0
    · subst h0; simpa using hm
    · rw [Int.gcd_comm]; exact gcd_bound h0 ha
  rintro ρ cs'' ⟨rfl, G, eG, hGb', _, o10, rfl⟩
  have eG' : G = gcdL W := eG
  rw [← eG'] at law0 law1
  simp only
  rw [hT]
  refine stp fun T hT => ?_
  walk_at "fm"
  refine ⟨fun h0 => ?_, fun h0 => ?_⟩
  · have z : G = 0 := by omega
    refine rt_l ?_
    rw [law0 z] at h
    have : one s = if s = true then 1 else 0 := rfl
    rw [← this]
    exact h
  have hG : 0 < G := by omega
  rw [hT]
  refine stp fun T hT => ?_
  unfold T__law_over T_over T__law_ratio
  walk_at "fm"
  have xb : RB 2200 (Rat.divInt (G : Nat) (M : Nat)) := divInt_b (by omega) hGb' (hmb.mono (by decide))
  have xne : Rat.divInt (G : Nat) (M : Nat) ≠ 0 := by
    have := num_is (p := (G : Int)) (q := (M : Int)) (by omega)
    intro z
    rw [z] at this
    have hh : (G : Int) / (Int.gcd G M : Nat) * (Int.gcd G M : Nat) = G := Int.ediv_mul_cancel (Int.gcd_dvd_left _ _)
    rw [this] at hh
    simp at hh
    omega
  refine ⟨by omega, hGb'.mono (by decide), hmb.mono (by decide), hrb.mono (by decide), xb.mono (by decide), xne, ?_⟩
  rw [gtup_enc]
  rw [law1 hG] at h
  have yb := (hrb.div xb xne).d
  unfold fl at h
  rw [Rat.ceil_eq_neg_floor_neg, Rat.floor_def, Rat.floor_def, Rat.neg_num, Rat.neg_den] at h
  generalize r / Rat.divInt (G : Nat) (M : Nat) = y at h yb ⊢
  walk_at "fm"
  rw [hT]
  walk_at "fm"
  rw [map_d]
  refine ⟨by omega, comp_map _ (fun n => si (n / (G : Int))) trivial _ _ (fun n hn R hR => ?_) ⟨_, datas_fn _ _, fun hs => ⟨cdiv_ok _ (den_pos y) (yb.mono (by decide : 1500 + 2200 ≤ 4000)), rt_l ?_⟩, fun hs => ⟨cdiv_ok _ (den_pos y) (yb.mono (by decide : 1500 + 2200 ≤ 4000)), rt_l ?_⟩⟩⟩
  · unfold rd__law_test_e3
    walk_at "fm"
    exact ⟨cdiv_ok _ (by omega) hGb', hR⟩
  · unfold testD at h
    rw [if_pos hs, List.map_map] at h
    exact h
  · unfold testD at h
    rw [if_neg (by rw [hs]; decide), List.map_map] at h
    exact h
end K42

set_option Elab.async false
set_option linter.all false
set_option maxRecDepth 100000
set_option maxHeartbeats 2000000
namespace K42
open PySem L2 FL FR
local macro_rules | `(tactic| walk_at "fl") => `(tactic| simp only [dSeq, dAsg, dgName, dVar, dC, dOp, dUn, dIxK, ixkR, itemsR, dTup, dLst, dCons, dNil, dCall, dCB, dIfS, dIf, dTestR, dTru, dTruR, dRet, dRetN, dNext, dDrop, dAnd, dOr, dNot, dAndV, dOrV, dNotV, dPar, dFor, dRg1, dRg2, dItems, dgTup, dgCons, dgNil, dZip, dZipR, dIsi, isTy, tgOf, tab, dApp, dgSub, dLstM, dVarF, dBreak, dCont, dSl, dSlR, dPart, dNoPart, dLcG, dChain, dAug, dEnum,
  qI, qI0, qNeg, qEq, qNe, qIsN, qNotN, isNone, eqOk, dIxR, cAbs, cInt, cLen, cSum, cMax2, cMin2, cTup, cList, cListM, eqv_ii, eqv_bb, kFro, kMut,
  endsD, sd1, sd2, sd3, getS, getC, datas, List.length_cons, List.length_nil, List.map_cons, List.map_nil, Option.map_some, List.set_cons_zero, List.set_cons_succ, List.replicate_succ, List.replicate_zero, List.getElem?_cons_zero, List.getElem?_cons_succ, List.cons_append, List.nil_append,
  Option.some.injEq, S.d.injEq, S.ref.injEq, PyData.int.injEq, PyData.bool.injEq, PyData.list.injEq, PyData.tuple.injEq, List.cons.injEq, and_true, true_and, exists_eq_left, exists_eq_left', exists_eq_right, exists_and_left, exists_and_right, exists_const, forall_const, imp_self, reduceCtorEq, false_and, and_false, decide_eq_true_eq, decide_eq_false_iff_not, Bool.not_eq_true', Bool.not_eq_false', ne_eq, Classical.not_not, Bool.true_eq_false, Bool.false_eq_true, Nat.reduceAdd, false_implies, true_implies, implies_true, sizeLine_eq, Nat.reduceLeDiff, decide_true, decide_false, Bool.not_true, Bool.not_false, decide_not])
local macro_rules | `(tactic| walk_at "fm") => `(tactic| simp only [rgS_len, wip, dSeq, ixk_l, ixk_t, ixk_r, ixr_l, ixr_t, ixr_s, ixr_r, tru_n, tru_b, tru_i, tru_l, tru_t, tru_s, tru_r, its_l, its_t, its_r, gtup_t, eqk_i, eqk_b, eqk_s, eqk_t, eqk_l, len_l, len_t, len_s, len_r, int_i, int_b, sum_l, sum_r, tup_l, tup_t, tup_r, lis_l, lis_t, lis_r, lim_l, lim_t, lim_r, zip_t, zip_l, sl_l, sl_t, sl_r, dAsg, dgName, dVar, dC, dOp, dUn, dIxK, dTup, dLst, dCons, dNil, dCall, dCB, dIfS, dIf, dTestR, dTru, dRet, dRetN, dNext, dDrop, dAnd, dOr, dNot, dAndV, dOrV, dNotV, dPar, dFor, dRg1, dRg2, dItems, dgCons, dgNil, dZip, dIsi, isTy, tgOf, tab, dApp, dgSub, dLstM, dVarF, dBreak, dCont, dSl, dPart, dNoPart, dLcG, dChain, dAug, dEnum,
  qI, qI0, qNeg, qEq, qNe, qIsN, qNotN, isNone, qIsB, qNotB, isB, addl_i, addl_t, addl_l, cAbs, cMax2, cMin2, eqv_ii, eqv_bb, kFro, kMut,
  endsD, sd1, sd2, sd3, getS, getC, datas, List.length_cons, List.length_nil, List.map_cons, List.map_nil, Option.map_some, List.set_cons_zero, List.set_cons_succ, List.replicate_succ, List.replicate_zero, List.getElem?_cons_zero, List.getElem?_cons_succ, List.cons_append, List.nil_append,
  Option.some.injEq, S.d.injEq, S.ref.injEq, PyData.int.injEq, PyData.bool.injEq, PyData.list.injEq, PyData.tuple.injEq, List.cons.injEq, and_true, true_and, exists_eq_left, exists_eq_left', exists_eq_right, exists_and_left, exists_and_right, exists_const, exists_eq', exists_eq, ixk_enc0, ixk_enc1, not_true_eq_false, not_false_eq_true, and_self, enc_eq, dOk_enc, dOk_int, eqv_enc, datas_si, datas_map, intsOf_map, and_assoc, List.length_map, List.length_append, forall_const, imp_self, reduceCtorEq, false_and, and_false, decide_eq_true_eq, decide_eq_false_iff_not, Bool.not_eq_true', Bool.not_eq_false', ne_eq, Classical.not_not, Bool.true_eq_false, Bool.false_eq_true, Nat.reduceAdd, false_implies, true_implies, implies_true, sizeLine_eq, Nat.reduceLeDiff, decide_true, decide_false, Bool.not_true, Bool.not_false, decide_not])
theorem rt_dc {row : List Int} {total pos p : Int} {gs : Sto} {R : RK} {x : PyData} (hs : Sto) (hc : Okc (DS row total pos gs).length (DS row total pos gs)) (h : R (.d x) (DS row total p gs)) : rtD (DS row total pos gs).length R (.d x) (DS row total p gs ++ hs) :=
  .inr ⟨DS row total p gs, hs, rfl, rfl, okc_ds hc, trivial, h⟩
theorem ixn_nat {n : Nat} {w : Int} (w0 : 0 ≤ w) (h : w < (n : Int)) : ixN n w = some w.toNat := by
  unfold ixN
  rw [if_pos w0, if_pos h]
theorem worst_b2 {us fs : List Rat} {ws : List (Int × Int)} (hu : UOk us) (hfb : ∀ f ∈ fs, RB 200 f) (hw : WOk us.length ws) (hl : us.length ≤ 3) : RB 1000 (worst us fs ws) := by
  unfold worst
  refine (fold_b (n := 320) _ 0 1 (fun x hx => ?_) ⟨by decide, by decide⟩).mono ?_
  · rw [zw_map] at hx
    obtain ⟨p, hp, rfl⟩ := List.mem_map.mp hx
    have h1 : RB 260 p.1 := by
      have := (List.of_mem_zip (show (p.1, p.2) ∈ _ from hp)).1
      unfold muls at this
      rw [zw_map] at this
      obtain ⟨q, hq, e⟩ := List.mem_map.mp this
      rw [← e]
      exact (hfb _ (List.of_mem_zip (show (q.1, q.2) ∈ _ from hq)).1).mul (hu.b _ (List.of_mem_zip (show (q.1, q.2) ∈ _ from hq)).2)
    have h2 := hw.2 p.2 (List.of_mem_zip (show (p.1, p.2) ∈ _ from hp)).2
    unfold low1
    refine (h1.mul (m := 60) (int_rb ?_))
    split
    · exact h2.2.1
    · exact h2.2.2
  · have : (List.zipWith low1 (muls fs us) ws).length ≤ 3 := by
      unfold muls
      rw [List.length_zipWith, List.length_zipWith]; omega
    omega
theorem m__law_bound : ∀ xs cs R, xs.length = 3 → Okc cs.length cs → T__law_bound xs cs R → rd__law_bound (endsD cs.length R) (startD 8 xs) cs := by
  rintro xs cs R hl hc ⟨row, total, pos, gs, us, ws, rfl, rfl, D, hp, hu, hn0, hn3, hw, h⟩
  unfold rd__law_bound
  refine stp fun T hT => ?_
  unfold ratsD
  walk_at "fm"
  rw [hT]
  refine stp fun T hT => ?_
  walk_at "fm"
  refine ⟨by omega, by omega, by omega, ?_⟩
  rw [Int.toNat_natCast]
  unfold rgS
  refine comp_st (fun k : Nat => si (0 + (k : Nat))) (fun as acc cs' => ∃ fs p, acc = fs.map sr ∧ fs.length + as.length = us.length ∧ (∀ f ∈ fs, RB 200 f) ∧ pos ≤ p ∧ p ≤ pos + 21 * (fs.length : Nat) ∧ cs' = DS row total p gs) (fun _ _ _ _ => trivial) ?_ ?_ _ _ _ ⟨[], pos, rfl, by simp, by simp, by omega, by simp, rfl⟩
  rotate_left
  · rintro a as acc cs' ⟨fs, p, rfl, hlen, hfb, h0, h1, rfl⟩ Z hz
    rw [List.length_cons] at hlen
    unfold rd__law_bound_e1 T__law_take T__law_great dYes
    walk_at "fm"
    refine ⟨row, total, p, gs, rfl, D.next h0 (by omega), by decide, fun v v0 v1 => ⟨fun hv => ?_, fun hv => ?_⟩⟩
    · refine ⟨row, total, p + 1, gs, rfl, D.next (by omega) (by omega), by omega, fun r q rb q0 q1 => hz _ _ ⟨fs ++ [r], q, by simp, by simp; omega, ?_, by omega, by simp; omega, rfl⟩⟩
      intro x hx
      rcases List.mem_append.mp hx with z | z
      · exact hfb x z
      · have : x = r := by simpa using z
        subst this; exact rb
    · refine hz _ _ ⟨fs ++ [0], p + 1, by rw [List.map_append]; rfl, by simp; omega, ?_, by omega, by simp; omega, rfl⟩
      intro x hx
      rcases List.mem_append.mp hx with z | z
      · exact hfb x z
      · have : x = 0 := by simpa using z
        subst this; exact RB.mono (n := 1) ⟨by decide, by decide⟩ (by decide)
  rintro acc cs' ⟨fs, p, rfl, hlen, hfb, h0, h1, rfl⟩
  have hfl : fs.length = us.length := by simpa using hlen
  simp only [DS_len, DS_app]
  rw [hT]
  refine stp fun T2 hT2 => ?_
  have fin : ∀ (fs : List Rat) (q : Int), fs.length = us.length → (∀ f ∈ fs, RB 200 f) → pos ≤ q → q ≤ pos + 150 → T2 (endsD (DS row total pos gs).length R)
      [some (.ref 2), some (.d (.tuple (us.map encR))), some (.d (.tuple (ws.map spanD))), some (si (us.length : Nat)), some (.ref (gs.length + 3)), none, none, none] (DS row total q (gs ++ [some (fs.map sr)])) := fun fs q hfl hfb q0 q1 => by
    have hfb3 : ∀ f ∈ fs, RB 300 f := fun f hf => (hfb f hf).mono (by decide)
    have wb := worst_b2 hu hfb hw hn3
    rw [hT2]
    refine stp fun T hT => ?_
    walk_at "fm"
    refine ⟨_, by rw [DS_get, getC_last], _, datas_sr fs, ?_⟩
    rw [hT]
    refine stp fun T hT => ?_
    unfold T__law_worst
    walk_at "fm"
    refine ⟨us, rfl, fs, rfl, ws, rfl, hu, hfl, hfb3, hw, ?_⟩
    generalize worst us fs ws = wst at wb ⊢
    rw [hT]
    refine stp fun T hT => ?_
    unfold T__law_pick T__law_great
    walk_at "fm"
    refine ⟨by unfold CPow; decide, by unfold CPow; decide, row, total, q, _, rfl, D.next q0 (by omega), by omega, fun g q2 gb g0 g1 => ?_⟩
    refine ⟨row, total, q2, _, rfl, D.next (by omega) (by omega), by decide, fun d hd => ?_⟩
    obtain ⟨t, rfl, tb⟩ : ∃ t : Rat, d = encR t ∧ RB 200 t := by
      simp only [List.mem_cons, List.not_mem_nil, or_false] at hd
      rcases hd with rfl | rfl | rfl | rfl | rfl
      · exact ⟨0, rfl, RB.mono (n := 1) ⟨by decide, by decide⟩ (by decide)⟩
      · exact ⟨0, rfl, RB.mono (n := 1) ⟨by decide, by decide⟩ (by decide)⟩
      · exact ⟨_, (pair_low (by decide)).1, (divInt_b (n := 150) (by decide) (by decide) (by decide)).mono (by decide)⟩
      · exact ⟨_, (pair_low (by decide)).1, (divInt_b (n := 150) (by decide) (by decide) (by decide)).mono (by decide)⟩
      · exact ⟨g, rfl, gb⟩
    rw [hT]
    unfold T__law_plus T__law_take
    have en : PyData.tuple [.int (-wst.num), .int wst.den] = encR (-wst) := by rfl
    walk_at "fm"
    simp only [en, enc_eq, exists_eq_left']
    have sb' : RB 1300 (-wst + t) := (wb.neg.add tb).mono (by decide)
    refine ⟨wb.neg.mono (by decide), tb.mono (by decide), row, total, _, _, rfl, D.next (by omega) (by omega), by decide, fun v v0 v1 => rt_ds _ hc ?_⟩
    exact h (fs, -wst + t, decide (v = 0)) _ hfl hfb sb' (by omega) (by omega)
  unfold T__law_take T__law_great
  walk_at "fm"
  refine ⟨row, total, p, _, rfl, D.next h0 (by omega), by decide, fun v v0 v1 => ⟨fun hv => ?_, fun hv => ?_⟩⟩
  · refine ⟨row, total, p + 1, _, rfl, D.next (by omega) (by omega), by omega, fun g q gb g0 g1 => ?_⟩
    refine ⟨row, total, q, _, rfl, D.next (by omega) (by omega), by omega, fun w w0 w1 => ?_⟩
    refine ⟨w.toNat, fs.map sr, by rw [DS_get, getC_last], ?_, ?_⟩
    · rw [List.length_map]
      exact ixn_nat w0 (by omega)
    · rw [DS_set, set_last, ← List.map_set]
      refine fin (fs.set w.toNat g) (q + 1) (by simpa using hfl) (fun f hf => ?_) (by omega) (by omega)
      rcases List.mem_or_eq_of_mem_set hf with z | z
      · exact hfb f z
      · subst z; exact gb
  · exact fin fs (p + 1) hfl hfb (by omega) (by omega)
end K42

set_option Elab.async false
set_option linter.all false
set_option maxRecDepth 100000
set_option maxHeartbeats 2000000
namespace K42
open PySem L2 FL FR
local macro_rules | `(tactic| walk_at "fl") => `(tactic| simp only [dSeq, dAsg, dgName, dVar, dC, dOp, dUn, dIxK, ixkR, itemsR, dTup, dLst, dCons, dNil, dCall, dCB, dIfS, dIf, dTestR, dTru, dTruR, dRet, dRetN, dNext, dDrop, dAnd, dOr, dNot, dAndV, dOrV, dNotV, dPar, dFor, dRg1, dRg2, dItems, dgTup, dgCons, dgNil, dZip, dZipR, dIsi, isTy, tgOf, tab, dApp, dgSub, dLstM, dVarF, dBreak, dCont, dSl, dSlR, dPart, dNoPart, dLcG, dChain, dAug, dEnum,
  qI, qI0, qNeg, qEq, qNe, qIsN, qNotN, isNone, eqOk, dIxR, cAbs, cInt, cLen, cSum, cMax2, cMin2, cTup, cList, cListM, eqv_ii, eqv_bb, kFro, kMut,
  endsD, sd1, sd2, sd3, getS, getC, datas, List.length_cons, List.length_nil, List.map_cons, List.map_nil, Option.map_some, List.set_cons_zero, List.set_cons_succ, List.replicate_succ, List.replicate_zero, List.getElem?_cons_zero, List.getElem?_cons_succ, List.cons_append, List.nil_append,
  Option.some.injEq, S.d.injEq, S.ref.injEq, PyData.int.injEq, PyData.bool.injEq, PyData.list.injEq, PyData.tuple.injEq, List.cons.injEq, and_true, true_and, exists_eq_left, exists_eq_left', exists_eq_right, exists_and_left, exists_and_right, exists_const, forall_const, imp_self, reduceCtorEq, false_and, and_false, decide_eq_true_eq, decide_eq_false_iff_not, Bool.not_eq_true', Bool.not_eq_false', ne_eq, Classical.not_not, Bool.true_eq_false, Bool.false_eq_true, Nat.reduceAdd, false_implies, true_implies, implies_true, sizeLine_eq, Nat.reduceLeDiff, decide_true, decide_false, Bool.not_true, Bool.not_false, decide_not])
local macro_rules | `(tactic| walk_at "fm") => `(tactic| simp only [rgS_len, wip, dSeq, ixk_l, ixk_t, ixk_r, ixr_l, ixr_t, ixr_s, ixr_r, tru_n, tru_b, tru_i, tru_l, tru_t, tru_s, tru_r, its_l, its_t, its_r, gtup_t, eqk_i, eqk_b, eqk_s, eqk_t, eqk_l, len_l, len_t, len_s, len_r, int_i, int_b, sum_l, sum_r, tup_l, tup_t, tup_r, lis_l, lis_t, lis_r, lim_l, lim_t, lim_r, zip_t, zip_l, sl_l, sl_t, sl_r, dAsg, dgName, dVar, dC, dOp, dUn, dIxK, dTup, dLst, dCons, dNil, dCall, dCB, dIfS, dIf, dTestR, dTru, dRet, dRetN, dNext, dDrop, dAnd, dOr, dNot, dAndV, dOrV, dNotV, dPar, dFor, dRg1, dRg2, dItems, dgCons, dgNil, dZip, dIsi, isTy, tgOf, tab, dApp, dgSub, dLstM, dVarF, dBreak, dCont, dSl, dPart, dNoPart, dLcG, dChain, dAug, dEnum,
  qI, qI0, qNeg, qEq, qNe, qIsN, qNotN, isNone, qIsB, qNotB, isB, addl_i, addl_t, addl_l, cAbs, cMax2, cMin2, eqv_ii, eqv_bb, kFro, kMut,
  endsD, sd1, sd2, sd3, getS, getC, datas, List.length_cons, List.length_nil, List.map_cons, List.map_nil, Option.map_some, List.set_cons_zero, List.set_cons_succ, List.replicate_succ, List.replicate_zero, List.getElem?_cons_zero, List.getElem?_cons_succ, List.cons_append, List.nil_append,
  Option.some.injEq, S.d.injEq, S.ref.injEq, PyData.int.injEq, PyData.bool.injEq, PyData.list.injEq, PyData.tuple.injEq, List.cons.injEq, and_true, true_and, exists_eq_left, exists_eq_left', exists_eq_right, exists_and_left, exists_and_right, exists_const, exists_eq', exists_eq, ixk_enc0, ixk_enc1, not_true_eq_false, not_false_eq_true, and_self, enc_eq, dOk_enc, dOk_int, eqv_enc, datas_si, datas_map, intsOf_map, and_assoc, List.length_map, List.length_append, forall_const, imp_self, reduceCtorEq, false_and, and_false, decide_eq_true_eq, decide_eq_false_iff_not, Bool.not_eq_true', Bool.not_eq_false', ne_eq, Classical.not_not, Bool.true_eq_false, Bool.false_eq_true, Nat.reduceAdd, false_implies, true_implies, implies_true, sizeLine_eq, Nat.reduceLeDiff, decide_true, decide_false, Bool.not_true, Bool.not_false, decide_not])
theorem floor_add (lo : Int) (x : Rat) : ((lo : Rat) + x).floor = lo + x.floor := by
  rw [Rat.add_comm, Rat.floor_add_intCast, Int.add_comm]
theorem ceil_add (lo : Int) (x : Rat) : ((lo : Rat) + x).ceil = lo + x.ceil := by
  rw [Rat.ceil_eq_neg_floor_neg, Rat.ceil_eq_neg_floor_neg, Rat.neg_add, ← Rat.intCast_neg, floor_add]
  omega
theorem getC_2a : ∀ (gs : Sto) (a b : Option (List S)), getC (gs ++ [a, b]) gs.length = a
  | [], _, _ => rfl
  | _ :: gs, a, b => getC_2a gs a b
theorem getC_2b : ∀ (gs : Sto) (a b : Option (List S)), getC (gs ++ [a, b]) (gs.length + 1) = b
  | [], _, _ => rfl
  | _ :: gs, a, b => getC_2b gs a b
theorem set_2a (gs : Sto) (a b x : Option (List S)) : (gs ++ [a, b]).set gs.length x = gs ++ [x, b] := by simp
theorem set_2b : ∀ (gs : Sto) (a b x : Option (List S)), (gs ++ [a, b]).set (gs.length + 1) x = gs ++ [a, x]
  | [], _, _, _ => rfl
  | _ :: gs, a, b, x => congrArg _ (set_2b gs a b x)
section
variable {row : List Int} {total p : Int} {gs : Sto} {a b x : Option (List S)}
theorem ds_a : getC (DS row total p (gs ++ [a, b])) (gs.length + 3) = a := getC_2a gs a b
theorem ds_b : getC (DS row total p (gs ++ [a, b])) (gs.length + 3 + 1) = b := getC_2b gs a b
theorem dss_a : (DS row total p (gs ++ [a, b])).set (gs.length + 3) x = DS row total p (gs ++ [x, b]) := by
  rw [← set_2a gs a b x]; rfl
theorem dss_b : (DS row total p (gs ++ [a, b])).set (gs.length + 3 + 1) x = DS row total p (gs ++ [a, x]) := by
  rw [← set_2b gs a b x]; rfl
end
theorem dOk_spans (ws : List (Int × Int)) (h : ws.length ≤ 1000000) : dOk 5 (.tuple (ws.map spanD)) = true := by
  unfold dOk
  rw [Bool.and_eq_true]
  refine ⟨List.all_eq_true.mpr fun d hd => ?_, by simpa using h⟩
  obtain ⟨w, _, rfl⟩ := List.mem_map.mp hd
  rfl
theorem zw_snoc {α β γ : Type} (f : α → β → γ) : ∀ (as : List α) (bs : List β) (b : β) (h : bs.length < as.length), List.zipWith f as (bs ++ [b]) = List.zipWith f as bs ++ [f (as[bs.length]'h) b]
  | _ :: _, [], b, h => by simp
  | a :: as, c :: bs, b, h => by simp [zw_snoc f as bs b (by simpa using h)]
def fit (u : Rat) (w : Rat × Rat) : Int × Int := ((w.1 / u).floor, (w.2 / u).ceil)
theorem m__law_boxes_right : ∀ xs cs R, xs.length = 2 → Okc cs.length cs → T__law_boxes_right xs cs R → rd__law_boxes_right (endsD cs.length R) (startD 11 xs) cs := by
  rintro xs cs R hl hc ⟨row, total, pos, us, rfl, ⟨gs, rfl⟩, D, hp, hu, hn, h⟩
  unfold rd__law_boxes_right
  have hub := hu.1.b
  have hpos := hu.2
  refine stp fun T hT => ?_
  unfold ratsD
  walk_at "fm"
  rw [hT]
  refine stp fun T hT => ?_
  walk_at "fm"
  simp only [DS_len, DS_app, List.append_assoc, List.length_append, List.cons_append, List.nil_append, List.length_cons, List.length_nil]
  rw [hT]
  refine stp fun T hT => ?_
  walk_at "fm"
  refine ⟨by omega, by omega, ?_⟩
  rw [Int.toNat_natCast]
  refine for_rng us.length (fun k ρ cs' => ∃ (box : List (Rat × Rat)) (p : Int) (o5 o6 o7 o8 o9 o10 : Option S), box.length = k ∧ (∀ w ∈ box, RB 1000 w.1 ∧ RB 1000 w.2) ∧ pos ≤ p ∧ p ≤ pos + 4 * (k : Nat) ∧
      ρ = [some (S.ref 2), some (S.d (PyData.tuple (List.map encR us))), some (si ↑us.length), some (S.ref (List.length gs + 3)), some (S.ref (List.length gs + 3 + 1)), o5, o6, o7, o8, o9, o10] ∧
      cs' = DS row total p (gs ++ [some (box.map fun w => S.d (boxD w)), some ((List.zipWith fit us box).map fun w => S.d (spanD w))])) ?_ ?_ ⟨[], pos, _, _, _, _, _, _, rfl, by simp, by omega, by simp, rfl, by simp⟩
  · rintro ρ cs' ⟨box, p, o5, o6, o7, o8, o9, o10, hlen, hb, p0, p1, rfl, rfl⟩
    simp only
    rw [hT]
    unfold T_made_whole T__law_same T__law_sameN
    walk_at "fm"
    refine ⟨_, ds_a, _, datas_fn _ _, us, rfl, box, rfl, hu.1, fun u hm e => ?_, hb, hlen, _, ds_b, _, datas_fn _ _, ?_, ?_, rt_l (h _)⟩
    · have := hpos u hm
      rw [e] at this
      exact absurd this Rat.lt_irrefl
    · rw [zw_map, zw_map, List.map_map]; rfl
    · have := dOk_spans (List.zipWith fit us box) (by rw [List.length_zipWith]; omega)
      rw [zw_map, List.map_map] at this
      rw [zw_map]
      exact this
  · rintro k ρ cs' hk ⟨box, p, o5, o6, o7, o8, o9, o10, hlen, hb, p0, p1, rfl, rfl⟩ Z hz
    have hu0 := hpos _ (List.getElem_mem hk)
    have hub0 := hub _ (List.getElem_mem hk)
    generalize hU : us[k] = u at hu0 hub0
    have aU : atI (us.map encR) (k : Nat) = some (encR u) := by rw [atI_map encR hk, hU]
    unfold rd__law_boxes_right_b1
    refine stp fun T hT => ?_
    unfold T__law_take
    walk_at "fm"
    refine ⟨row, total, p, _, rfl, D.next p0 (by omega), by decide, fun v v0 v1 => ?_⟩
    rw [hT]
    refine stp fun T hT => ?_
    unfold T__law_take
    walk_at "fm"
    refine ⟨row, total, _, _, rfl, D.next (by omega) (by omega), by decide, fun w w0 w1 => ?_⟩
    obtain ⟨lo, hlo⟩ : ∃ lo : Int, lo = v - 200 := ⟨_, rfl⟩
    obtain ⟨hi, hhi⟩ : ∃ hi : Int, hi = lo + w := ⟨_, rfl⟩
    rw [← hlo, ← hhi]
    have lob : B 10 lo := by unfold B; omega
    have hib : B 10 hi := by unfold B; omega
    rw [hT]
    refine stp fun T hT => ?_
    unfold T__law_mult T_times T__law_pick
    walk_at "fm"
    refine ⟨_, aU, by unfold CPow; decide, row, total, _, _, rfl, D.next (by omega) (by omega), by decide, fun d hd => ?_⟩
    obtain ⟨x, rfl, xb, xf, xc, xs⟩ : ∃ x : Rat, d = encR x ∧ RB 100 x ∧ x.floor = -(if x < 0 then 1 else 0) ∧ x.ceil = (if 0 < x then 1 else 0) ∧ True := by
      simp only [List.mem_cons, List.not_mem_nil, or_false] at hd
      rcases hd with rfl | rfl | rfl
      · exact ⟨0, rfl, RB.mono (n := 1) ⟨by decide, by decide⟩ (by decide), by decide, by decide, trivial⟩
      · exact ⟨_, (pair_low (by decide)).1, divInt_b (by decide) (by decide) (by decide), by decide, by decide, trivial⟩
      · exact ⟨_, (pair_low (by decide)).1, divInt_b (by decide) (by decide) (by decide), by decide, by decide, trivial⟩
    walk_at "fm"
    refine ⟨hub0.mono (by decide), xb.mono (by decide), ?_⟩
    have ub : RB 160 (u * x) := hub0.mul xb
    have lowb : ∀ i : Int, B 10 i → RB 1000 (u * (i : Rat) + u * x) := fun i hi => ((hub0.mul (int_rb hi)).add ub).mono (by decide)
    have mb : ∀ i : Int, B 10 i → RB 3000 (u * (i : Rat)) := fun i hi => (hub0.mul (int_rb hi)).mono (by decide)
    rw [hT]
    refine stp fun T hT => ?_
    unfold T__law_plus T__law_mult T_times
    walk_at "fm"
    refine ⟨_, aU, ?_⟩
    simp only [int_enc, enc_eq, exists_eq_left', S.d.injEq]
    refine ⟨hub0.mono (by decide), (int_rb lob).mono (by decide), mb lo lob, ub.mono (by decide), ?_⟩
    rw [hT]
    refine stp fun T hT => ?_
    unfold T__law_plus T__law_mult T_times
    walk_at "fm"
    refine ⟨_, aU, ?_⟩
    simp only [int_enc, enc_eq, exists_eq_left', S.d.injEq]
    refine ⟨hub0.mono (by decide), (int_rb hib).mono (by decide), mb hi hib, ub.mono (by decide), ?_⟩
    -- what is due
    have une : u ≠ 0 := fun z => by rw [z] at hu0; exact absurd hu0 Rat.lt_irrefl
    have dv : ∀ i : Int, (u * (i : Rat) + u * x) / u = (i : Rat) + x := fun i => by grind
    have s1 : (u * x).num < 0 ↔ x < 0 := by
      have h1 : (u * x).num < 0 ↔ u * x < 0 := by rw [Rat.lt_iff]; simp
      have h2 := Rat.mul_lt_mul_left (a := x) (b := 0) hu0
      rw [Rat.mul_zero] at h2
      rw [h1, h2]
    have s2 : 0 < (u * x).num ↔ 0 < x := by
      have h2 := Rat.mul_lt_mul_left (a := 0) (b := x) hu0
      rw [Rat.mul_zero] at h2
      rw [num_pos, h2]
    have f1 : ((u * (lo : Rat) + u * x) / u).floor = lo - (if (u * x).num < 0 then 1 else 0) := by
      rw [dv, floor_add, xf]
      by_cases hx : x < 0
      · rw [if_pos hx, if_pos (s1.mpr hx)]; omega
      · rw [if_neg hx, if_neg fun z => hx (s1.mp z)]; omega
    have f2 : ((u * (hi : Rat) + u * x) / u).ceil = hi + (if 0 < (u * x).num then 1 else 0) := by
      rw [dv, ceil_add, xc]
      by_cases hx : 0 < x
      · rw [if_pos hx, if_pos (s2.mpr hx)]
      · rw [if_neg hx, if_neg fun z => hx (s2.mp z)]
    have el := lowb lo lob
    have eh := lowb hi hib
    have zf : List.zipWith fit us (box ++ [(u * (lo : Rat) + u * x, u * (hi : Rat) + u * x)]) = List.zipWith fit us box ++ [(((u * (lo : Rat) + u * x) / u).floor, ((u * (hi : Rat) + u * x) / u).ceil)] := by
      have hbl : box.length < us.length := by omega
      rw [zw_snoc fit us box _ hbl]
      have : us[box.length] = u := by rw [← hU]; congr 1
      rw [this]
      rfl
    generalize u * (lo : Rat) + u * x = L at f1 el zf ⊢
    generalize u * (hi : Rat) + u * x = HH at f2 eh zf ⊢
    rw [hT]
    refine stp fun T hT => ?_
    walk_at "fm"
    refine ⟨⟨_, ds_a⟩, _, ds_a, by rw [List.length_map]; omega, ?_⟩
    rw [dss_a, hT]
    refine stp fun T hT => ?_
    walk_at "fm"
    have e1 : ∀ b : Bool, (if b = true then (1 : Int) else 0) = (if b = true then 1 else 0) := fun _ => rfl
    have lz : (List.zipWith fit us box).length = k := by rw [List.length_zipWith]; omega
    refine ⟨⟨_, ds_b⟩, _, ds_b, by rw [List.length_map]; omega, ?_⟩
    rw [dss_b, hT]
    have ek : atI ((List.zipWith fit us box).map (fun w => S.d (spanD w)) ++ [S.d (PyData.tuple [PyData.int (lo - if decide ((u * x).num < 0) = true then 1 else 0), PyData.int (hi + if decide (0 < (u * x).num) = true then 1 else 0)])]) (k : Nat) = some (S.d (PyData.tuple [PyData.int (lo - if decide ((u * x).num < 0) = true then 1 else 0), PyData.int (hi + if decide (0 < (u * x).num) = true then 1 else 0)])) := by
      refine atI_nat ?_
      rw [List.getElem?_append_right (by rw [List.length_map, lz]; exact Nat.le_refl _), List.length_map, lz, Nat.sub_self]
      rfl
    simp only [decide_eq_true_eq] at ek ⊢
    unfold T__law_same T__law_sameN T_down T_up
    walk_at "fm"
    refine ⟨_, aU, u, rfl, el, hub0.mono (by decide), une, _, ds_b, _, ek, ?_⟩
    walk_at "fm"
    refine ⟨f1.symm, _, aU, u, rfl, eh, hub0.mono (by decide), une, _, ds_b, _, ek, ?_⟩
    walk_at "fm"
    refine ⟨f2.symm, hz _ _ ⟨box ++ [(L, HH)], p + 3, _, _, _, _, _, _, by simp [hlen], ?_, by omega, by omega, rfl, ?_⟩⟩
    · intro w hw
      rcases List.mem_append.mp hw with z | z
      · exact hb w z
      · have : w = (L, HH) := by simpa using z
        subst this; exact ⟨el, eh⟩
    · rw [zf, f1, f2, List.map_append, List.map_append, show p + 1 + 1 + 1 = p + 3 by omega]
      rfl
end K42

set_option Elab.async false
set_option linter.all false
set_option maxRecDepth 100000
set_option maxHeartbeats 2000000
namespace K42
open PySem L2 FL FR
local macro_rules | `(tactic| walk_at "fl") => `(tactic| simp only [dSeq, dAsg, dgName, dVar, dC, dOp, dUn, dIxK, ixkR, itemsR, dTup, dLst, dCons, dNil, dCall, dCB, dIfS, dIf, dTestR, dTru, dTruR, dRet, dRetN, dNext, dDrop, dAnd, dOr, dNot, dAndV, dOrV, dNotV, dPar, dFor, dRg1, dRg2, dItems, dgTup, dgCons, dgNil, dZip, dZipR, dIsi, isTy, tgOf, tab, dApp, dgSub, dLstM, dVarF, dBreak, dCont, dSl, dSlR, dPart, dNoPart, dLcG, dChain, dAug, dEnum,
  qI, qI0, qNeg, qEq, qNe, qIsN, qNotN, isNone, eqOk, dIxR, cAbs, cInt, cLen, cSum, cMax2, cMin2, cTup, cList, cListM, eqv_ii, eqv_bb, kFro, kMut,
  endsD, sd1, sd2, sd3, getS, getC, datas, List.length_cons, List.length_nil, List.map_cons, List.map_nil, Option.map_some, List.set_cons_zero, List.set_cons_succ, List.replicate_succ, List.replicate_zero, List.getElem?_cons_zero, List.getElem?_cons_succ, List.cons_append, List.nil_append,
  Option.some.injEq, S.d.injEq, S.ref.injEq, PyData.int.injEq, PyData.bool.injEq, PyData.list.injEq, PyData.tuple.injEq, List.cons.injEq, and_true, true_and, exists_eq_left, exists_eq_left', exists_eq_right, exists_and_left, exists_and_right, exists_const, forall_const, imp_self, reduceCtorEq, false_and, and_false, decide_eq_true_eq, decide_eq_false_iff_not, Bool.not_eq_true', Bool.not_eq_false', ne_eq, Classical.not_not, Bool.true_eq_false, Bool.false_eq_true, Nat.reduceAdd, false_implies, true_implies, implies_true, sizeLine_eq, Nat.reduceLeDiff, decide_true, decide_false, Bool.not_true, Bool.not_false, decide_not])
local macro_rules | `(tactic| walk_at "fm") => `(tactic| simp only [rgS_len, wip, dSeq, ixk_l, ixk_t, ixk_r, ixr_l, ixr_t, ixr_s, ixr_r, tru_n, tru_b, tru_i, tru_l, tru_t, tru_s, tru_r, its_l, its_t, its_r, gtup_t, eqk_i, eqk_b, eqk_s, eqk_t, eqk_l, len_l, len_t, len_s, len_r, int_i, int_b, sum_l, sum_r, tup_l, tup_t, tup_r, lis_l, lis_t, lis_r, lim_l, lim_t, lim_r, zip_t, zip_l, sl_l, sl_t, sl_r, dAsg, dgName, dVar, dC, dOp, dUn, dIxK, dTup, dLst, dCons, dNil, dCall, dCB, dIfS, dIf, dTestR, dTru, dRet, dRetN, dNext, dDrop, dAnd, dOr, dNot, dAndV, dOrV, dNotV, dPar, dFor, dRg1, dRg2, dItems, dgCons, dgNil, dZip, dIsi, isTy, tgOf, tab, dApp, dgSub, dLstM, dVarF, dBreak, dCont, dSl, dPart, dNoPart, dLcG, dChain, dAug, dEnum,
  qI, qI0, qNeg, qEq, qNe, qIsN, qNotN, isNone, qIsB, qNotB, isB, addl_i, addl_t, addl_l, cAbs, cMax2, cMin2, eqv_ii, eqv_bb, kFro, kMut,
  endsD, sd1, sd2, sd3, getS, getC, datas, List.length_cons, List.length_nil, List.map_cons, List.map_nil, Option.map_some, List.set_cons_zero, List.set_cons_succ, List.replicate_succ, List.replicate_zero, List.getElem?_cons_zero, List.getElem?_cons_succ, List.cons_append, List.nil_append,
  Option.some.injEq, S.d.injEq, S.ref.injEq, PyData.int.injEq, PyData.bool.injEq, PyData.list.injEq, PyData.tuple.injEq, List.cons.injEq, and_true, true_and, exists_eq_left, exists_eq_left', exists_eq_right, exists_and_left, exists_and_right, exists_const, exists_eq', exists_eq, ixk_enc0, ixk_enc1, not_true_eq_false, not_false_eq_true, and_self, enc_eq, dOk_enc, dOk_int, eqv_enc, datas_si, datas_map, intsOf_map, and_assoc, List.length_map, List.length_append, forall_const, imp_self, reduceCtorEq, false_and, and_false, decide_eq_true_eq, decide_eq_false_iff_not, Bool.not_eq_true', Bool.not_eq_false', ne_eq, Classical.not_not, Bool.true_eq_false, Bool.false_eq_true, Nat.reduceAdd, false_implies, true_implies, implies_true, sizeLine_eq, Nat.reduceLeDiff, decide_true, decide_false, Bool.not_true, Bool.not_false, decide_not])
structure BB (n : Nat) (b : Bnd) : Prop where
  len : b.1.length = n
  f : ∀ f ∈ b.1, RB 200 f
  r : RB 1300 b.2.1
theorem BB.ok {n : Nat} {b : Bnd} (h : BB n b) : BOk n b := ⟨h.len, fun f hf => (h.f f hf).mono (by decide), h.r.mono (by decide)⟩
theorem BB.sized {n : Nat} {b : Bnd} {t : Rat} (h : BB n b) (ht : RB 60 t) : BOk n (sized t b) := by
  obtain ⟨fs, r, s⟩ := b
  refine ⟨by rw [← h.len]; simp [K42.sized], fun f hf => ?_, (ht.mul h.r).mono (by decide)⟩
  obtain ⟨g, hg, rfl⟩ := List.mem_map.mp (show f ∈ fs.map (t * ·) from hf)
  exact (ht.mul (h.f g hg)).mono (by decide)
theorem wt_tok {us : List Rat} {b : Bnd} (hu : UOk us) (hb : BOk us.length b) : TOk us.length (wtB us b) := by
  obtain ⟨fs, r, s⟩ := b
  have hl : fs.length = us.length := hb.len
  have hl4 := hu.len
  have hwb := muls_b hu (show ∀ f ∈ fs, RB 300 f from hb.f)
  have hrb : RB 1500 r := hb.r
  have lw : (muls fs us).length = us.length := by unfold muls; rw [List.length_zipWith]; omega
  have hmb : B 7501 (lcmD (muls fs us ++ [r]) : Nat) := lcmD_b (fun x hx => by
    rcases List.mem_append.mp hx with z | z
    · exact (hwb x z).mono (by decide)
    · have : x = r := by simpa using z
      subst this; exact hrb) (by simp; omega)
  unfold wtB wt
  simp only
  generalize lcmD (muls fs us ++ [r]) = M at hmb ⊢
  have hW : ∀ n ∈ (muls fs us).map (cut M), B 9000 n := fun n hn => by
    obtain ⟨w, hw, rfl⟩ := List.mem_map.mp hn
    exact ((hwb w hw).n.mul (b_ediv hmb _)).mono (by decide)
  have hL : ((muls fs us).map (cut M)).length = us.length := by rw [List.length_map]; exact lw
  generalize (muls fs us).map (cut M) = W at hW hL ⊢
  unfold wt0
  simp only
  split
  · refine ⟨by simpa using hL, fun v hv => ?_⟩
    obtain ⟨n, hn, rfl⟩ := List.mem_map.mp hv
    exact b_ediv (hW n hn) _
  · exact ⟨hL, hW⟩
theorem mul_pos_ne {f u : Rat} (hu : 0 < u) (hf : f ≠ 0) : f * u ≠ 0 := fun z => by
  rcases Rat.mul_eq_zero.mp z with z | z
  · exact hf z
  · rw [z] at hu; exact absurd hu Rat.lt_irrefl
theorem wt_sized {us : List Rat} {b : Bnd} {t : Rat} (hl : b.1.length = us.length) (hu : ∀ u ∈ us, 0 < u) (ht : 0 < t) (hne : ∃ f ∈ b.1, f ≠ 0) : wtB us (sized t b) = wtB us b := by
  obtain ⟨fs, r, s⟩ := b
  have ez : muls (fs.map (t * ·)) us = (muls fs us).map (t * ·) := by
    unfold muls
    rw [zw_map, zw_map, List.zip_map_left, List.map_map, List.map_map]
    exact List.map_congr_left fun p _ => Rat.mul_assoc ..
  have ne : ∃ w ∈ muls fs us, w ≠ 0 := by
    obtain ⟨f, hf, h0⟩ := hne
    obtain ⟨i, hi, e⟩ := List.mem_iff_getElem.mp (show f ∈ fs from hf)
    have hl' : fs.length = us.length := hl
    have hi2 : i < us.length := by omega
    refine ⟨fs[i] * us[i], ?_, by rw [e]; exact mul_pos_ne (hu _ (List.getElem_mem hi2)) h0⟩
    unfold muls
    exact List.mem_iff_getElem.mpr ⟨i, by rw [List.length_zipWith]; omega, by simp⟩
  have ne2 : ∃ w ∈ (muls fs us).map (t * ·), w ≠ 0 := by
    obtain ⟨w, hw, h0⟩ := ne
    exact ⟨t * w, List.mem_map_of_mem hw, by rw [Rat.mul_comm]; exact mul_pos_ne ht h0⟩
  obtain ⟨c, h1⟩ := wt_norm (r := t * r) (s := s) ne2
  obtain ⟨c', h2⟩ := wt_norm (r := r) (s := s) ne
  show wt (muls (fs.map (t * ·)) us) (t * r) s = wt (muls fs us) r s
  rw [ez]
  exact norm_uniq (norm_sized ht h1) h2
theorem all_dOk {n : Nat} {α : Type} (f : α → PyData) {as : List α} (h : ∀ a ∈ as, dOk n (f a) = true) (hl : as.length ≤ 1000000) : dOk (n + 1) (.tuple (as.map f)) = true := by
  unfold dOk
  rw [Bool.and_eq_true]
  refine ⟨List.all_eq_true.mpr fun d hd => ?_, by simpa using hl⟩
  obtain ⟨w, hw, rfl⟩ := List.mem_map.mp hd
  exact h w hw
theorem two_dOk {n : Nat} {x y : PyData} (h1 : dOk n x = true) (h2 : dOk n y = true) : dOk (n + 1) (.tuple [x, y]) = true := by
  simp [dOk, h1, h2]
theorem dOk_test {m : Nat} {t : Tst} (h : TOk m t) (hm : m ≤ 4) (n : Nat) : dOk (n + 3) (testD t) = true := by
  unfold testD
  exact two_dOk (all_dOk (fun i => PyData.int i) (fun _ _ => rfl) (by rw [h.1]; omega)) rfl
theorem dOk_row {m : Nat} {w : List Tst × Int} (h : ∀ t ∈ w.1, TOk m t) (hm : m ≤ 4) (hl : w.1.length ≤ 4) : dOk 5 (rowD testD w) = true := by
  unfold rowD
  exact two_dOk (all_dOk testD (fun t ht => dOk_test (h t ht) hm 0) (by omega)) rfl
theorem pk_s {p q : Int} (h : low p q = true) (hp : 0 < p) (h1 : B 60 p) (h2 : B 60 q) : ∃ u : Rat, PyData.tuple [.int p, .int q] = encR u ∧ 0 < u ∧ RB 60 u := pk_u h hp h1 h2
theorem ixk_bnd {b : Bnd} {cs : Sto} {R : RK} : ixkR 0 (.d (bndD b)) cs R = R (.d (.tuple (b.1.map encR))) cs := propext ⟨fun ⟨_, e, q⟩ => by cases e; exact q, fun q => ⟨_, rfl, q⟩⟩
/-- the turns over the bounds of a row -/
theorem b2_turns {d : EndsD} {row : List Int} {total pos : Int} {gs : Sto} {us : List Rat} {ws : List (Int × Int)} {bs : List Bnd} {o0 o2 o4 o5 o6 o7 o8 o9 o10 o12 o13 o19 o20 o21 o22 : Option S}
    (D : Deal row total pos) (hp : pos < 2 ^ 38) (hu : UPos us) (hn : us.length ≤ 3) (hw : WOk us.length ws) (hbs : bs.length ≤ 4)
    (k : ∀ p o15 o16 o17 o18, pos ≤ p → p ≤ pos + 4 → d.nx [o0, some (.ref 2), o2, some (.d (ratsD us)), o4, o5, o6, o7, o8, o9, o10, some (.d (.tuple (ws.map spanD))), o12, o13, some (sb (bs.all (due us ws))), o15, o16, o17, o18, o19, o20, o21, o22] (DS row total p gs)) :
    ∀ (as : List Bnd) (p : Int) (a : Bool) (o15 o16 o17 o18 : Option S), (∀ b ∈ as, BB us.length b) → pos ≤ p → p + as.length ≤ pos + 4 → (a && as.all (due us ws)) = bs.all (due us ws) →
      forR okT (dgName 15) rd_law_b2 d (as.map fun b => S.d (bndD b)) [o0, some (.ref 2), o2, some (.d (ratsD us)), o4, o5, o6, o7, o8, o9, o10, some (.d (.tuple (ws.map spanD))), o12, o13, some (sb a), o15, o16, o17, o18, o19, o20, o21, o22] (DS row total p gs)
  | [], p, a, o15, o16, o17, o18, _, p0, p1, e => by
    have := k p o15 o16 o17 o18 p0 (by simp at p1; omega)
    rw [← e, List.all_nil, Bool.and_true] at this
    exact ⟨trivial, this⟩
  | b :: as, p, a, o15, o16, o17, o18, hb, p0, p1, e => by
    rw [List.map_cons, forR_cons]
    refine ⟨trivial, ?_⟩
    rw [List.length_cons] at p1
    have next := fun (q : Int) (a' : Bool) (o15 o16 o17 o18 : Option S) => b2_turns D hp hu hn hw hbs k as q a' o15 o16 o17 o18 (fun x hx => hb x (List.mem_cons_of_mem _ hx))
    generalize forR okT (dgName 15) rd_law_b2 d (as.map fun b => S.d (bndD b)) = F at next ⊢
    have hbb := hb b List.mem_cons_self
    have bok := hbb.ok
    have tok := wt_tok hu.1 bok
    have hdue : holds ws (wtB us b) = due us ws b := holds_due fun x hx => (hw.2 x hx).1
    unfold rd_law_b2
    refine stp fun T hT => ?_
    unfold T__law_holds
    walk_at "fm"
    refine ⟨us, rfl, b, rfl, ws, rfl, hu.1, bok, hw, ?_⟩
    rw [hT]
    refine stp fun T hT => ?_
    unfold T_whole_test
    walk_at "fm"
    refine ⟨us, rfl, b, rfl, hu.1, bok, ?_⟩
    rw [hT]
    refine stp fun T hT => ?_
    unfold T__law_test T_whole_test T__law_same T__law_sameN T_holds_for T__law_bool
    walk_at "fm"
    refine ⟨us, rfl, b, rfl, hu.1, bok, rfl, dOk_test tok (by omega) 2, _, rfl, ws, rfl, us.length, tok, hw, by omega, hdue.symm, ?_⟩
    -- the last statement
    have last : ∀ q o18, p ≤ q → q ≤ p + 1 → (dAsg (dAndV (dVar 14) (dVar 16)) (dgName 14)) { nx := F, rt := d.rt, bk := d.nx, ct := F } [o0, some (S.ref 2), o2, some (S.d (ratsD us)), o4, o5, o6, o7, o8, o9, o10, some (S.d (PyData.tuple (List.map spanD ws))), o12, o13, some (sb a), some (S.d (bndD b)), some (sb (due us ws b)), some (S.d (testD (wtB us b))), o18, o19, o20, o21, o22] (DS row total q gs) := fun q o18 q0 q1 => by
      walk_at "fm"
      have e' : ((a && due us ws b) && as.all (due us ws)) = bs.all (due us ws) := by rw [← e, List.all_cons, Bool.and_assoc]
      cases a
      · rw [Bool.false_and] at e'
        refine ⟨(fun z => by cases z), fun _ => next q false _ _ _ _ (by omega) (by omega) e'⟩
      · rw [Bool.true_and] at e'
        refine ⟨fun _ => next q _ _ _ _ _ (by omega) (by omega) e', (fun z => by cases z)⟩
    rw [hT]
    refine stp fun T2 hT2 => ?_
    rw [← hT2] at last
    clear hT2
    walk_at "fm"
    rw [ixk_bnd]
    walk_at "fm"
    rw [map_d]
    refine ⟨by have := hbb.len; omega, comp_flt _ (fun f => decide (f.num ≠ 0)) (fun _ => si 1) trivial _ _ (fun f hf Y Nn hy hnn => ?_) ⟨_, datas_fn _ _, fun h0 => ?_, fun h0 => last _ _ (by omega) (by omega)⟩⟩
    · unfold rd_law_t2 rd_law_e4
      walk_at "fm"
      exact ⟨fun z => hy (by simp [z]), fun z => hnn (by simp [z])⟩
    · have hne : ∃ f ∈ b.1, f ≠ 0 := by
        rw [List.length_map] at h0
        have hl0 : b.1.filter (fun f => decide (f.num ≠ 0)) ≠ [] := fun z => by rw [z] at h0; simp at h0
        obtain ⟨f, hf⟩ := List.exists_mem_of_ne_nil _ hl0
        obtain ⟨h1, h2⟩ := List.mem_filter.mp hf
        exact ⟨f, h1, fun z => by rw [z] at h2; simp at h2⟩
      unfold T__law_pick
      refine ⟨by unfold CPow; decide, row, total, p, gs, _, rfl, rfl, D.next p0 (by omega), by decide, fun d hd => ?_⟩
      obtain ⟨t, rfl, t0, tb⟩ : ∃ t : Rat, d = encR t ∧ 0 < t ∧ RB 60 t := by
        simp only [List.mem_cons, List.not_mem_nil, or_false] at hd
        rcases hd with rfl | rfl | rfl <;> exact pk_u (by decide) (by decide) (by decide) (by decide)
      have sok := hbb.sized tb
      have sw := wt_sized hbb.len hu.2 t0 hne
      refine ⟨b, t, rfl, hbb.ok.len ▸ hbb.ok, by have := hbb.len; omega, tb.mono (by decide), us, _, rfl, hu.1, sok, ?_⟩
      rw [sw]
      refine ⟨_, rfl, dOk_test tok (by omega) 2, ?_⟩
      show (true = false → _) ∧ (true = true → _)
      exact ⟨(fun z => by cases z), fun _ => last _ _ (by omega) (by omega)⟩
/-- what the first row that holds gives -/
def firstB (us : List Rat) (ws : List (Int × Int)) : List (List Bnd × Int) → PyData
  | [] => .none
  | w :: r => if w.1.all (due us ws) then .int w.2 else firstB us ws r
theorem first_eq {us : List Rat} {ws : List (Int × Int)} (hw : ∀ x ∈ ws, x.1 ≤ x.2) : ∀ tb : List (List Bnd × Int), firstD ws (tb.map fun w => (w.1.map (wtB us), w.2)) = firstB us ws tb
  | [] => rfl
  | w :: r => by
    have e : (w.1.map (wtB us)).all (holds ws) = w.1.all (due us ws) := by
      rw [List.all_map]
      congr 1
      funext b
      exact holds_due hw
    rw [List.map_cons, firstD_c, first_eq hw r]
    simp only [e]
    rfl
theorem first_dOk (us : List Rat) (ws : List (Int × Int)) : ∀ tb : List (List Bnd × Int), dOk 5 (firstB us ws tb) = true
  | [] => rfl
  | w :: r => by
    unfold firstB
    split
    · rfl
    · exact first_dOk us ws r
/-- the turns over the rows of the table -/
theorem b3_turns {d : EndsD} {row : List Int} {total pos : Int} {gs : Sto} {us : List Rat} {ws : List (Int × Int)} {tb : List (List Bnd × Int)} {xs : List S} {o0 o2 o4 o5 o6 o7 o8 o10 o20 o21 o22 : Option S} {cell : Nat}
    (hxs : getC gs cell = some xs)
    (D : Deal row total pos) (hp : pos < 2 ^ 37) (hu : UPos us) (hn : us.length ≤ 3) (hw : WOk us.length ws) (hbl : tb.length ≤ 4)
    (k : ∀ p o9 o13 o14 o15 o16 o17 o18 o19, pos ≤ p → p ≤ pos + 16 → d.nx [o0, some (.ref 2), o2, some (.d (ratsD us)), o4, o5, o6, o7, o8, o9, o10, some (.d (.tuple (ws.map spanD))), some (.d (firstB us ws tb)), o13, o14, o15, o16, o17, o18, o19, o20, o21, o22] (DS row total p gs)) :
    ∀ (as : List (List Bnd × Int)) (p : Int) (c : PyData) (o9 o13 o14 o15 o16 o17 o18 o19 : Option S), (∀ w ∈ as, (∀ b ∈ w.1, BB us.length b) ∧ w.1.length ≤ 4) → pos ≤ p → p + 4 * as.length ≤ pos + 16 → ((c = .none ∧ firstB us ws as = firstB us ws tb) ∨ ∃ i, c = .int i ∧ c = firstB us ws tb) →
      forR (fun cs => getC cs (cell + 3) = some xs) (dgTup 2 (dgCons (dgName 9) (dgCons (dgName 13) dgNil))) rd_law_b3 d (as.map fun w => S.d (rowD bndD w)) [o0, some (.ref 2), o2, some (.d (ratsD us)), o4, o5, o6, o7, o8, o9, o10, some (.d (.tuple (ws.map spanD))), some (.d c), o13, o14, o15, o16, o17, o18, o19, o20, o21, o22] (DS row total p gs)
  | [], p, c, o9, o13, o14, o15, o16, o17, o18, o19, _, p0, p1, e => by
    have := k p o9 o13 o14 o15 o16 o17 o18 o19 p0 (by simp at p1; omega)
    have ec : c = firstB us ws tb := by
      rcases e with ⟨h1, h2⟩ | ⟨i, h1, h2⟩
      · rw [h1, ← h2]; rfl
      · exact h2
    rw [← ec] at this
    exact ⟨hxs, this⟩
  | (bs, cmd) :: as, p, c, o9, o13, o14, o15, o16, o17, o18, o19, hb, p0, p1, e => by
    rw [List.map_cons, forR_cons]
    refine ⟨hxs, ?_⟩
    rw [List.length_cons] at p1
    have next := fun (q : Int) (c' : PyData) (o9 o13 o14 o15 o16 o17 o18 o19 : Option S) => b3_turns hxs D hp hu hn hw hbl k as q c' o9 o13 o14 o15 o16 o17 o18 o19 (fun x hx => hb x (List.mem_cons_of_mem _ hx))
    generalize forR (fun cs => getC cs (cell + 3) = some xs) (dgTup 2 (dgCons (dgName 9) (dgCons (dgName 13) dgNil))) rd_law_b3 d (as.map fun w => S.d (rowD bndD w)) = F at next ⊢
    obtain ⟨hbs, hbl4⟩ := hb (bs, cmd) List.mem_cons_self
    simp only at hbs hbl4
    unfold rowD
    walk_at "fm"
    unfold rd_law_b3
    refine stp fun T hT => ?_
    walk_at "fm"
    rw [hT]
    refine stp fun T hT => ?_
    walk_at "fm"
    rw [map_d]
    refine b2_turns (pos := p) (D.next p0 (by omega)) (by omega) hu hn hw hbl4 (fun q o15 o16 o17 o18 q0 q1 => ?_) bs p true _ _ _ _ hbs (by omega) (by omega) (by rw [Bool.true_and])
    simp only
    rw [hT]
    refine stp fun T hT => ?_
    unfold T_whole_row
    walk_at "fm"
    refine ⟨us, rfl, (bs, cmd), rfl, hu.1, fun b hb => (hbs b hb).ok, hbl4, ?_⟩
    have tok : ∀ t ∈ bs.map (wtB us), TOk us.length t := fun t ht => by
      obtain ⟨b, hb, rfl⟩ := List.mem_map.mp ht
      exact wt_tok hu.1 (hbs b hb).ok
    have hall : (bs.map (wtB us)).all (holds ws) = bs.all (due us ws) := by
      rw [List.all_map]
      congr 1
      funext b
      exact holds_due fun x hx => (hw.2 x hx).1
    rw [hT]
    refine stp fun T hT => ?_
    unfold T__law_same T__law_sameN
    walk_at "fm"
    rw [map_d]
    refine ⟨by omega, comp_map _ (fun b => .d (testD (wtB us b))) trivial _ _ (fun b hb R hR => ?_) ⟨_, datas_fn _ _, ?_, ?_, ?_⟩⟩
    · unfold rd_law_e5 T__law_test T_whole_test
      walk_at "fm"
      exact ⟨us, rfl, b, rfl, hu.1, (hbs b hb).ok, hR⟩
    · unfold rowD
      rw [List.map_map]; rfl
    · exact dOk_row tok (by omega) (by simpa using hbl4)
    rw [hT]
    refine stp fun T hT => ?_
    unfold T_row_holds T__law_bool
    walk_at "fm"
    refine ⟨us.length, ws, (bs.map (wtB us), cmd), rfl, rfl, tok, hw, by omega, hall.symm, ?_⟩
    rw [hT]
    rcases e with ⟨rfl, e⟩ | ⟨i, rfl, e⟩
    · walk_at "fm"
      have ef : firstB us ws ((bs, cmd) :: as) = if bs.all (due us ws) then .int cmd else firstB us ws as := rfl
      rw [ef] at e
      refine ⟨fun ha => next q _ _ _ _ _ _ _ _ _ (by omega) (by omega) (.inr ⟨cmd, rfl, ?_⟩), fun ha => next q _ _ _ _ _ _ _ _ _ (by omega) (by omega) (.inl ⟨rfl, ?_⟩)⟩
      · rw [if_pos ha] at e; exact e
      · rw [if_neg (by rw [ha]; decide)] at e; exact e
    · walk_at "fm"
      exact ⟨fun _ => next q _ _ _ _ _ _ _ _ _ (by omega) (by omega) (.inr ⟨i, rfl, e⟩), fun _ => next q _ _ _ _ _ _ _ _ _ (by omega) (by omega) (.inr ⟨i, rfl, e⟩)⟩
end K42

set_option Elab.async false
set_option linter.all false
set_option maxRecDepth 100000
set_option maxHeartbeats 2000000
namespace K42
open PySem L2 FL FR
local macro_rules | `(tactic| walk_at "fl") => `(tactic| simp only [dSeq, dAsg, dgName, dVar, dC, dOp, dUn, dIxK, ixkR, itemsR, dTup, dLst, dCons, dNil, dCall, dCB, dIfS, dIf, dTestR, dTru, dTruR, dRet, dRetN, dNext, dDrop, dAnd, dOr, dNot, dAndV, dOrV, dNotV, dPar, dFor, dRg1, dRg2, dItems, dgTup, dgCons, dgNil, dZip, dZipR, dIsi, isTy, tgOf, tab, dApp, dgSub, dLstM, dVarF, dBreak, dCont, dSl, dSlR, dPart, dNoPart, dLcG, dChain, dAug, dEnum,
  qI, qI0, qNeg, qEq, qNe, qIsN, qNotN, isNone, eqOk, dIxR, cAbs, cInt, cLen, cSum, cMax2, cMin2, cTup, cList, cListM, eqv_ii, eqv_bb, kFro, kMut,
  endsD, sd1, sd2, sd3, getS, getC, datas, List.length_cons, List.length_nil, List.map_cons, List.map_nil, Option.map_some, List.set_cons_zero, List.set_cons_succ, List.replicate_succ, List.replicate_zero, List.getElem?_cons_zero, List.getElem?_cons_succ, List.cons_append, List.nil_append,
  Option.some.injEq, S.d.injEq, S.ref.injEq, PyData.int.injEq, PyData.bool.injEq, PyData.list.injEq, PyData.tuple.injEq, List.cons.injEq, and_true, true_and, exists_eq_left, exists_eq_left', exists_eq_right, exists_and_left, exists_and_right, exists_const, forall_const, imp_self, reduceCtorEq, false_and, and_false, decide_eq_true_eq, decide_eq_false_iff_not, Bool.not_eq_true', Bool.not_eq_false', ne_eq, Classical.not_not, Bool.true_eq_false, Bool.false_eq_true, Nat.reduceAdd, false_implies, true_implies, implies_true, sizeLine_eq, Nat.reduceLeDiff, decide_true, decide_false, Bool.not_true, Bool.not_false, decide_not])
local macro_rules | `(tactic| walk_at "fm") => `(tactic| simp only [rgS_len, wip, dSeq, ixk_l, ixk_t, ixk_r, ixr_l, ixr_t, ixr_s, ixr_r, tru_n, tru_b, tru_i, tru_l, tru_t, tru_s, tru_r, its_l, its_t, its_r, gtup_t, eqk_i, eqk_b, eqk_s, eqk_t, eqk_l, len_l, len_t, len_s, len_r, int_i, int_b, sum_l, sum_r, tup_l, tup_t, tup_r, lis_l, lis_t, lis_r, lim_l, lim_t, lim_r, zip_t, zip_l, sl_l, sl_t, sl_r, dAsg, dgName, dVar, dC, dOp, dUn, dIxK, dTup, dLst, dCons, dNil, dCall, dCB, dIfS, dIf, dTestR, dTru, dRet, dRetN, dNext, dDrop, dAnd, dOr, dNot, dAndV, dOrV, dNotV, dPar, dFor, dRg1, dRg2, dItems, dgCons, dgNil, dZip, dIsi, isTy, tgOf, tab, dApp, dgSub, dLstM, dVarF, dBreak, dCont, dSl, dPart, dNoPart, dLcG, dChain, dAug, dEnum,
  qI, qI0, qNeg, qEq, qNe, qIsN, qNotN, isNone, qIsB, qNotB, isB, addl_i, addl_t, addl_l, cAbs, cMax2, cMin2, eqv_ii, eqv_bb, kFro, kMut,
  endsD, sd1, sd2, sd3, getS, getC, datas, List.length_cons, List.length_nil, List.map_cons, List.map_nil, Option.map_some, List.set_cons_zero, List.set_cons_succ, List.replicate_succ, List.replicate_zero, List.getElem?_cons_zero, List.getElem?_cons_succ, List.cons_append, List.nil_append,
  Option.some.injEq, S.d.injEq, S.ref.injEq, PyData.int.injEq, PyData.bool.injEq, PyData.list.injEq, PyData.tuple.injEq, List.cons.injEq, and_true, true_and, exists_eq_left, exists_eq_left', exists_eq_right, exists_and_left, exists_and_right, exists_const, exists_eq', exists_eq, ixk_enc0, ixk_enc1, not_true_eq_false, not_false_eq_true, and_self, enc_eq, dOk_enc, dOk_int, eqv_enc, datas_si, datas_map, intsOf_map, and_assoc, List.length_map, List.length_append, forall_const, imp_self, reduceCtorEq, false_and, and_false, decide_eq_true_eq, decide_eq_false_iff_not, Bool.not_eq_true', Bool.not_eq_false', ne_eq, Classical.not_not, Bool.true_eq_false, Bool.false_eq_true, Nat.reduceAdd, false_implies, true_implies, implies_true, sizeLine_eq, Nat.reduceLeDiff, decide_true, decide_false, Bool.not_true, Bool.not_false, decide_not])
def pr (u : Rat) : Int × Int := (u.num, (u.den : Int))
theorem enc_pr (us : List Rat) : us.map encR = (us.map pr).map spanD := by rw [List.map_map]; rfl
theorem cut_take {α : Type} (xs : List α) (k : Nat) : cutD xs none (some (k : Int)) = xs.take k := by
  have e : HT.sIx xs.length xs.length (some (k : Int)) = min k xs.length := by
    unfold HT.sIx
    simp
    omega
  have e0 : HT.sIx xs.length 0 none = 0 := rfl
  unfold cutD
  rw [e, e0, List.drop_zero, Nat.sub_zero]
  rcases Nat.le_total k xs.length with h | h
  · rw [Nat.min_eq_left h]
  · rw [Nat.min_eq_right h, List.take_length, List.take_of_length_le h]
theorem m_law : ∀ xs cs R, xs.length = 1 → Okc cs.length cs → T_law xs cs R → rd_law (endsD cs.length R) (startD 23 xs) cs := by
  rintro xs cs R hl hc ⟨rfl, ns, rfl, hn, h⟩
  unfold rd_law
  refine stp fun T hT => ?_
  unfold T__law_deal
  walk_at "fm"
  refine ⟨ns, rfl, hn, fun row total D => ?_⟩
  rw [hT]
  refine stp fun T hT => ?_
  unfold T__law_pick
  walk_at "fm"
  refine ⟨row, total, 0, [], rfl, D, by decide, fun d hd => ?_⟩
  obtain ⟨n, rfl, n1, n3⟩ : ∃ n : Nat, d = .int (n : Int) ∧ 1 ≤ n ∧ n ≤ 3 := by
    simp only [List.mem_cons, List.not_mem_nil, or_false] at hd
    rcases hd with rfl | rfl | rfl | rfl
    · exact ⟨3, rfl, by decide, by decide⟩
    · exact ⟨2, rfl, by decide, by decide⟩
    · exact ⟨1, rfl, by decide, by decide⟩
    · exact ⟨3, rfl, by decide, by decide⟩
  rw [hT]
  refine stp fun T hT => ?_
  unfold T__law_units
  walk_at "fm"
  refine ⟨row, total, _, [], n, rfl, rfl, D.next (by omega) (by omega), by omega, n3, fun us p hul hu p0 p1 => ?_⟩
  rw [hT]
  refine stp fun T hT => ?_
  unfold ratsD
  walk_at "fm"
  have hn1 : ((n : Int) - 1) = ((n - 1 : Nat) : Int) := by omega
  have k1 : cutD (us.map encR) none (some (1 : Int)) = (us.map encR).take 1 := cut_take _ 1
  rw [hn1, cut_take, k1]
  have tl : ((us.map encR).take (n - 1)).length ≤ 3 := by rw [List.length_take, List.length_map]; omega
  have tl1 : ((us.map encR).take 1).length ≤ 1 := by rw [List.length_take]; omega
  refine ⟨by omega, by omega, by omega, by omega, ?_⟩
  have tk0 : ∀ (m : Nat) (l : List (Int × Int)), (l.map spanD).take m = (l.take m).map spanD := fun m l => List.map_take.symm
  rw [enc_pr, tk0, tk0]
  have m1 : ∀ a b : Int, PyData.tuple [.int a, .int b] = spanD (a, b) := fun _ _ => rfl
  rw [m1, m1, m1]
  have sing : ∀ (l : List (Int × Int)) (x : Int × Int), l.map spanD ++ [spanD x] = (l ++ [x]).map spanD := fun l x => by rw [List.map_append]; rfl
  rw [sing, sing, sing, ← List.map_append]
  have hprb : ∀ q ∈ us.map pr, B 100 q.1 ∧ B 100 q.2 := fun q hq => by
    obtain ⟨u, hm, rfl⟩ := List.mem_map.mp hq
    exact ⟨(hu.1.b u hm).n.mono (by decide), (hu.1.b u hm).d.mono (by decide)⟩
  have hpru : ∀ q ∈ us.map pr, isUnit q = true := fun q hq => by
    obtain ⟨u, hm, rfl⟩ := List.mem_map.mp hq
    have h0 : 0 < u.num := num_pos.mpr (hu.2 u hm)
    have hr : Int.gcd u.num u.den = 1 := u.reduced
    have hd := den_pos u
    unfold isUnit low pr
    simp only [Bool.and_eq_true, decide_eq_true_eq]
    exact ⟨⟨by omega, hr⟩, h0⟩
  have hprl : (us.map pr).length = n := by rw [List.length_map]; exact hul
  generalize hps : us.map pr = ps at hprb hpru hprl ⊢
  -- the odd ones
  obtain ⟨odds, hodds⟩ : ∃ odds : List (List (Int × Int)), odds = [ps ++ ps.take 1, ps.take (n - 1), ps.take (n - 1) ++ [(0, 1)], ps.take (n - 1) ++ [(-1, 2)], ps.take (n - 1) ++ [(2, 6)]] := ⟨_, rfl⟩
  have bad : ∀ o ∈ odds, (decide (((o.length : Nat) : Int) = (n : Int)) && o.all isUnit) = false := fun o ho => by
    rw [hodds] at ho
    have lt : (ps.take (n - 1)).length = n - 1 := by rw [List.length_take]; omega
    simp only [List.mem_cons, List.not_mem_nil, or_false] at ho
    rcases ho with rfl | rfl | rfl | rfl | rfl
    · rw [decide_eq_false, Bool.false_and]
      rw [List.length_append, List.length_take]; omega
    · rw [decide_eq_false, Bool.false_and]
      omega
    · rw [List.all_append, show [((0 : Int), (1 : Int))].all isUnit = false by decide, Bool.and_false, Bool.and_false]
    · rw [List.all_append, show [((-1 : Int), (2 : Int))].all isUnit = false by decide, Bool.and_false, Bool.and_false]
    · rw [List.all_append, show [((2 : Int), (6 : Int))].all isUnit = false by decide, Bool.and_false, Bool.and_false]
  have odb : ∀ o ∈ odds, (∀ q ∈ o, B 100 q.1 ∧ B 100 q.2) ∧ o.length ≤ 100 := fun o ho => by
    rw [hodds] at ho
    have tk : ∀ m, ∀ q ∈ ps.take m, B 100 q.1 ∧ B 100 q.2 := fun m q hq => hprb q (List.mem_of_mem_take hq)
    have lt : (ps.take (n - 1)).length ≤ 3 := by rw [List.length_take]; omega
    simp only [List.mem_cons, List.not_mem_nil, or_false] at ho
    have ap : ∀ x : Int × Int, B 100 x.1 ∧ B 100 x.2 → (∀ q ∈ ps.take (n - 1) ++ [x], B 100 q.1 ∧ B 100 q.2) ∧ (ps.take (n - 1) ++ [x]).length ≤ 100 := fun x hx => ⟨fun q hq => by
      rcases List.mem_append.mp hq with z | z
      · exact tk _ q z
      · have : q = x := by simpa using z
        subst this; exact hx, by rw [List.length_append]; simp; omega⟩
    rcases ho with rfl | rfl | rfl | rfl | rfl
    · refine ⟨fun q hq => ?_, by rw [List.length_append, List.length_take]; omega⟩
      rcases List.mem_append.mp hq with z | z
      · exact hprb q z
      · exact tk _ q z
    · exact ⟨tk _, by omega⟩
    · exact ap _ (by decide)
    · exact ap _ (by decide)
    · exact ap _ (by decide)
  have eo : [PyData.tuple ((ps ++ ps.take 1).map spanD), .tuple ((ps.take (n - 1)).map spanD), .tuple ((ps.take (n - 1) ++ [(0, 1)]).map spanD), .tuple ((ps.take (n - 1) ++ [(-1, 2)]).map spanD), .tuple ((ps.take (n - 1) ++ [(2, 6)]).map spanD)] = odds.map fun o => .tuple (o.map spanD) := by rw [hodds]; rfl
  rw [eo]
  have ol : odds.length = 5 := by rw [hodds]; rfl
  clear eo hodds
  rw [hT]
  refine stp fun T hT => ?_
  unfold T_are_units
  walk_at "fm"
  have good : (decide (((ps.length : Nat) : Int) = (n : Int)) && ps.all isUnit) = true := by
    rw [Bool.and_eq_true]
    exact ⟨decide_eq_true (by omega), List.all_eq_true.mpr hpru⟩
  refine ⟨ps, rfl, hprb, by omega, fun z => absurd good z, fun _ => ?_⟩
  rw [map_d]
  refine ⟨by omega, comp_flt _ (fun _ => false) (fun _ => si 1) trivial _ _ (fun o ho Y Nn hy hnn => ?_) ?_⟩
  · unfold rd_law_t1 rd_law_e1 T_are_units
    walk_at "fm"
    have hb := bad o ho
    refine ⟨o, rfl, (odb o ho).1, (odb o ho).2, ?_⟩
    simp only [hb]
    walk_at "fm"
    exact hnn rfl
  have fe : odds.filter (fun _ => false) = [] := List.filter_eq_nil_iff.mpr fun _ _ z => by cases z
  rw [fe]
  refine ⟨[], rfl, fun z => by simp at z, fun _ => ?_⟩
  -- back to the ratios
  have eps : ps.map spanD = us.map encR := by rw [← hps]; exact (enc_pr us).symm
  rw [eps]
  clear eps bad odb good hprb hpru hprl hps fe
  generalize odds.map (fun o => PyData.tuple (o.map spanD)) = OD
  have hub := hu.1.b
  rw [hT]
  refine stp fun T hT => ?_
  unfold T__law_whole
  walk_at "fm"
  refine ⟨row, total, p, [], n, rfl, rfl, D.next (by omega) (by omega), by omega, n3, fun ws p2 hw q0 q1 => ?_⟩
  rw [hT]
  refine stp fun T hT => ?_
  walk_at "fm"
  have lz : n = (us.zip ws).length := by rw [List.length_zip, hw.1]; omega
  refine ⟨by omega, by omega, by omega, ?_⟩
  rw [Int.toNat_natCast]
  refine comp_rng (fun q : Rat × (Int × Int) => .d (boxD (q.1 * (q.2.1 : Rat), q.1 * (q.2.2 : Rat)))) (us.zip ws) lz (fun i hi R hR => ?_) ?_
  · have hi1 : i < us.length := by omega
    have hi2 : i < ws.length := by rw [hw.1]; omega
    have hw2 := hw.2 _ (List.getElem_mem hi2)
    have hu2 := hub _ (List.getElem_mem hi1)
    unfold rd_law_e2 T__law_mult T_times
    walk_at "fm"
    rw [List.getElem_zip] at hR
    refine ⟨_, atI_map encR hi1, _, atI_map spanD hi2, ?_⟩
    unfold spanD
    walk_at "fm"
    simp only [int_enc, enc_eq, exists_eq_left']
    refine ⟨hu2.mono (by decide), (int_rb hw2.2.1).mono (by decide), _, atI_map encR hi1, _, atI_map (fun w : Int × Int => PyData.tuple [.int w.1, .int w.2]) hi2, ?_⟩
    walk_at "fm"
    simp only [int_enc, enc_eq, exists_eq_left']
    exact ⟨hu2.mono (by decide), (int_rb hw2.2.2).mono (by decide), hR⟩
  refine ⟨_, datas_fn _ _, ?_⟩
  rw [hT]
  refine stp fun T hT => ?_
  unfold T_worth_of T__law_same T__law_sameN
  walk_at "fm"
  have hw' : WOk us.length ws := by rw [hul]; exact hw
  have wdk : dOk 5 (.tuple (List.zipWith (fun u (w : Int × Int) => boxD (u * (w.1 : Rat), u * (w.2 : Rat))) us ws)) = true := by
    rw [zw_map]
    exact all_dOk (fun p : Rat × (Int × Int) => boxD (p.1 * (p.2.1 : Rat), p.1 * (p.2.2 : Rat))) (fun _ _ => two_dOk (dOk_enc 1 _) (dOk_enc 1 _)) (by omega)
  refine ⟨us, rfl, ws, rfl, hu.1, hw', (zw_map (fun (u : Rat) (w : Int × Int) => boxD (u * (w.1 : Rat), u * (w.2 : Rat))) us ws).symm, wdk, ?_⟩
  generalize PyData.tuple ((us.zip ws).map fun q => boxD (q.1 * (q.2.1 : Rat), q.1 * (q.2.2 : Rat))) = WO
  rw [hT]
  refine stp fun T hT => ?_
  walk_at "fm"
  simp only [DS_len, DS_app, List.nil_append, List.length_nil, Nat.zero_add]
  rw [hT]
  refine stp fun T hT => ?_
  walk_at "fm"
  refine ⟨by decide, by decide, ?_⟩
  refine for_rng 3 (fun k ρ cs' => ∃ (tb : List (List Bnd × Int)) (q : Int) (o8 o9 : Option S), tb.length = k ∧ (∀ w ∈ tb, (∀ b ∈ w.1, BB us.length b) ∧ w.1.length ≤ 4) ∧ 0 ≤ q ∧ q ≤ 100 + 1000 * (k : Nat) ∧
      ρ = [some (S.d (PyData.list (List.map PyData.int ns))), some (S.ref 2), some (S.d (PyData.int ↑n)), some (S.d (PyData.tuple (List.map encR us))), some (S.d (PyData.list OD)), some (S.d (PyData.tuple (List.map spanD ws))), some (S.d WO), some (S.ref 3), o8, o9, none, none, none, none, none, none, none, none, none, none, none, none, none] ∧
      cs' = DS row total q [some (tb.map fun w => S.d (rowD bndD w))]) ?_ ?_ ⟨[], p2, _, _, rfl, by simp, by omega, by omega, rfl, rfl⟩
  rotate_left
  · rintro k ρ cs' hk ⟨tb, q, o8, o9, htl, htb, r0, r1, rfl, rfl⟩ Z hz
    unfold rd_law_b1
    refine stp fun T hT => ?_
    unfold T__law_take
    walk_at "fm"
    refine ⟨row, total, q, _, rfl, D.next (by omega) (by omega), by decide, fun m m0 m1 => ?_⟩
    refine ⟨by omega, by omega, by omega, ?_⟩
    obtain ⟨m', hm'⟩ : ∃ m' : Nat, m' = (1 + m).toNat := ⟨_, rfl⟩
    rw [← hm']
    have hm4 : m' ≤ 4 := by omega
    unfold rgS
    refine comp_st (fun k : Nat => si (0 + (k : Nat))) (fun as acc cs' => ∃ bs q', acc = bs.map (fun b => S.d (bndD b)) ∧ bs.length + as.length = m' ∧ (∀ b ∈ bs, BB us.length b) ∧ q + 1 ≤ q' ∧ q' ≤ q + 1 + 200 * (bs.length : Nat) ∧ cs' = DS row total q' [some (tb.map fun w => S.d (rowD bndD w))]) (fun _ _ _ _ => trivial) ?_ ?_ _ _ _ ⟨[], q + 1, rfl, by simp, by simp, by omega, by simp, rfl⟩
    rotate_left
    · rintro a as acc cs' ⟨bs, q', rfl, hlen, hbb, h0, h1, rfl⟩ Z hz
      rw [List.length_cons] at hlen
      unfold rd_law_e3 T__law_bound dYes
      walk_at "fm"
      refine ⟨row, total, q', _, us, rfl, ws, rfl, rfl, D.next (by omega) (by omega), by omega, hu.1, by omega, by omega, hw', fun b q2 e1 e2 e3 g0 g1 => hz _ _ ⟨bs ++ [b], q2, by simp, by simp; omega, ?_, by omega, by simp; omega, rfl⟩⟩
      intro x hx
      rcases List.mem_append.mp hx with z | z
      · exact hbb x z
      · have : x = b := by simpa using z
        subst this; exact ⟨e1, e2, e3⟩
    rintro acc cs' ⟨bs, q', rfl, hlen, hbb, h0, h1, rfl⟩
    have hbl : bs.length = m' := by simpa using hlen
    refine ⟨_, datas_fn _ _, ?_⟩
    rw [hT]
    unfold T__law_take
    walk_at "fm"
    refine ⟨⟨_, rfl⟩, row, total, q', _, rfl, D.next (by omega) (by omega), by decide, fun v v0 v1 => ⟨_, rfl, by rw [List.length_map]; omega, hz _ _ ⟨tb ++ [(bs, v)], q' + 1, _, _, by simp [htl], ?_, by omega, ?_, rfl, ?_⟩⟩⟩
    · intro x hx
      rcases List.mem_append.mp hx with z | z
      · exact htb x z
      · have : x = (bs, v) := by simpa using z
        subst this; exact ⟨hbb, by simp only; omega⟩
    · omega
    · rw [List.map_append]; rfl
  rintro ρ cs' ⟨tb, q, o8, o9, htl, htb, r0, r1, rfl, rfl⟩
  simp only
  rw [hT]
  refine stp fun T hT => ?_
  unfold T__law_whole
  walk_at "fm"
  refine ⟨row, total, q, _, n, rfl, rfl, D.next (by omega) (by omega), by omega, n3, fun ws2 p3 hw2 g0 g1 => ?_⟩
  have hw2' : WOk us.length ws2 := by rw [hul]; exact hw2
  obtain ⟨xs, hxs⟩ : ∃ xs, xs = tb.map fun w => S.d (rowD bndD w) := ⟨_, rfl⟩
  rw [hT]
  refine stp fun T hT => ?_
  walk_at "fm"
  refine for_all (fun w : List (Int × Int) => S.d (.tuple (w.map spanD))) (fun as ρ cs' => ∃ (q : Int) (o9 o11 o12 o13 o14 o15 o16 o17 o18 o19 o20 o21 o22 : Option S), (∀ w ∈ as, WOk us.length w) ∧ 0 ≤ q ∧ q + 20 * (as.length : Nat) ≤ 10000 ∧
      ρ = [some (S.d (PyData.list (List.map PyData.int ns))), some (S.ref 2), some (S.d (PyData.int ↑n)), some (S.d (PyData.tuple (List.map encR us))), some (S.d (PyData.list OD)), some (S.d (PyData.tuple (List.map spanD ws))), some (S.d WO), some (S.ref 3), o8, o9, some (S.d (PyData.tuple (List.map spanD ws2))), o11, o12, o13, o14, o15, o16, o17, o18, o19, o20, o21, o22] ∧
      cs' = DS row total q [some xs]) (fun _ _ _ _ => trivial) ?_ ?_ [ws, ws2] _ _ ⟨p3, _, _, _, _, _, _, _, _, _, _, _, _, _, ?_, by omega, by simp; omega, rfl, by rw [hxs]⟩
  · rintro ρ cs' ⟨q, o9, o11, o12, o13, o14, o15, o16, o17, o18, o19, o20, o21, o22, _, r0, r1, rfl, rfl⟩
    simp only
    rw [hT]
    unfold T__law_boxes_right
    walk_at "fm"
    simp at r1
    refine ⟨row, total, q, us, rfl, ⟨_, rfl⟩, D.next (by omega) (by omega), by omega, hu, by omega, fun cs' => rt_l (h cs')⟩
  · rintro w as ρ cs' ⟨q, o9, o11, o12, o13, o14, o15, o16, o17, o18, o19, o20, o21, o22, hws, r0, r1, rfl, rfl⟩ Z hz
    rw [List.length_cons] at r1
    have hww := hws w List.mem_cons_self
    unfold rd_law_b4
    refine stp fun T hT => ?_
    walk_at "fm"
    rw [hT]
    refine stp fun T hT => ?_
    walk_at "fm"
    refine ⟨_, rfl, ?_⟩
    subst hxs
    refine b3_turns (gs := [some _]) (cell := 0) rfl (D.next (p := q) (by omega) (by omega)) (by omega) hu (by omega) hww (by omega) (fun p o9 o13 o14 o15 o16 o17 o18 o19 q0 q1 => ?_) tb q .none _ _ _ _ _ _ _ _ htb (by omega) (by omega) (.inl ⟨rfl, rfl⟩)
    rw [hT]
    unfold T_command_in T_whole_table T__law_same T__law_sameN
    walk_at "fm"
    have fe : firstD w (tb.map fun w => (w.1.map (wtB us), w.2)) = firstB us w tb := first_eq (fun x hx => (hww.2 x hx).1) tb
    refine ⟨_, rfl, _, datas_fn _ _, us, rfl, tb, rfl, hu.1, fun x hx => ⟨fun b hb => ((htb x hx).1 b hb).ok, (htb x hx).2⟩, by omega, us.length, w, _, rfl, rfl, ?_, hww, by omega, fe.symm, ?_, hz _ _ ⟨p, _, _, _, _, _, _, _, _, _, _, _, _, _, fun x hx => hws x (List.mem_cons_of_mem _ hx), by omega, by omega, rfl, rfl⟩⟩
    · intro x hx t ht
      obtain ⟨y, hy, rfl⟩ := List.mem_map.mp hx
      obtain ⟨b, hb, rfl⟩ := List.mem_map.mp ht
      exact wt_tok hu.1 ((htb y hy).1 b hb).ok
    · rw [fe]; exact first_dOk us w tb
  · intro w hm
    simp only [List.mem_cons, List.not_mem_nil, or_false] at hm
    rcases hm with rfl | rfl
    · exact hw'
    · exact hw2'
end K42

set_option Elab.async false
set_option linter.all false
set_option maxRecDepth 100000
set_option maxHeartbeats 4000000
namespace K42
open PySem L2 FL FR
def top (i : Nat) : Stmt := PySem.Challenge.pw_surepilot_k42_whole_tests_of_great_numbe.main.body.getD i (.Pass ⟨0, 0, 0, 0⟩)
structure Txt (K : PySem.W.Frag) (mg : Str → Option Value) : Prop where
  b_abs : mg "abs" = none
  b_zip : mg "zip" = none
  b_tuple : mg "tuple" = none
  b_min : mg "min" = none
  b_sum : mg "sum" = none
  b_len : mg "len" = none
  b_range : mg "range" = none
  b_int : mg "int" = none
  b_isinstance : mg "isinstance" = none
  b_list : mg "list" = none
  b_bool : mg "bool" = none
  b_str : mg "str" = none
  c_NOTHING : GlobD K mg "NOTHING" c_NOTHING
section
variable {P : Program} {w : World} {K : PySem.W.Frag} {mg : Str → Option Value} {base : Heap}
abbrev s_greatest_divisor : Stmt := top 2
theorem sc_greatest_divisor : FnScope ["p", "q"] ["p", "q"] (defScope s_greatest_divisor) := ⟨rfl, rfl, rfl, by decide +kernel, rfl, by decide +kernel, by decide +kernel⟩
theorem ok_greatest_divisor {f : Addr} {fd : FuncData} (F : Fun K "greatest_divisor" "greatest_divisor" s_greatest_divisor f fd) (T : Txt K mg)  : FnOk P w K mg base CX0 1 f fd ["p", "q"] (spD K 2 T_greatest_divisor) := by
  refine fn_okD (k := 0) F sc_greatest_divisor rfl fun cdv A outer s H hr => ⟨rd_greatest_divisor, ?_, m_greatest_divisor⟩
  exact (ess_cons (es_while PassesOwn.never (et_ne hr.units (ee_var 1) ee_int)
    (ess_one (es_par 0 1 rfl sc_greatest_divisor.nd rfl rfl (by decide) rfl rfl (ea_cons (ee_var 1) (ea_cons (ee_mod (ee_var 0) (ee_var 1)) ea_nil)) (by rfl))))
    (ess_one (es_ret (ec_abs (by rfl) T.b_abs (ea_cons (ee_var 0) ea_nil)))))
abbrev s_ratio : Stmt := top 3
theorem sc_ratio : FnScope ["p", "q", "shared"] ["p", "q"] (defScope s_ratio) := ⟨rfl, rfl, rfl, by decide +kernel, rfl, by decide +kernel, by decide +kernel⟩
theorem ok_ratio {f : Addr} {fd : FuncData} (F : Fun K "ratio" "ratio" s_ratio f fd) (T : Txt K mg) (D_greatest_divisor : DefAt P w K mg base 1 "greatest_divisor" ["p", "q"] T_greatest_divisor) : FnOk P w K mg base CX0 2 f fd ["p", "q"] (spD K 2 T_ratio) := by
  refine fn_okD (k := 1) F sc_ratio rfl fun cdv A outer s H hr => ⟨rd_ratio, ?_, m_ratio⟩
  exact (ess_cons (es_if (et_lt (ee_var 1) ee_int)
    (ess_cons (es_set 0 sc_ratio.nd rfl (by first | exact Or.inl rfl | exact Or.inr rfl) (ee_neg (ee_var 0)))
    (ess_one (es_set 1 sc_ratio.nd rfl (by first | exact Or.inl rfl | exact Or.inr rfl) (ee_neg (ee_var 1)))))
    ess_nil)
    (ess_cons (es_set 2 sc_ratio.nd rfl (by first | exact Or.inl rfl | exact Or.inr rfl) (ee_call D_greatest_divisor hr (by decide) (by rfl) (ea_cons (ee_var 0) (ea_cons (ee_var 1) ea_nil))))
    (ess_one (es_ret (ee_tup (ea_cons (ee_div (ee_var 0) (ee_var 2)) (ea_cons (ee_div (ee_var 1) (ee_var 2)) ea_nil)))))))
abbrev s_times : Stmt := top 4
theorem sc_times : FnScope ["s", "t"] ["s", "t"] (defScope s_times) := ⟨rfl, rfl, rfl, by decide +kernel, rfl, by decide +kernel, by decide +kernel⟩
theorem ok_times {f : Addr} {fd : FuncData} (F : Fun K "times" "times" s_times f fd) (T : Txt K mg) (D_ratio : DefAt P w K mg base 2 "ratio" ["p", "q"] T_ratio) : FnOk P w K mg base CX0 3 f fd ["s", "t"] (spD K 2 T_times) := by
  refine fn_okD (k := 2) F sc_times rfl fun cdv A outer s H hr => ⟨rd_times, ?_, m_times⟩
  exact (ess_one (es_ret (ee_call D_ratio hr (by decide) (by rfl) (ea_cons (ee_mul (ee_ixk (n := 0) rfl (ee_var 0)) (ee_ixk (n := 0) rfl (ee_var 1))) (ea_cons (ee_mul (ee_ixk (n := 1) rfl (ee_var 0)) (ee_ixk (n := 1) rfl (ee_var 1))) ea_nil)))))
abbrev s_over : Stmt := top 5
theorem sc_over : FnScope ["s", "t"] ["s", "t"] (defScope s_over) := ⟨rfl, rfl, rfl, by decide +kernel, rfl, by decide +kernel, by decide +kernel⟩
theorem ok_over {f : Addr} {fd : FuncData} (F : Fun K "over" "over" s_over f fd) (T : Txt K mg) (D_ratio : DefAt P w K mg base 2 "ratio" ["p", "q"] T_ratio) : FnOk P w K mg base CX0 3 f fd ["s", "t"] (spD K 2 T_over) := by
  refine fn_okD (k := 2) F sc_over rfl fun cdv A outer s H hr => ⟨rd_over, ?_, m_over⟩
  exact (ess_one (es_ret (ee_call D_ratio hr (by decide) (by rfl) (ea_cons (ee_mul (ee_ixk (n := 0) rfl (ee_var 0)) (ee_ixk (n := 1) rfl (ee_var 1))) (ea_cons (ee_mul (ee_ixk (n := 1) rfl (ee_var 0)) (ee_ixk (n := 0) rfl (ee_var 1))) ea_nil)))))
abbrev s_compare : Stmt := top 6
theorem sc_compare : FnScope ["s", "t", "difference"] ["s", "t"] (defScope s_compare) := ⟨rfl, rfl, rfl, by decide +kernel, rfl, by decide +kernel, by decide +kernel⟩
theorem ok_compare {f : Addr} {fd : FuncData} (F : Fun K "compare" "compare" s_compare f fd) (T : Txt K mg)  : FnOk P w K mg base CX0 1 f fd ["s", "t"] (spD K 2 T_compare) := by
  refine fn_okD (k := 0) F sc_compare rfl fun cdv A outer s H hr => ⟨rd_compare, ?_, m_compare⟩
  exact (ess_cons (es_set 2 sc_compare.nd rfl (by first | exact Or.inl rfl | exact Or.inr rfl) (ee_sub (ee_mul (ee_ixk (n := 0) rfl (ee_var 0)) (ee_ixk (n := 1) rfl (ee_var 1))) (ee_mul (ee_ixk (n := 0) rfl (ee_var 1)) (ee_ixk (n := 1) rfl (ee_var 0)))))
    (ess_cons (es_if (et_lt (ee_var 2) ee_int)
    (ess_one (es_ret (ee_neg ee_int)))
    ess_nil)
    (ess_cons (es_if (et_gt (ee_var 2) ee_int)
    (ess_one (es_ret ee_int))
    ess_nil)
    (ess_one (es_ret ee_int)))))
abbrev s_is_ratio : Stmt := top 7
theorem sc_is_ratio : FnScope ["pair"] ["pair"] (defScope s_is_ratio) := ⟨rfl, rfl, rfl, by decide +kernel, rfl, by decide +kernel, by decide +kernel⟩
theorem ok_is_ratio {f : Addr} {fd : FuncData} (F : Fun K "is_ratio" "is_ratio" s_is_ratio f fd) (T : Txt K mg) (D_greatest_divisor : DefAt P w K mg base 1 "greatest_divisor" ["p", "q"] T_greatest_divisor) : FnOk P w K mg base CX0 2 f fd ["pair"] (spD K 1 T_is_ratio) := by
  refine fn_okD (k := 1) F sc_is_ratio rfl fun cdv A outer s H hr => ⟨rd_is_ratio, ?_, m_is_ratio⟩
  exact (ess_one (es_ret (ee_and (ee_ge (ee_ixk (n := 1) rfl (ee_var 0)) ee_int) (ee_one (ee_eq hr.units (ee_call D_greatest_divisor hr (by decide) (by rfl) (ea_cons (ee_ixk (n := 0) rfl (ee_var 0)) (ea_cons (ee_ixk (n := 1) rfl (ee_var 0)) ea_nil))) ee_int)))))
abbrev s_common_multiple : Stmt := top 9
theorem sc_common_multiple : FnScope ["ratios", "found", "_", "q"] ["ratios"] (defScope s_common_multiple) := ⟨rfl, rfl, rfl, by decide +kernel, rfl, by decide +kernel, by decide +kernel⟩
theorem ok_common_multiple {f : Addr} {fd : FuncData} (F : Fun K "common_multiple" "common_multiple" s_common_multiple f fd) (T : Txt K mg) (D_greatest_divisor : DefAt P w K mg base 1 "greatest_divisor" ["p", "q"] T_greatest_divisor) : FnOk P w K mg base CX0 2 f fd ["ratios"] (spD K 1 T_common_multiple) := by
  refine fn_okD (k := 1) F sc_common_multiple rfl fun cdv A outer s H hr => ⟨rd_common_multiple, ?_, m_common_multiple⟩
  exact (ess_cons (es_set 1 sc_common_multiple.nd rfl (by first | exact Or.inl rfl | exact Or.inr rfl) ee_int)
    (ess_cons (es_for PassesOwn.never rfl (ei_items (ee_var 0)) (eg_tup rfl (egs_cons (ks := [2, 3]) (eg_name (i := 2) sc_common_multiple.nd rfl (by first | exact Or.inl rfl | exact Or.inr rfl)) (egs_cons (ks := [3]) (eg_name (i := 3) sc_common_multiple.nd rfl (by first | exact Or.inl rfl | exact Or.inr rfl)) (egs_nil (is := [])) (by decide) (by decide)) (by decide) (by decide)))
    (ess_one (es_set 1 sc_common_multiple.nd rfl (by first | exact Or.inl rfl | exact Or.inr rfl) (ee_div (ee_mul (ee_var 1) (ee_var 3)) (ee_call D_greatest_divisor hr (by decide) (by rfl) (ea_cons (ee_var 1) (ea_cons (ee_var 3) ea_nil)))))))
    (ess_one (es_ret (ee_var 1)))))
abbrev s_common_divisor : Stmt := top 10
theorem sc_common_divisor : FnScope ["numbers", "found", "number"] ["numbers"] (defScope s_common_divisor) := ⟨rfl, rfl, rfl, by decide +kernel, rfl, by decide +kernel, by decide +kernel⟩
theorem ok_common_divisor {f : Addr} {fd : FuncData} (F : Fun K "common_divisor" "common_divisor" s_common_divisor f fd) (T : Txt K mg) (D_greatest_divisor : DefAt P w K mg base 1 "greatest_divisor" ["p", "q"] T_greatest_divisor) : FnOk P w K mg base CX0 2 f fd ["numbers"] (spD K 1 T_common_divisor) := by
  refine fn_okD (k := 1) F sc_common_divisor rfl fun cdv A outer s H hr => ⟨rd_common_divisor, ?_, m_common_divisor⟩
  exact (ess_cons (es_set 1 sc_common_divisor.nd rfl (by first | exact Or.inl rfl | exact Or.inr rfl) ee_int)
    (ess_cons (es_for PassesOwn.never rfl (ei_items (ee_var 0)) (eg_name (i := 2) sc_common_divisor.nd rfl (by first | exact Or.inl rfl | exact Or.inr rfl))
    (ess_one (es_if (et_ne hr.units (ee_var 2) ee_int)
    (ess_one (es_set 1 sc_common_divisor.nd rfl (by first | exact Or.inl rfl | exact Or.inr rfl) (ee_call D_greatest_divisor hr (by decide) (by rfl) (ea_cons (ee_var 2) (ea_cons (ee_var 1) ea_nil)))))
    ess_nil)))
    (ess_one (es_ret (ee_var 1)))))
abbrev s_whole_test : Stmt := top 11
theorem sc_whole_test : FnScope ["units", "bound", "factors", "rest", "strict", "scaled", "many", "whole", "number", "shared", "factor", "d", "p", "q"] ["units", "bound"] (defScope s_whole_test) := ⟨rfl, rfl, rfl, by decide +kernel, rfl, by decide +kernel, by decide +kernel⟩
theorem ok_whole_test {f : Addr} {fd : FuncData} (F : Fun K "whole_test" "whole_test" s_whole_test f fd) (T : Txt K mg) (D_times : DefAt P w K mg base 3 "times" ["s", "t"] T_times) (D_common_multiple : DefAt P w K mg base 2 "common_multiple" ["ratios"] T_common_multiple) (D_common_divisor : DefAt P w K mg base 2 "common_divisor" ["numbers"] T_common_divisor) : FnOk P w K mg base CX0 4 f fd ["units", "bound"] (spD K 2 T_whole_test) := by
  refine fn_okD (k := 3) F sc_whole_test rfl fun cdv A outer s H hr => ⟨rd_whole_test, ?_, m_whole_test⟩
  exact (ess_cons (es_asg (ee_var 1) (eg_tup rfl (egs_cons (ks := [2, 3, 4]) (eg_name (i := 2) sc_whole_test.nd rfl (by first | exact Or.inl rfl | exact Or.inr rfl)) (egs_cons (ks := [3, 4]) (eg_name (i := 3) sc_whole_test.nd rfl (by first | exact Or.inl rfl | exact Or.inr rfl)) (egs_cons (ks := [4]) (eg_name (i := 4) sc_whole_test.nd rfl (by first | exact Or.inl rfl | exact Or.inr rfl)) (egs_nil (is := [])) (by decide) (by decide)) (by decide) (by decide)) (by decide) (by decide))))
    (ess_cons (by first
      | exact es_setLcG 5 (own := [("factor", 10), ("d", 11)]) kok_fro (by decide) rfl sc_whole_test.nd rfl rfl (sw_true rfl rfl rfl (by decide +kernel)) (ei_zip (by rfl) T.b_zip (ea_cons (ee_var 2) (ea_cons (ee_var 0) ea_nil))) (blkOk_by (own := [("factor", 10), ("d", 11)]) (N := ["units", "bound", "factors", "rest", "strict", "scaled", "many", "whole", "number", "shared", "factor", "d", "p", "q"]) (sc := defScope s_whole_test) (by decide +kernel)) (fun _ _ _ _ _ => (eg_tup rfl (egs_cons (ks := [10, 11]) (eg_name (i := 10) sc_whole_test.nd rfl (by first | exact Or.inl rfl | exact Or.inr rfl)) (egs_cons (ks := [11]) (eg_name (i := 11) sc_whole_test.nd rfl (by first | exact Or.inl rfl | exact Or.inr rfl)) (egs_nil (is := [])) (by decide) (by decide)) (by decide) (by decide)))) (fun _ _ _ _ _ => epts_nil) (fun _ _ _ _ _ => (ee_call D_times hr (by decide) (by rfl) (ea_cons (ee_var 10) (ea_cons (ee_var 11) ea_nil))))
      | exact es_set 5 sc_whole_test.nd rfl (by first | exact Or.inl rfl | exact Or.inr rfl) (ee_lcG (own := [("factor", 10), ("d", 11)]) kok_fro (by decide) rfl sc_whole_test.nd (ei_zip (by rfl) T.b_zip (ea_cons (ee_var 2) (ea_cons (ee_var 0) ea_nil))) (blkOk_by (own := [("factor", 10), ("d", 11)]) (N := ["units", "bound", "factors", "rest", "strict", "scaled", "many", "whole", "number", "shared", "factor", "d", "p", "q"]) (sc := defScope s_whole_test) (by decide +kernel)) (fun _ _ _ _ _ => (eg_tup rfl (egs_cons (ks := [10, 11]) (eg_name (i := 10) sc_whole_test.nd rfl (by first | exact Or.inl rfl | exact Or.inr rfl)) (egs_cons (ks := [11]) (eg_name (i := 11) sc_whole_test.nd rfl (by first | exact Or.inl rfl | exact Or.inr rfl)) (egs_nil (is := [])) (by decide) (by decide)) (by decide) (by decide)))) (fun _ _ _ _ _ => epts_nil) (fun _ _ _ _ _ => (ee_call D_times hr (by decide) (by rfl) (ea_cons (ee_var 10) (ea_cons (ee_var 11) ea_nil))))))
    (ess_cons (es_set 6 sc_whole_test.nd rfl (by first | exact Or.inl rfl | exact Or.inr rfl) (ee_call D_common_multiple hr (by decide) (by rfl) (ea_cons (ee_addL (ee_var 5) (ee_lst (ea_cons (ee_var 3) ea_nil))) ea_nil)))
    (ess_cons (by first
      | exact es_setLcG 7 (own := [("p", 12), ("q", 13)]) kok_fro (by decide) rfl sc_whole_test.nd rfl rfl (sw_true rfl rfl rfl (by decide +kernel)) (ei_items (ee_var 5)) (blkOk_by (own := [("p", 12), ("q", 13)]) (N := ["units", "bound", "factors", "rest", "strict", "scaled", "many", "whole", "number", "shared", "factor", "d", "p", "q"]) (sc := defScope s_whole_test) (by decide +kernel)) (fun _ _ _ _ _ => (eg_tup rfl (egs_cons (ks := [12, 13]) (eg_name (i := 12) sc_whole_test.nd rfl (by first | exact Or.inl rfl | exact Or.inr rfl)) (egs_cons (ks := [13]) (eg_name (i := 13) sc_whole_test.nd rfl (by first | exact Or.inl rfl | exact Or.inr rfl)) (egs_nil (is := [])) (by decide) (by decide)) (by decide) (by decide)))) (fun _ _ _ _ _ => epts_nil) (fun _ _ _ _ _ => (ee_mul (ee_var 12) (ee_div (ee_var 6) (ee_var 13))))
      | exact es_set 7 sc_whole_test.nd rfl (by first | exact Or.inl rfl | exact Or.inr rfl) (ee_lcG (own := [("p", 12), ("q", 13)]) kok_fro (by decide) rfl sc_whole_test.nd (ei_items (ee_var 5)) (blkOk_by (own := [("p", 12), ("q", 13)]) (N := ["units", "bound", "factors", "rest", "strict", "scaled", "many", "whole", "number", "shared", "factor", "d", "p", "q"]) (sc := defScope s_whole_test) (by decide +kernel)) (fun _ _ _ _ _ => (eg_tup rfl (egs_cons (ks := [12, 13]) (eg_name (i := 12) sc_whole_test.nd rfl (by first | exact Or.inl rfl | exact Or.inr rfl)) (egs_cons (ks := [13]) (eg_name (i := 13) sc_whole_test.nd rfl (by first | exact Or.inl rfl | exact Or.inr rfl)) (egs_nil (is := [])) (by decide) (by decide)) (by decide) (by decide)))) (fun _ _ _ _ _ => epts_nil) (fun _ _ _ _ _ => (ee_mul (ee_var 12) (ee_div (ee_var 6) (ee_var 13))))))
    (ess_cons (es_set 8 sc_whole_test.nd rfl (by first | exact Or.inl rfl | exact Or.inr rfl) (ee_sub (ee_mul (ee_ixk (n := 0) rfl (ee_var 3)) (ee_div (ee_var 6) (ee_ixk (n := 1) rfl (ee_var 3)))) (ee_if (et_tru (ee_var 4)) ee_int ee_int)))
    (ess_cons (es_set 9 sc_whole_test.nd rfl (by first | exact Or.inl rfl | exact Or.inr rfl) (ee_call D_common_divisor hr (by decide) (by rfl) (ea_cons (ee_var 7) ea_nil)))
    (ess_cons (es_if (et_gt (ee_var 9) ee_int)
    (ess_cons (by first
      | exact es_setLcG 7 (own := [("factor", 10)]) kok_fro (by decide) rfl sc_whole_test.nd rfl rfl (sw_true rfl rfl rfl (by decide +kernel)) (ei_items (ee_var 7)) (blkOk_by (own := [("factor", 10)]) (N := ["units", "bound", "factors", "rest", "strict", "scaled", "many", "whole", "number", "shared", "factor", "d", "p", "q"]) (sc := defScope s_whole_test) (by decide +kernel)) (fun _ _ _ _ _ => (eg_name (i := 10) sc_whole_test.nd rfl (by first | exact Or.inl rfl | exact Or.inr rfl))) (fun _ _ _ _ _ => epts_nil) (fun _ _ _ _ _ => (ee_div (ee_var 10) (ee_var 9)))
      | exact es_set 7 sc_whole_test.nd rfl (by first | exact Or.inl rfl | exact Or.inr rfl) (ee_lcG (own := [("factor", 10)]) kok_fro (by decide) rfl sc_whole_test.nd (ei_items (ee_var 7)) (blkOk_by (own := [("factor", 10)]) (N := ["units", "bound", "factors", "rest", "strict", "scaled", "many", "whole", "number", "shared", "factor", "d", "p", "q"]) (sc := defScope s_whole_test) (by decide +kernel)) (fun _ _ _ _ _ => (eg_name (i := 10) sc_whole_test.nd rfl (by first | exact Or.inl rfl | exact Or.inr rfl))) (fun _ _ _ _ _ => epts_nil) (fun _ _ _ _ _ => (ee_div (ee_var 10) (ee_var 9)))))
    (ess_one (es_set 8 sc_whole_test.nd rfl (by first | exact Or.inl rfl | exact Or.inr rfl) (ee_div (ee_var 8) (ee_var 9)))))
    ess_nil)
    (ess_one (es_ret (ee_tup (ea_cons (ec_tuple (by rfl) T.b_tuple (ea_cons (ee_var 7) ea_nil)) (ea_cons (ee_var 8) ea_nil))))))))))))
abbrev s_whole_row : Stmt := top 12
theorem sc_whole_row : FnScope ["units", "row", "bound"] ["units", "row"] (defScope s_whole_row) := ⟨rfl, rfl, rfl, by decide +kernel, rfl, by decide +kernel, by decide +kernel⟩
theorem ok_whole_row {f : Addr} {fd : FuncData} (F : Fun K "whole_row" "whole_row" s_whole_row f fd) (T : Txt K mg) (D_whole_test : DefAt P w K mg base 4 "whole_test" ["units", "bound"] T_whole_test) : FnOk P w K mg base CX0 5 f fd ["units", "row"] (spD K 2 T_whole_row) := by
  refine fn_okD (k := 4) F sc_whole_row rfl fun cdv A outer s H hr => ⟨rd_whole_row, ?_, m_whole_row⟩
  exact (ess_one (es_ret (ee_tup (ea_cons (ec_tuple (by rfl) T.b_tuple (ea_cons (ee_lcG (own := [("bound", 2)]) kok_fro (by decide) rfl sc_whole_row.nd (ei_items (ee_ixk (n := 0) rfl (ee_var 1))) (blkOk_by (own := [("bound", 2)]) (N := ["units", "row", "bound"]) (sc := defScope s_whole_row) (by decide +kernel)) (fun _ _ _ _ _ => (eg_name (i := 2) sc_whole_row.nd rfl (by first | exact Or.inl rfl | exact Or.inr rfl))) (fun _ _ _ _ _ => epts_nil) (fun _ _ _ _ _ => (ee_call D_whole_test hr (by decide) (by rfl) (ea_cons (ee_var 0) (ea_cons (ee_var 2) ea_nil))))) ea_nil)) (ea_cons (ee_ixk (n := 1) rfl (ee_var 1)) ea_nil)))))
abbrev s_whole_table : Stmt := top 13
theorem sc_whole_table : FnScope ["units", "table", "row"] ["units", "table"] (defScope s_whole_table) := ⟨rfl, rfl, rfl, by decide +kernel, rfl, by decide +kernel, by decide +kernel⟩
theorem ok_whole_table {f : Addr} {fd : FuncData} (F : Fun K "whole_table" "whole_table" s_whole_table f fd) (T : Txt K mg) (D_whole_row : DefAt P w K mg base 5 "whole_row" ["units", "row"] T_whole_row) : FnOk P w K mg base CX0 6 f fd ["units", "table"] (spD K 2 T_whole_table) := by
  refine fn_okD (k := 5) F sc_whole_table rfl fun cdv A outer s H hr => ⟨rd_whole_table, ?_, m_whole_table⟩
  exact (ess_one (es_ret (ec_tuple (by rfl) T.b_tuple (ea_cons (ee_lcG (own := [("row", 2)]) kok_fro (by decide) rfl sc_whole_table.nd (ei_items (ee_var 1)) (blkOk_by (own := [("row", 2)]) (N := ["units", "table", "row"]) (sc := defScope s_whole_table) (by decide +kernel)) (fun _ _ _ _ _ => (eg_name (i := 2) sc_whole_table.nd rfl (by first | exact Or.inl rfl | exact Or.inr rfl))) (fun _ _ _ _ _ => epts_nil) (fun _ _ _ _ _ => (ee_call D_whole_row hr (by decide) (by rfl) (ea_cons (ee_var 0) (ea_cons (ee_var 2) ea_nil))))) ea_nil))))
abbrev s_least_sum : Stmt := top 14
theorem sc_least_sum : FnScope ["test", "whole", "factors", "number", "factor", "lo", "hi"] ["test", "whole"] (defScope s_least_sum) := ⟨rfl, rfl, rfl, by decide +kernel, rfl, by decide +kernel, by decide +kernel⟩
theorem ok_least_sum {f : Addr} {fd : FuncData} (F : Fun K "least_sum" "least_sum" s_least_sum f fd) (T : Txt K mg)  : FnOk P w K mg base CX0 1 f fd ["test", "whole"] (spD K 2 T_least_sum) := by
  refine fn_okD (k := 0) F sc_least_sum rfl fun cdv A outer s H hr => ⟨rd_least_sum, ?_, m_least_sum⟩
  exact (ess_cons (es_asg (ee_var 0) (eg_tup rfl (egs_cons (ks := [2, 3]) (eg_name (i := 2) sc_least_sum.nd rfl (by first | exact Or.inl rfl | exact Or.inr rfl)) (egs_cons (ks := [3]) (eg_name (i := 3) sc_least_sum.nd rfl (by first | exact Or.inl rfl | exact Or.inr rfl)) (egs_nil (is := [])) (by decide) (by decide)) (by decide) (by decide))))
    (ess_one (es_ret (ee_add (ee_var 3) (ec_sum rfl (by rfl) T.b_sum (ea_cons (ee_lcG (own := [("factor", 4), ("lo", 5), ("hi", 6)]) kok_fro (by decide) rfl sc_least_sum.nd (ei_zip (by rfl) T.b_zip (ea_cons (ee_var 2) (ea_cons (ee_var 1) ea_nil))) (blkOk_by (own := [("factor", 4), ("lo", 5), ("hi", 6)]) (N := ["test", "whole", "factors", "number", "factor", "lo", "hi"]) (sc := defScope s_least_sum) (by decide +kernel)) (fun _ _ _ _ _ => (eg_tup rfl (egs_cons (ks := [4, 5, 6]) (eg_name (i := 4) sc_least_sum.nd rfl (by first | exact Or.inl rfl | exact Or.inr rfl)) (egs_cons (ks := [5, 6]) (eg_tup rfl (egs_cons (ks := [5, 6]) (eg_name (i := 5) sc_least_sum.nd rfl (by first | exact Or.inl rfl | exact Or.inr rfl)) (egs_cons (ks := [6]) (eg_name (i := 6) sc_least_sum.nd rfl (by first | exact Or.inl rfl | exact Or.inr rfl)) (egs_nil (is := [])) (by decide) (by decide)) (by decide) (by decide))) (egs_nil (is := [])) (by decide) (by decide)) (by decide) (by decide)))) (fun _ _ _ _ _ => epts_nil) (fun _ _ _ _ _ => (ec_min2 rfl (by rfl) T.b_min (ea_cons (ee_mul (ee_var 4) (ee_var 5)) (ea_cons (ee_mul (ee_var 4) (ee_var 6)) ea_nil))))) ea_nil))))))
abbrev s_holds_for : Stmt := top 15
theorem sc_holds_for : FnScope ["test", "whole"] ["test", "whole"] (defScope s_holds_for) := ⟨rfl, rfl, rfl, by decide +kernel, rfl, by decide +kernel, by decide +kernel⟩
theorem ok_holds_for {f : Addr} {fd : FuncData} (F : Fun K "holds_for" "holds_for" s_holds_for f fd) (T : Txt K mg) (D_least_sum : DefAt P w K mg base 1 "least_sum" ["test", "whole"] T_least_sum) : FnOk P w K mg base CX0 2 f fd ["test", "whole"] (spD K 2 T_holds_for) := by
  refine fn_okD (k := 1) F sc_holds_for rfl fun cdv A outer s H hr => ⟨rd_holds_for, ?_, m_holds_for⟩
  exact (ess_one (es_ret (ee_ge (ee_call D_least_sum hr (by decide) (by rfl) (ea_cons (ee_var 0) (ea_cons (ee_var 1) ea_nil))) ee_int)))
abbrev s_row_holds : Stmt := top 16
theorem sc_row_holds : FnScope ["row", "whole", "test"] ["row", "whole"] (defScope s_row_holds) := ⟨rfl, rfl, rfl, by decide +kernel, rfl, by decide +kernel, by decide +kernel⟩
theorem ok_row_holds {f : Addr} {fd : FuncData} (F : Fun K "row_holds" "row_holds" s_row_holds f fd) (T : Txt K mg) (D_holds_for : DefAt P w K mg base 2 "holds_for" ["test", "whole"] T_holds_for) : FnOk P w K mg base CX0 3 f fd ["row", "whole"] (spD K 2 T_row_holds) := by
  refine fn_okD (k := 2) F sc_row_holds rfl fun cdv A outer s H hr => ⟨rd_row_holds, ?_, m_row_holds⟩
  exact (ess_cons (es_for PassesOwn.never rfl (ei_items (ee_ixk (n := 0) rfl (ee_var 0))) (eg_name (i := 2) sc_row_holds.nd rfl (by first | exact Or.inl rfl | exact Or.inr rfl))
    (ess_one (es_if (et_not (et_tru (ee_call D_holds_for hr (by decide) (by rfl) (ea_cons (ee_var 2) (ea_cons (ee_var 1) ea_nil)))))
    (ess_one (es_ret ee_bl))
    ess_nil)))
    (ess_one (es_ret ee_bl)))
abbrev s_command_in : Stmt := top 17
theorem sc_command_in : FnScope ["table", "whole", "row"] ["table", "whole"] (defScope s_command_in) := ⟨rfl, rfl, rfl, by decide +kernel, rfl, by decide +kernel, by decide +kernel⟩
theorem ok_command_in {f : Addr} {fd : FuncData} (F : Fun K "command_in" "command_in" s_command_in f fd) (T : Txt K mg) (D_row_holds : DefAt P w K mg base 3 "row_holds" ["row", "whole"] T_row_holds) : FnOk P w K mg base CX0 4 f fd ["table", "whole"] (spD K 2 T_command_in) := by
  refine fn_okD (k := 3) F sc_command_in rfl fun cdv A outer s H hr => ⟨rd_command_in, ?_, m_command_in⟩
  exact (ess_cons (es_for PassesOwn.never rfl (ei_items (ee_var 0)) (eg_name (i := 2) sc_command_in.nd rfl (by first | exact Or.inl rfl | exact Or.inr rfl))
    (ess_one (es_if (et_tru (ee_call D_row_holds hr (by decide) (by rfl) (ea_cons (ee_var 2) (ea_cons (ee_var 1) ea_nil))))
    (ess_one (es_ret (ee_ixk (n := 1) rfl (ee_var 2))))
    ess_nil)))
    (ess_one (es_ret ee_non)))
abbrev s_are_units : Stmt := top 19
theorem sc_are_units : FnScope ["n", "datum", "unit"] ["n", "datum"] (defScope s_are_units) := ⟨rfl, rfl, rfl, by decide +kernel, rfl, by decide +kernel, by decide +kernel⟩
theorem ok_are_units {f : Addr} {fd : FuncData} (F : Fun K "are_units" "are_units" s_are_units f fd) (T : Txt K mg) (D_compare : DefAt P w K mg base 1 "compare" ["s", "t"] T_compare) (D_is_ratio : DefAt P w K mg base 2 "is_ratio" ["pair"] T_is_ratio) : FnOk P w K mg base CX0 3 f fd ["n", "datum"] (spD K 2 T_are_units) := by
  refine fn_okD (k := 2) F sc_are_units rfl fun cdv A outer s H hr => ⟨rd_are_units, ?_, m_are_units⟩
  exact (ess_cons (es_if (et_ne hr.units (ec_len (by rfl) T.b_len (ea_cons (ee_var 1) ea_nil)) (ee_var 0))
    (ess_one (es_ret ee_bl))
    ess_nil)
    (ess_one (es_ret (ee_eq hr.units (ec_len (by rfl) T.b_len (ea_cons (ee_lcG (own := [("unit", 2)]) kok_fro (by decide) rfl sc_are_units.nd (ei_items (ee_var 1)) (blkOk_by (own := [("unit", 2)]) (N := ["n", "datum", "unit"]) (sc := defScope s_are_units) (by decide +kernel)) (fun _ _ _ _ _ => (eg_name (i := 2) sc_are_units.nd rfl (by first | exact Or.inl rfl | exact Or.inr rfl))) (fun _ _ _ _ _ => (epts_one (PW.pt (ew_or (et_not (et_tru (ee_call D_is_ratio hr (by decide) (by rfl) (ea_cons (ee_var 2) ea_nil)))) (ew_or1 (et_lt (ee_call D_compare hr (by decide) (by rfl) (ea_cons (ee_var 2) (ea_cons (ee_glob (by rfl) T.c_NOTHING) ea_nil))) ee_int)))))) (fun _ _ _ _ _ => ee_int)) ea_nil)) ee_int))))
abbrev s_down : Stmt := top 20
theorem sc_down : FnScope ["t", "d", "p", "q"] ["t", "d"] (defScope s_down) := ⟨rfl, rfl, rfl, by decide +kernel, rfl, by decide +kernel, by decide +kernel⟩
theorem ok_down {f : Addr} {fd : FuncData} (F : Fun K "down" "down" s_down f fd) (T : Txt K mg) (D_over : DefAt P w K mg base 3 "over" ["s", "t"] T_over) : FnOk P w K mg base CX0 4 f fd ["t", "d"] (spD K 2 T_down) := by
  refine fn_okD (k := 3) F sc_down rfl fun cdv A outer s H hr => ⟨rd_down, ?_, m_down⟩
  exact (ess_cons (es_asg (ee_call D_over hr (by decide) (by rfl) (ea_cons (ee_var 0) (ea_cons (ee_var 1) ea_nil))) (eg_tup rfl (egs_cons (ks := [2, 3]) (eg_name (i := 2) sc_down.nd rfl (by first | exact Or.inl rfl | exact Or.inr rfl)) (egs_cons (ks := [3]) (eg_name (i := 3) sc_down.nd rfl (by first | exact Or.inl rfl | exact Or.inr rfl)) (egs_nil (is := [])) (by decide) (by decide)) (by decide) (by decide))))
    (ess_one (es_ret (ee_div (ee_var 2) (ee_var 3)))))
abbrev s_up : Stmt := top 21
theorem sc_up : FnScope ["t", "d", "p", "q"] ["t", "d"] (defScope s_up) := ⟨rfl, rfl, rfl, by decide +kernel, rfl, by decide +kernel, by decide +kernel⟩
theorem ok_up {f : Addr} {fd : FuncData} (F : Fun K "up" "up" s_up f fd) (T : Txt K mg) (D_over : DefAt P w K mg base 3 "over" ["s", "t"] T_over) : FnOk P w K mg base CX0 4 f fd ["t", "d"] (spD K 2 T_up) := by
  refine fn_okD (k := 3) F sc_up rfl fun cdv A outer s H hr => ⟨rd_up, ?_, m_up⟩
  exact (ess_cons (es_asg (ee_call D_over hr (by decide) (by rfl) (ea_cons (ee_var 0) (ea_cons (ee_var 1) ea_nil))) (eg_tup rfl (egs_cons (ks := [2, 3]) (eg_name (i := 2) sc_up.nd rfl (by first | exact Or.inl rfl | exact Or.inr rfl)) (egs_cons (ks := [3]) (eg_name (i := 3) sc_up.nd rfl (by first | exact Or.inl rfl | exact Or.inr rfl)) (egs_nil (is := [])) (by decide) (by decide)) (by decide) (by decide))))
    (ess_one (es_ret (ee_neg (ee_div (ee_neg (ee_var 2)) (ee_var 3))))))
abbrev s_made_whole : Stmt := top 22
theorem sc_made_whole : FnScope ["units", "box", "d", "low", "high"] ["units", "box"] (defScope s_made_whole) := ⟨rfl, rfl, rfl, by decide +kernel, rfl, by decide +kernel, by decide +kernel⟩
theorem ok_made_whole {f : Addr} {fd : FuncData} (F : Fun K "made_whole" "made_whole" s_made_whole f fd) (T : Txt K mg) (D_down : DefAt P w K mg base 4 "down" ["t", "d"] T_down) (D_up : DefAt P w K mg base 4 "up" ["t", "d"] T_up) : FnOk P w K mg base CX0 5 f fd ["units", "box"] (spD K 2 T_made_whole) := by
  refine fn_okD (k := 4) F sc_made_whole rfl fun cdv A outer s H hr => ⟨rd_made_whole, ?_, m_made_whole⟩
  exact (ess_one (es_ret (ec_tuple (by rfl) T.b_tuple (ea_cons (ee_lcG (own := [("d", 2), ("low", 3), ("high", 4)]) kok_fro (by decide) rfl sc_made_whole.nd (ei_zip (by rfl) T.b_zip (ea_cons (ee_var 0) (ea_cons (ee_var 1) ea_nil))) (blkOk_by (own := [("d", 2), ("low", 3), ("high", 4)]) (N := ["units", "box", "d", "low", "high"]) (sc := defScope s_made_whole) (by decide +kernel)) (fun _ _ _ _ _ => (eg_tup rfl (egs_cons (ks := [2, 3, 4]) (eg_name (i := 2) sc_made_whole.nd rfl (by first | exact Or.inl rfl | exact Or.inr rfl)) (egs_cons (ks := [3, 4]) (eg_tup rfl (egs_cons (ks := [3, 4]) (eg_name (i := 3) sc_made_whole.nd rfl (by first | exact Or.inl rfl | exact Or.inr rfl)) (egs_cons (ks := [4]) (eg_name (i := 4) sc_made_whole.nd rfl (by first | exact Or.inl rfl | exact Or.inr rfl)) (egs_nil (is := [])) (by decide) (by decide)) (by decide) (by decide))) (egs_nil (is := [])) (by decide) (by decide)) (by decide) (by decide)))) (fun _ _ _ _ _ => epts_nil) (fun _ _ _ _ _ => (ee_tup (ea_cons (ee_call D_down hr (by decide) (by rfl) (ea_cons (ee_var 3) (ea_cons (ee_var 2) ea_nil))) (ea_cons (ee_call D_up hr (by decide) (by rfl) (ea_cons (ee_var 4) (ea_cons (ee_var 2) ea_nil))) ea_nil))))) ea_nil))))
abbrev s_worth_of : Stmt := top 23
theorem sc_worth_of : FnScope ["units", "whole", "d", "lo", "hi"] ["units", "whole"] (defScope s_worth_of) := ⟨rfl, rfl, rfl, by decide +kernel, rfl, by decide +kernel, by decide +kernel⟩
theorem ok_worth_of {f : Addr} {fd : FuncData} (F : Fun K "worth_of" "worth_of" s_worth_of f fd) (T : Txt K mg) (D_times : DefAt P w K mg base 3 "times" ["s", "t"] T_times) : FnOk P w K mg base CX0 4 f fd ["units", "whole"] (spD K 2 T_worth_of) := by
  refine fn_okD (k := 3) F sc_worth_of rfl fun cdv A outer s H hr => ⟨rd_worth_of, ?_, m_worth_of⟩
  exact (ess_one (es_ret (ec_tuple (by rfl) T.b_tuple (ea_cons (ee_lcG (own := [("d", 2), ("lo", 3), ("hi", 4)]) kok_fro (by decide) rfl sc_worth_of.nd (ei_zip (by rfl) T.b_zip (ea_cons (ee_var 0) (ea_cons (ee_var 1) ea_nil))) (blkOk_by (own := [("d", 2), ("lo", 3), ("hi", 4)]) (N := ["units", "whole", "d", "lo", "hi"]) (sc := defScope s_worth_of) (by decide +kernel)) (fun _ _ _ _ _ => (eg_tup rfl (egs_cons (ks := [2, 3, 4]) (eg_name (i := 2) sc_worth_of.nd rfl (by first | exact Or.inl rfl | exact Or.inr rfl)) (egs_cons (ks := [3, 4]) (eg_tup rfl (egs_cons (ks := [3, 4]) (eg_name (i := 3) sc_worth_of.nd rfl (by first | exact Or.inl rfl | exact Or.inr rfl)) (egs_cons (ks := [4]) (eg_name (i := 4) sc_worth_of.nd rfl (by first | exact Or.inl rfl | exact Or.inr rfl)) (egs_nil (is := [])) (by decide) (by decide)) (by decide) (by decide))) (egs_nil (is := [])) (by decide) (by decide)) (by decide) (by decide)))) (fun _ _ _ _ _ => epts_nil) (fun _ _ _ _ _ => (ee_tup (ea_cons (ee_call D_times hr (by decide) (by rfl) (ea_cons (ee_var 2) (ea_cons (ee_tup (ea_cons (ee_var 3) (ea_cons ee_int ea_nil))) ea_nil))) (ea_cons (ee_call D_times hr (by decide) (by rfl) (ea_cons (ee_var 2) (ea_cons (ee_tup (ea_cons (ee_var 4) (ea_cons ee_int ea_nil))) ea_nil))) ea_nil))))) ea_nil))))
abbrev s__law_deal : Stmt := top 25
theorem sc__law_deal : FnScope ["script", "row", "k", "cell", "turn", "total"] ["script"] (defScope s__law_deal) := ⟨rfl, rfl, rfl, by decide +kernel, rfl, by decide +kernel, by decide +kernel⟩
theorem ok__law_deal {f : Addr} {fd : FuncData} (F : Fun K "_law_deal" "_law_deal" s__law_deal f fd) (T : Txt K mg)  : FnOk P w K mg base CX0 1 f fd ["script"] (spD K 1 T__law_deal) := by
  refine fn_okD (k := 0) F sc__law_deal rfl fun cdv A outer s H hr => ⟨rd__law_deal, ?_, m__law_deal⟩
  exact (ess_cons (es_set 1 sc__law_deal.nd rfl (by first | exact Or.inl rfl | exact Or.inr rfl) (ee_lstM ea_nil))
    (ess_cons (es_for PassesOwn.never rfl (ei_rg1 (by rfl) T.b_range (ea_cons (ec_min2 rfl (by rfl) T.b_min (ea_cons (ec_len (by rfl) T.b_len (ea_cons (ee_var 0) ea_nil)) (ea_cons ee_int ea_nil))) ea_nil)) (eg_name (i := 2) sc__law_deal.nd rfl (by first | exact Or.inl rfl | exact Or.inr rfl))
    (ess_cons (es_set 3 sc__law_deal.nd rfl (by first | exact Or.inl rfl | exact Or.inr rfl) (ec_abs (by rfl) T.b_abs (ea_cons (ec_int (by rfl) T.b_int (ea_cons (ee_ix (ee_var 0) (ee_var 2)) ea_nil)) ea_nil)))
    (ess_one (es_if (et_ge (ee_var 3) (ee_pow ee_int ee_int))
    (ess_one (es_for PassesOwn.never rfl (ei_rg1 (by rfl) T.b_range (ea_cons ee_int ea_nil)) (eg_name (i := 4) sc__law_deal.nd rfl (by first | exact Or.inl rfl | exact Or.inr rfl))
    (ess_one (es_if (et_gt (ee_var 3) ee_int)
    (ess_cons (es_expr (ee_app (ee_var 1) (ee_mod (ee_var 3) ee_int)))
    (ess_one (es_set 3 sc__law_deal.nd rfl (by first | exact Or.inl rfl | exact Or.inr rfl) (ee_div (ee_var 3) ee_int))))
    ess_nil))))
    (ess_cons (es_set 3 sc__law_deal.nd rfl (by first | exact Or.inl rfl | exact Or.inr rfl) (ee_add (ee_add (ee_mul (ee_mod (ee_var 3) ee_int) ee_int) (ee_mul (ee_var 2) ee_int)) ee_int))
    (ess_one (es_for PassesOwn.never rfl (ei_rg1 (by rfl) T.b_range (ea_cons ee_int ea_nil)) (eg_name (i := 4) sc__law_deal.nd rfl (by first | exact Or.inl rfl | exact Or.inr rfl))
    (ess_cons (es_set 3 sc__law_deal.nd rfl (by first | exact Or.inl rfl | exact Or.inr rfl) (ee_mod (ee_add (ee_add (ee_mul (ee_var 3) ee_int) ee_int) (ee_var 4)) ee_int))
    (ess_one (es_expr (ee_app (ee_var 1) (ee_mod (ee_div (ee_var 3) ee_int) ee_int))))))))))))
    (ess_cons (es_set 5 sc__law_deal.nd rfl (by first | exact Or.inl rfl | exact Or.inr rfl) (ee_add (ec_sum rfl (by rfl) T.b_sum (ea_cons (ee_var 1) ea_nil)) (ec_len (by rfl) T.b_len (ea_cons (ee_var 0) ea_nil))))
    (ess_one (es_ret (ee_lstM (ea_cons (ee_varF 1) (ea_cons (ee_lstM (ea_cons ee_int ea_nil)) (ea_cons (ee_var 5) ea_nil)))))))))
abbrev s__law_take : Stmt := top 26
theorem sc__law_take : FnScope ["deal", "many", "at"] ["deal", "many"] (defScope s__law_take) := ⟨rfl, rfl, rfl, by decide +kernel, rfl, by decide +kernel, by decide +kernel⟩
theorem ok__law_take {f : Addr} {fd : FuncData} (F : Fun K "_law_take" "_law_take" s__law_take f fd) (T : Txt K mg)  : FnOk P w K mg base CX0 1 f fd ["deal", "many"] (spD K 2 T__law_take) := by
  refine fn_okD (k := 0) F sc__law_take rfl fun cdv A outer s H hr => ⟨rd__law_take, ?_, m__law_take⟩
  exact (ess_cons (es_set 2 sc__law_take.nd rfl (by first | exact Or.inl rfl | exact Or.inr rfl) (ee_ixk (n := 0) rfl (ee_ixk (n := 1) rfl (ee_var 0))))
    (ess_cons (es_asg (ee_add (ee_var 2) ee_int) (eg_sub (ee_ixk (n := 1) rfl (ee_var 0)) ee_int))
    (ess_cons (es_if (et_lt (ee_var 2) (ec_len (by rfl) T.b_len (ea_cons (ee_ixk (n := 0) rfl (ee_var 0)) ea_nil)))
    (ess_one (es_ret (ee_mod (ee_ix (ee_ixk (n := 0) rfl (ee_var 0)) (ee_var 2)) (ee_var 1))))
    ess_nil)
    (ess_one (es_ret (ee_mod (ee_div (ee_add (ee_add (ee_mul (ee_var 2) ee_int) (ee_mul (ee_ixk (n := 2) rfl (ee_var 0)) ee_int)) (ee_mul (ee_mul (ee_var 2) (ee_var 2)) ee_int)) ee_int) (ee_var 1)))))))
abbrev s__law_pick : Stmt := top 27
theorem sc__law_pick : FnScope ["deal", "things"] ["deal", "things"] (defScope s__law_pick) := ⟨rfl, rfl, rfl, by decide +kernel, rfl, by decide +kernel, by decide +kernel⟩
theorem ok__law_pick {f : Addr} {fd : FuncData} (F : Fun K "_law_pick" "_law_pick" s__law_pick f fd) (T : Txt K mg) (D__law_take : DefAt P w K mg base 1 "_law_take" ["deal", "many"] T__law_take) : FnOk P w K mg base CX0 2 f fd ["deal", "things"] (spD K 2 T__law_pick) := by
  refine fn_okD (k := 1) F sc__law_pick rfl fun cdv A outer s H hr => ⟨rd__law_pick, ?_, m__law_pick⟩
  exact (ess_one (es_ret (ee_ix (ee_var 1) (ee_call D__law_take hr (by decide) (by rfl) (ea_cons (ee_var 0) (ea_cons (ec_len (by rfl) T.b_len (ea_cons (ee_var 1) ea_nil)) ea_nil))))))
abbrev s__law_same : Stmt := top 28
theorem sc__law_same : FnScope ["a", "b", "k"] ["a", "b"] (defScope s__law_same) := ⟨rfl, rfl, rfl, by decide +kernel, rfl, by decide +kernel, by decide +kernel⟩
theorem ok__law_same {f : Addr} {fd : FuncData} {k : Nat} {Tself T2 : DSp} (hm : ∀ xs cs R, xs.length = 2 → Okc cs.length cs → T2 xs cs R → rd__law_same Tself (endsD cs.length R) (startD 3 xs) cs) (F : Fun K "_law_same" "_law_same" s__law_same f fd) (T : Txt K mg)  (Dself : DefAt P w K mg base k "_law_same" ["a", "b"] Tself) : FnOk P w K mg base CX0 (k + 1) f fd ["a", "b"] (spD K 2 T2) := by
  refine fn_okD (k := k + 0) F sc__law_same rfl fun cdv A outer s H hr => ⟨rd__law_same Tself, ?_, hm⟩
  have hj : k ≤ k + 0 := Nat.le_add_right _ _
  exact (ess_cons (es_if (PW.pt (ew_or (et_tru (ee_isi .tuple (by rfl) T.b_isinstance (by rfl) T.b_tuple (by decide +kernel) (ee_var 1))) (ew_or1 (et_tru (ee_isi .list (by rfl) T.b_isinstance (by rfl) T.b_list (by decide +kernel) (ee_var 1))))))
    (ess_cons (es_if (PW.pt (ew_or (PW.pt (ew_and (et_tru (ee_isi .tuple (by rfl) T.b_isinstance (by rfl) T.b_tuple (by decide +kernel) (ee_var 1))) (ew_and1 (et_not (et_tru (ee_isi .tuple (by rfl) T.b_isinstance (by rfl) T.b_tuple (by decide +kernel) (ee_var 0))))))) (ew_or1 (PW.pt (ew_and (et_tru (ee_isi .list (by rfl) T.b_isinstance (by rfl) T.b_list (by decide +kernel) (ee_var 1))) (ew_and1 (et_not (et_tru (ee_isi .list (by rfl) T.b_isinstance (by rfl) T.b_list (by decide +kernel) (ee_var 0))))))))))
    (ess_one (es_ret ee_bl))
    ess_nil)
    (ess_cons (es_if (et_ne hr.units (ec_len (by rfl) T.b_len (ea_cons (ee_var 0) ea_nil)) (ec_len (by rfl) T.b_len (ea_cons (ee_var 1) ea_nil)))
    (ess_one (es_ret ee_bl))
    ess_nil)
    (ess_cons (es_for PassesOwn.never rfl (ei_rg1 (by rfl) T.b_range (ea_cons (ec_len (by rfl) T.b_len (ea_cons (ee_var 1) ea_nil)) ea_nil)) (eg_name (i := 2) sc__law_same.nd rfl (by first | exact Or.inl rfl | exact Or.inr rfl))
    (ess_one (es_if (et_not (et_tru (ee_call Dself hr hj (by rfl) (ea_cons (ee_ix (ee_var 0) (ee_var 2)) (ea_cons (ee_ix (ee_var 1) (ee_var 2)) ea_nil)))))
    (ess_one (es_ret ee_bl))
    ess_nil)))
    (ess_one (es_ret ee_bl)))))
    ess_nil)
    (ess_cons (es_if (PW.pt (ew_or (et_tru (ee_isi .bool (by rfl) T.b_isinstance (by rfl) T.b_bool (by decide +kernel) (ee_var 0))) (ew_or1 (et_tru (ee_isi .bool (by rfl) T.b_isinstance (by rfl) T.b_bool (by decide +kernel) (ee_var 1))))))
    (ess_one (es_ret (ee_and (ee_isi .bool (by rfl) T.b_isinstance (by rfl) T.b_bool (by decide +kernel) (ee_var 0)) (ee_and (ee_isi .bool (by rfl) T.b_isinstance (by rfl) T.b_bool (by decide +kernel) (ee_var 1)) (ee_one (ee_eq hr.units (ee_var 0) (ee_var 1)))))))
    ess_nil)
    (ess_cons (es_if (et_tru (ee_isi .int (by rfl) T.b_isinstance (by rfl) T.b_int (by decide +kernel) (ee_var 1)))
    (ess_one (es_ret (ee_and (ee_isi .int (by rfl) T.b_isinstance (by rfl) T.b_int (by decide +kernel) (ee_var 0)) (ee_one (ee_eq hr.units (ee_var 0) (ee_var 1))))))
    ess_nil)
    (ess_cons (es_if (et_tru (ee_isi .str (by rfl) T.b_isinstance (by rfl) T.b_str (by decide +kernel) (ee_var 1)))
    (ess_one (es_ret (ee_and (ee_isi .str (by rfl) T.b_isinstance (by rfl) T.b_str (by decide +kernel) (ee_var 0)) (ee_one (ee_eq hr.units (ee_var 0) (ee_var 1))))))
    ess_nil)
    (ess_one (es_ret (ee_and (ee_isN (ee_var 0) ee_non) (ee_one (ee_isN (ee_var 1) ee_non)))))))))
abbrev s__law_bool : Stmt := top 29
theorem sc__law_bool : FnScope ["answer", "due"] ["answer", "due"] (defScope s__law_bool) := ⟨rfl, rfl, rfl, by decide +kernel, rfl, by decide +kernel, by decide +kernel⟩
theorem ok__law_bool {f : Addr} {fd : FuncData} (F : Fun K "_law_bool" "_law_bool" s__law_bool f fd) (T : Txt K mg)  : FnOk P w K mg base CX0 1 f fd ["answer", "due"] (spD K 2 T__law_bool) := by
  refine fn_okD (k := 0) F sc__law_bool rfl fun cdv A outer s H hr => ⟨rd__law_bool, ?_, m__law_bool⟩
  exact (ess_one (es_ret (ee_and (ee_isi .bool (by rfl) T.b_isinstance (by rfl) T.b_bool (by decide +kernel) (ee_var 0)) (ee_one (ee_eq hr.units (ee_var 0) (ee_var 1))))))
abbrev s__law_ratio : Stmt := top 30
theorem sc__law_ratio : FnScope ["p", "q", "a", "b", "turn"] ["p", "q"] (defScope s__law_ratio) := ⟨rfl, rfl, rfl, by decide +kernel, rfl, by decide +kernel, by decide +kernel⟩
theorem ok__law_ratio {f : Addr} {fd : FuncData} (F : Fun K "_law_ratio" "_law_ratio" s__law_ratio f fd) (T : Txt K mg)  : FnOk P w K mg base CX0 1 f fd ["p", "q"] (spD K 2 T__law_ratio) := by
  refine fn_okD (k := 0) F sc__law_ratio rfl fun cdv A outer s H hr => ⟨rd__law_ratio, ?_, m__law_ratio⟩
  exact (ess_cons (es_if (et_lt (ee_var 1) ee_int)
    (ess_cons (es_set 0 sc__law_ratio.nd rfl (by first | exact Or.inl rfl | exact Or.inr rfl) (ee_neg (ee_var 0)))
    (ess_one (es_set 1 sc__law_ratio.nd rfl (by first | exact Or.inl rfl | exact Or.inr rfl) (ee_neg (ee_var 1)))))
    ess_nil)
    (ess_cons (es_set 2 sc__law_ratio.nd rfl (by first | exact Or.inl rfl | exact Or.inr rfl) (ec_abs (by rfl) T.b_abs (ea_cons (ee_var 0) ea_nil)))
    (ess_cons (es_set 3 sc__law_ratio.nd rfl (by first | exact Or.inl rfl | exact Or.inr rfl) (ee_var 1))
    (ess_cons (es_for PassesOwn.never rfl (ei_rg1 (by rfl) T.b_range (ea_cons ee_int ea_nil)) (eg_name (i := 4) sc__law_ratio.nd rfl (by first | exact Or.inl rfl | exact Or.inr rfl))
    (ess_cons (es_if (et_eq hr.units (ee_var 2) ee_int)
    (ess_one es_break)
    ess_nil)
    (ess_one (es_par 2 3 rfl sc__law_ratio.nd rfl rfl (by decide) rfl rfl (ea_cons (ee_mod (ee_var 3) (ee_var 2)) (ea_cons (ee_var 2) ea_nil)) (by rfl)))))
    (ess_one (es_ret (ee_tup (ea_cons (ee_div (ee_var 0) (ee_var 3)) (ea_cons (ee_div (ee_var 1) (ee_var 3)) ea_nil)))))))))
abbrev s__law_plus : Stmt := top 31
theorem sc__law_plus : FnScope ["s", "t"] ["s", "t"] (defScope s__law_plus) := ⟨rfl, rfl, rfl, by decide +kernel, rfl, by decide +kernel, by decide +kernel⟩
theorem ok__law_plus {f : Addr} {fd : FuncData} (F : Fun K "_law_plus" "_law_plus" s__law_plus f fd) (T : Txt K mg) (D__law_ratio : DefAt P w K mg base 1 "_law_ratio" ["p", "q"] T__law_ratio) : FnOk P w K mg base CX0 2 f fd ["s", "t"] (spD K 2 T__law_plus) := by
  refine fn_okD (k := 1) F sc__law_plus rfl fun cdv A outer s H hr => ⟨rd__law_plus, ?_, m__law_plus⟩
  exact (ess_one (es_ret (ee_call D__law_ratio hr (by decide) (by rfl) (ea_cons (ee_add (ee_mul (ee_ixk (n := 0) rfl (ee_var 0)) (ee_ixk (n := 1) rfl (ee_var 1))) (ee_mul (ee_ixk (n := 0) rfl (ee_var 1)) (ee_ixk (n := 1) rfl (ee_var 0)))) (ea_cons (ee_mul (ee_ixk (n := 1) rfl (ee_var 0)) (ee_ixk (n := 1) rfl (ee_var 1))) ea_nil)))))
abbrev s__law_mult : Stmt := top 32
theorem sc__law_mult : FnScope ["s", "t"] ["s", "t"] (defScope s__law_mult) := ⟨rfl, rfl, rfl, by decide +kernel, rfl, by decide +kernel, by decide +kernel⟩
theorem ok__law_mult {f : Addr} {fd : FuncData} (F : Fun K "_law_mult" "_law_mult" s__law_mult f fd) (T : Txt K mg) (D__law_ratio : DefAt P w K mg base 1 "_law_ratio" ["p", "q"] T__law_ratio) : FnOk P w K mg base CX0 2 f fd ["s", "t"] (spD K 2 T__law_mult) := by
  refine fn_okD (k := 1) F sc__law_mult rfl fun cdv A outer s H hr => ⟨rd__law_mult, ?_, m__law_mult⟩
  exact (ess_one (es_ret (ee_call D__law_ratio hr (by decide) (by rfl) (ea_cons (ee_mul (ee_ixk (n := 0) rfl (ee_var 0)) (ee_ixk (n := 0) rfl (ee_var 1))) (ea_cons (ee_mul (ee_ixk (n := 1) rfl (ee_var 0)) (ee_ixk (n := 1) rfl (ee_var 1))) ea_nil)))))
abbrev s__law_over : Stmt := top 33
theorem sc__law_over : FnScope ["s", "t"] ["s", "t"] (defScope s__law_over) := ⟨rfl, rfl, rfl, by decide +kernel, rfl, by decide +kernel, by decide +kernel⟩
theorem ok__law_over {f : Addr} {fd : FuncData} (F : Fun K "_law_over" "_law_over" s__law_over f fd) (T : Txt K mg) (D__law_ratio : DefAt P w K mg base 1 "_law_ratio" ["p", "q"] T__law_ratio) : FnOk P w K mg base CX0 2 f fd ["s", "t"] (spD K 2 T__law_over) := by
  refine fn_okD (k := 1) F sc__law_over rfl fun cdv A outer s H hr => ⟨rd__law_over, ?_, m__law_over⟩
  exact (ess_one (es_ret (ee_call D__law_ratio hr (by decide) (by rfl) (ea_cons (ee_mul (ee_ixk (n := 0) rfl (ee_var 0)) (ee_ixk (n := 1) rfl (ee_var 1))) (ea_cons (ee_mul (ee_ixk (n := 1) rfl (ee_var 0)) (ee_ixk (n := 0) rfl (ee_var 1))) ea_nil)))))
abbrev s__law_shared : Stmt := top 34
theorem sc__law_shared : FnScope ["a", "b", "turn"] ["a", "b"] (defScope s__law_shared) := ⟨rfl, rfl, rfl, by decide +kernel, rfl, by decide +kernel, by decide +kernel⟩
theorem ok__law_shared {f : Addr} {fd : FuncData} (F : Fun K "_law_shared" "_law_shared" s__law_shared f fd) (T : Txt K mg)  : FnOk P w K mg base CX0 1 f fd ["a", "b"] (spD K 2 T__law_shared) := by
  refine fn_okD (k := 0) F sc__law_shared rfl fun cdv A outer s H hr => ⟨rd__law_shared, ?_, m__law_shared⟩
  exact (ess_cons (es_for PassesOwn.never rfl (ei_rg1 (by rfl) T.b_range (ea_cons ee_int ea_nil)) (eg_name (i := 2) sc__law_shared.nd rfl (by first | exact Or.inl rfl | exact Or.inr rfl))
    (ess_cons (es_if (et_eq hr.units (ee_var 1) ee_int)
    (ess_one es_break)
    ess_nil)
    (ess_one (es_par 0 1 rfl sc__law_shared.nd rfl rfl (by decide) rfl rfl (ea_cons (ee_var 1) (ea_cons (ee_mod (ee_var 0) (ee_var 1)) ea_nil)) (by rfl)))))
    (ess_one (es_ret (ec_abs (by rfl) T.b_abs (ea_cons (ee_var 0) ea_nil)))))
abbrev s__law_great : Stmt := top 35
theorem sc__law_great : FnScope ["deal", "size", "number", "sign"] ["deal"] (defScope s__law_great) := ⟨rfl, rfl, rfl, by decide +kernel, rfl, by decide +kernel, by decide +kernel⟩
theorem ok__law_great {f : Addr} {fd : FuncData} (F : Fun K "_law_great" "_law_great" s__law_great f fd) (T : Txt K mg) (D__law_take : DefAt P w K mg base 1 "_law_take" ["deal", "many"] T__law_take) (D__law_pick : DefAt P w K mg base 2 "_law_pick" ["deal", "things"] T__law_pick) (D__law_ratio : DefAt P w K mg base 1 "_law_ratio" ["p", "q"] T__law_ratio) : FnOk P w K mg base CX0 3 f fd ["deal"] (spD K 1 T__law_great) := by
  refine fn_okD (k := 2) F sc__law_great rfl fun cdv A outer s H hr => ⟨rd__law_great, ?_, m__law_great⟩
  exact (ess_cons (es_set 1 sc__law_great.nd rfl (by first | exact Or.inl rfl | exact Or.inr rfl) (ee_call D__law_pick hr (by decide) (by rfl) (ea_cons (ee_var 0) (ea_cons (ee_lst (ea_cons ee_int (ea_cons ee_int (ea_cons ee_int (ea_cons (ee_pow ee_int ee_int) (ea_cons (ee_pow ee_int ee_int) (ea_cons (ee_pow ee_int ee_int) ea_nil))))))) ea_nil))))
    (ess_cons (es_set 2 sc__law_great.nd rfl (by first | exact Or.inl rfl | exact Or.inr rfl) (ee_add (ee_mul (ee_add ee_int (ee_call D__law_take hr (by decide) (by rfl) (ea_cons (ee_var 0) (ea_cons ee_int ea_nil)))) (ee_var 1)) (ee_call D__law_take hr (by decide) (by rfl) (ea_cons (ee_var 0) (ea_cons ee_int ea_nil)))))
    (ess_cons (es_set 3 sc__law_great.nd rfl (by first | exact Or.inl rfl | exact Or.inr rfl) (ee_sub ee_int (ee_mul ee_int (ee_call D__law_take hr (by decide) (by rfl) (ea_cons (ee_var 0) (ea_cons ee_int ea_nil))))))
    (ess_one (es_ret (ee_call D__law_ratio hr (by decide) (by rfl) (ea_cons (ee_mul (ee_var 3) (ee_var 2)) (ea_cons (ee_add ee_int (ee_mul (ee_call D__law_take hr (by decide) (by rfl) (ea_cons (ee_var 0) (ea_cons ee_int ea_nil))) (ee_call D__law_pick hr (by decide) (by rfl) (ea_cons (ee_var 0) (ea_cons (ee_lst (ea_cons ee_int (ea_cons ee_int (ea_cons (ee_pow ee_int ee_int) (ea_cons (ee_pow ee_int ee_int) ea_nil))))) ea_nil))))) ea_nil))))))))
abbrev s__law_units : Stmt := top 36
theorem sc__law_units : FnScope ["deal", "n", "found", "k"] ["deal", "n"] (defScope s__law_units) := ⟨rfl, rfl, rfl, by decide +kernel, rfl, by decide +kernel, by decide +kernel⟩
theorem ok__law_units {f : Addr} {fd : FuncData} (F : Fun K "_law_units" "_law_units" s__law_units f fd) (T : Txt K mg) (D__law_pick : DefAt P w K mg base 2 "_law_pick" ["deal", "things"] T__law_pick) : FnOk P w K mg base CX0 3 f fd ["deal", "n"] (spD K 2 T__law_units) := by
  refine fn_okD (k := 2) F sc__law_units rfl fun cdv A outer s H hr => ⟨rd__law_units, ?_, m__law_units⟩
  exact (ess_cons (es_set 2 sc__law_units.nd rfl (by first | exact Or.inl rfl | exact Or.inr rfl) (ee_lstM ea_nil))
    (ess_cons (es_for PassesOwn.never rfl (ei_rg1 (by rfl) T.b_range (ea_cons (ee_var 1) ea_nil)) (eg_name (i := 3) sc__law_units.nd rfl (by first | exact Or.inl rfl | exact Or.inr rfl))
    (ess_one (es_expr (ee_app (ee_var 2) (ee_call D__law_pick hr (by decide) (by rfl) (ea_cons (ee_var 0) (ea_cons (ee_lst (ea_cons (ee_tup (ea_cons ee_int (ea_cons ee_int ea_nil))) (ea_cons (ee_tup (ea_cons ee_int (ea_cons ee_int ea_nil))) (ea_cons (ee_tup (ea_cons ee_int (ea_cons ee_int ea_nil))) (ea_cons (ee_tup (ea_cons ee_int (ea_cons ee_int ea_nil))) (ea_cons (ee_tup (ea_cons ee_int (ea_cons (ee_pow ee_int ee_int) ea_nil))) (ea_cons (ee_tup (ea_cons (ee_add (ee_pow ee_int ee_int) ee_int) (ea_cons ee_int ea_nil))) (ea_cons (ee_tup (ea_cons ee_int (ea_cons ee_int ea_nil))) ea_nil)))))))) ea_nil)))))))
    (ess_one (es_ret (ec_tuple (by rfl) T.b_tuple (ea_cons (ee_var 2) ea_nil))))))
abbrev s__law_whole : Stmt := top 37
theorem sc__law_whole : FnScope ["deal", "n", "found", "k", "lo"] ["deal", "n"] (defScope s__law_whole) := ⟨rfl, rfl, rfl, by decide +kernel, rfl, by decide +kernel, by decide +kernel⟩
theorem ok__law_whole {f : Addr} {fd : FuncData} (F : Fun K "_law_whole" "_law_whole" s__law_whole f fd) (T : Txt K mg) (D__law_take : DefAt P w K mg base 1 "_law_take" ["deal", "many"] T__law_take) (D__law_pick : DefAt P w K mg base 2 "_law_pick" ["deal", "things"] T__law_pick) : FnOk P w K mg base CX0 3 f fd ["deal", "n"] (spD K 2 T__law_whole) := by
  refine fn_okD (k := 2) F sc__law_whole rfl fun cdv A outer s H hr => ⟨rd__law_whole, ?_, m__law_whole⟩
  exact (ess_cons (es_set 2 sc__law_whole.nd rfl (by first | exact Or.inl rfl | exact Or.inr rfl) (ee_lstM ea_nil))
    (ess_cons (es_for PassesOwn.never rfl (ei_rg1 (by rfl) T.b_range (ea_cons (ee_var 1) ea_nil)) (eg_name (i := 3) sc__law_whole.nd rfl (by first | exact Or.inl rfl | exact Or.inr rfl))
    (ess_cons (es_set 4 sc__law_whole.nd rfl (by first | exact Or.inl rfl | exact Or.inr rfl) (ee_add (ee_mul (ee_sub (ee_call D__law_take hr (by decide) (by rfl) (ea_cons (ee_var 0) (ea_cons ee_int ea_nil))) ee_int) (ee_call D__law_pick hr (by decide) (by rfl) (ea_cons (ee_var 0) (ea_cons (ee_lst (ea_cons ee_int (ea_cons ee_int (ea_cons (ee_pow ee_int ee_int) (ea_cons (ee_pow ee_int ee_int) ea_nil))))) ea_nil)))) (ee_call D__law_take hr (by decide) (by rfl) (ea_cons (ee_var 0) (ea_cons ee_int ea_nil)))))
    (ess_one (es_expr (ee_app (ee_var 2) (ee_tup (ea_cons (ee_var 4) (ea_cons (ee_add (ee_var 4) (ee_call D__law_pick hr (by decide) (by rfl) (ea_cons (ee_var 0) (ea_cons (ee_lst (ea_cons ee_int (ea_cons ee_int (ea_cons ee_int (ea_cons (ee_pow ee_int ee_int) ea_nil))))) ea_nil)))) ea_nil))))))))
    (ess_one (es_ret (ec_tuple (by rfl) T.b_tuple (ea_cons (ee_var 2) ea_nil))))))
abbrev s__law_worst : Stmt := top 38
theorem sc__law_worst : FnScope ["units", "factors", "whole", "total", "k", "own"] ["units", "factors", "whole"] (defScope s__law_worst) := ⟨rfl, rfl, rfl, by decide +kernel, rfl, by decide +kernel, by decide +kernel⟩
theorem ok__law_worst {f : Addr} {fd : FuncData} (F : Fun K "_law_worst" "_law_worst" s__law_worst f fd) (T : Txt K mg) (D__law_plus : DefAt P w K mg base 2 "_law_plus" ["s", "t"] T__law_plus) (D__law_mult : DefAt P w K mg base 2 "_law_mult" ["s", "t"] T__law_mult) : FnOk P w K mg base CX0 3 f fd ["units", "factors", "whole"] (spD K 3 T__law_worst) := by
  refine fn_okD (k := 2) F sc__law_worst rfl fun cdv A outer s H hr => ⟨rd__law_worst, ?_, m__law_worst⟩
  exact (ess_cons (es_set 3 sc__law_worst.nd rfl (by first | exact Or.inl rfl | exact Or.inr rfl) (ee_tup (ea_cons ee_int (ea_cons ee_int ea_nil))))
    (ess_cons (es_for PassesOwn.never rfl (ei_rg1 (by rfl) T.b_range (ea_cons (ec_len (by rfl) T.b_len (ea_cons (ee_var 0) ea_nil)) ea_nil)) (eg_name (i := 4) sc__law_worst.nd rfl (by first | exact Or.inl rfl | exact Or.inr rfl))
    (ess_cons (es_set 5 sc__law_worst.nd rfl (by first | exact Or.inl rfl | exact Or.inr rfl) (ee_call D__law_mult hr (by decide) (by rfl) (ea_cons (ee_ix (ee_var 1) (ee_var 4)) (ea_cons (ee_ix (ee_var 0) (ee_var 4)) ea_nil))))
    (ess_one (es_set 3 sc__law_worst.nd rfl (by first | exact Or.inl rfl | exact Or.inr rfl) (ee_call D__law_plus hr (by decide) (by rfl) (ea_cons (ee_var 3) (ea_cons (ee_call D__law_mult hr (by decide) (by rfl) (ea_cons (ee_var 5) (ea_cons (ee_tup (ea_cons (ee_if (et_gt (ee_ixk (n := 0) rfl (ee_var 5)) ee_int) (ee_ixk (n := 0) rfl (ee_ix (ee_var 2) (ee_var 4))) (ee_ixk (n := 1) rfl (ee_ix (ee_var 2) (ee_var 4)))) (ea_cons ee_int ea_nil))) ea_nil))) ea_nil)))))))
    (ess_one (es_ret (ee_var 3)))))
abbrev s__law_bound : Stmt := top 39
theorem sc__law_bound : FnScope ["deal", "units", "whole", "n", "factors", "worst", "tiny", "k"] ["deal", "units", "whole"] (defScope s__law_bound) := ⟨rfl, rfl, rfl, by decide +kernel, rfl, by decide +kernel, by decide +kernel⟩
theorem ok__law_bound {f : Addr} {fd : FuncData} (F : Fun K "_law_bound" "_law_bound" s__law_bound f fd) (T : Txt K mg) (D__law_take : DefAt P w K mg base 1 "_law_take" ["deal", "many"] T__law_take) (D__law_pick : DefAt P w K mg base 2 "_law_pick" ["deal", "things"] T__law_pick) (D__law_plus : DefAt P w K mg base 2 "_law_plus" ["s", "t"] T__law_plus) (D__law_great : DefAt P w K mg base 3 "_law_great" ["deal"] T__law_great) (D__law_worst : DefAt P w K mg base 3 "_law_worst" ["units", "factors", "whole"] T__law_worst) : FnOk P w K mg base CX0 4 f fd ["deal", "units", "whole"] (spD K 3 T__law_bound) := by
  refine fn_okD (k := 3) F sc__law_bound rfl fun cdv A outer s H hr => ⟨rd__law_bound, ?_, m__law_bound⟩
  exact (ess_cons (es_set 3 sc__law_bound.nd rfl (by first | exact Or.inl rfl | exact Or.inr rfl) (ec_len (by rfl) T.b_len (ea_cons (ee_var 1) ea_nil)))
    (ess_cons (by first
      | exact es_setLcG 4 (own := [("k", 7)]) kok_mut (by decide) rfl sc__law_bound.nd rfl rfl (sw_true rfl rfl rfl (by decide +kernel)) (ei_rg1 (by rfl) T.b_range (ea_cons (ee_var 3) ea_nil)) (blkOk_by (own := [("k", 7)]) (N := ["deal", "units", "whole", "n", "factors", "worst", "tiny", "k"]) (sc := defScope s__law_bound) (by decide +kernel)) (fun _ _ _ _ _ => (eg_name (i := 7) sc__law_bound.nd rfl (by first | exact Or.inl rfl | exact Or.inr rfl))) (fun _ _ _ _ _ => epts_nil) (fun _ _ _ _ _ => (ee_if (et_gt (ee_call D__law_take hr (by decide) (by rfl) (ea_cons (ee_var 0) (ea_cons ee_int ea_nil))) ee_int) (ee_call D__law_great hr (by decide) (by rfl) (ea_cons (ee_var 0) ea_nil)) (ee_tup (ea_cons ee_int (ea_cons ee_int ea_nil)))))
      | exact es_set 4 sc__law_bound.nd rfl (by first | exact Or.inl rfl | exact Or.inr rfl) (ee_lcG (own := [("k", 7)]) kok_mut (by decide) rfl sc__law_bound.nd (ei_rg1 (by rfl) T.b_range (ea_cons (ee_var 3) ea_nil)) (blkOk_by (own := [("k", 7)]) (N := ["deal", "units", "whole", "n", "factors", "worst", "tiny", "k"]) (sc := defScope s__law_bound) (by decide +kernel)) (fun _ _ _ _ _ => (eg_name (i := 7) sc__law_bound.nd rfl (by first | exact Or.inl rfl | exact Or.inr rfl))) (fun _ _ _ _ _ => epts_nil) (fun _ _ _ _ _ => (ee_if (et_gt (ee_call D__law_take hr (by decide) (by rfl) (ea_cons (ee_var 0) (ea_cons ee_int ea_nil))) ee_int) (ee_call D__law_great hr (by decide) (by rfl) (ea_cons (ee_var 0) ea_nil)) (ee_tup (ea_cons ee_int (ea_cons ee_int ea_nil)))))))
    (ess_cons (es_if (et_gt (ee_call D__law_take hr (by decide) (by rfl) (ea_cons (ee_var 0) (ea_cons ee_int ea_nil))) ee_int)
    (ess_one (es_asg (ee_call D__law_great hr (by decide) (by rfl) (ea_cons (ee_var 0) ea_nil)) (eg_sub (ee_var 4) (ee_call D__law_take hr (by decide) (by rfl) (ea_cons (ee_var 0) (ea_cons (ee_var 3) ea_nil))))))
    ess_nil)
    (ess_cons (es_set 4 sc__law_bound.nd rfl (by first | exact Or.inl rfl | exact Or.inr rfl) (ec_tuple (by rfl) T.b_tuple (ea_cons (ee_var 4) ea_nil)))
    (ess_cons (es_set 5 sc__law_bound.nd rfl (by first | exact Or.inl rfl | exact Or.inr rfl) (ee_call D__law_worst hr (by decide) (by rfl) (ea_cons (ee_var 1) (ea_cons (ee_var 4) (ea_cons (ee_var 2) ea_nil)))))
    (ess_cons (es_set 6 sc__law_bound.nd rfl (by first | exact Or.inl rfl | exact Or.inr rfl) (ee_call D__law_pick hr (by decide) (by rfl) (ea_cons (ee_var 0) (ea_cons (ee_lst (ea_cons (ee_tup (ea_cons ee_int (ea_cons ee_int ea_nil))) (ea_cons (ee_tup (ea_cons ee_int (ea_cons ee_int ea_nil))) (ea_cons (ee_tup (ea_cons ee_int (ea_cons (ee_pow ee_int ee_int) ea_nil))) (ea_cons (ee_tup (ea_cons (ee_neg ee_int) (ea_cons (ee_pow ee_int ee_int) ea_nil))) (ea_cons (ee_call D__law_great hr (by decide) (by rfl) (ea_cons (ee_var 0) ea_nil)) ea_nil)))))) ea_nil))))
    (ess_one (es_ret (ee_tup (ea_cons (ee_var 4) (ea_cons (ee_call D__law_plus hr (by decide) (by rfl) (ea_cons (ee_tup (ea_cons (ee_neg (ee_ixk (n := 0) rfl (ee_var 5))) (ea_cons (ee_ixk (n := 1) rfl (ee_var 5)) ea_nil))) (ea_cons (ee_var 6) ea_nil))) (ea_cons (ee_eq hr.units (ee_call D__law_take hr (by decide) (by rfl) (ea_cons (ee_var 0) (ea_cons ee_int ea_nil))) ee_int) ea_nil))))))))))))
abbrev s__law_test : Stmt := top 40
theorem sc__law_test : FnScope ["units", "bound", "factors", "rest", "strict", "own", "many", "t", "whole", "shared", "number", "p", "q", "k"] ["units", "bound"] (defScope s__law_test) := ⟨rfl, rfl, rfl, by decide +kernel, rfl, by decide +kernel, by decide +kernel⟩
theorem ok__law_test {f : Addr} {fd : FuncData} (F : Fun K "_law_test" "_law_test" s__law_test f fd) (T : Txt K mg) (D__law_ratio : DefAt P w K mg base 1 "_law_ratio" ["p", "q"] T__law_ratio) (D__law_mult : DefAt P w K mg base 2 "_law_mult" ["s", "t"] T__law_mult) (D__law_over : DefAt P w K mg base 2 "_law_over" ["s", "t"] T__law_over) (D__law_shared : DefAt P w K mg base 1 "_law_shared" ["a", "b"] T__law_shared) : FnOk P w K mg base CX0 3 f fd ["units", "bound"] (spD K 2 T__law_test) := by
  refine fn_okD (k := 2) F sc__law_test rfl fun cdv A outer s H hr => ⟨rd__law_test, ?_, m__law_test⟩
  exact (ess_cons (es_asg (ee_var 1) (eg_tup rfl (egs_cons (ks := [2, 3, 4]) (eg_name (i := 2) sc__law_test.nd rfl (by first | exact Or.inl rfl | exact Or.inr rfl)) (egs_cons (ks := [3, 4]) (eg_name (i := 3) sc__law_test.nd rfl (by first | exact Or.inl rfl | exact Or.inr rfl)) (egs_cons (ks := [4]) (eg_name (i := 4) sc__law_test.nd rfl (by first | exact Or.inl rfl | exact Or.inr rfl)) (egs_nil (is := [])) (by decide) (by decide)) (by decide) (by decide)) (by decide) (by decide))))
    (ess_cons (by first
      | exact es_setLcG 5 (own := [("k", 13)]) kok_fro (by decide) rfl sc__law_test.nd rfl rfl (sw_true rfl rfl rfl (by decide +kernel)) (ei_rg1 (by rfl) T.b_range (ea_cons (ec_len (by rfl) T.b_len (ea_cons (ee_var 0) ea_nil)) ea_nil)) (blkOk_by (own := [("k", 13)]) (N := ["units", "bound", "factors", "rest", "strict", "own", "many", "t", "whole", "shared", "number", "p", "q", "k"]) (sc := defScope s__law_test) (by decide +kernel)) (fun _ _ _ _ _ => (eg_name (i := 13) sc__law_test.nd rfl (by first | exact Or.inl rfl | exact Or.inr rfl))) (fun _ _ _ _ _ => epts_nil) (fun _ _ _ _ _ => (ee_call D__law_mult hr (by decide) (by rfl) (ea_cons (ee_ix (ee_var 2) (ee_var 13)) (ea_cons (ee_ix (ee_var 0) (ee_var 13)) ea_nil))))
      | exact es_set 5 sc__law_test.nd rfl (by first | exact Or.inl rfl | exact Or.inr rfl) (ee_lcG (own := [("k", 13)]) kok_fro (by decide) rfl sc__law_test.nd (ei_rg1 (by rfl) T.b_range (ea_cons (ec_len (by rfl) T.b_len (ea_cons (ee_var 0) ea_nil)) ea_nil)) (blkOk_by (own := [("k", 13)]) (N := ["units", "bound", "factors", "rest", "strict", "own", "many", "t", "whole", "shared", "number", "p", "q", "k"]) (sc := defScope s__law_test) (by decide +kernel)) (fun _ _ _ _ _ => (eg_name (i := 13) sc__law_test.nd rfl (by first | exact Or.inl rfl | exact Or.inr rfl))) (fun _ _ _ _ _ => epts_nil) (fun _ _ _ _ _ => (ee_call D__law_mult hr (by decide) (by rfl) (ea_cons (ee_ix (ee_var 2) (ee_var 13)) (ea_cons (ee_ix (ee_var 0) (ee_var 13)) ea_nil))))))
    (ess_cons (es_set 6 sc__law_test.nd rfl (by first | exact Or.inl rfl | exact Or.inr rfl) ee_int)
    (ess_cons (es_for PassesOwn.never rfl (ei_items (ee_var 5)) (eg_name (i := 7) sc__law_test.nd rfl (by first | exact Or.inl rfl | exact Or.inr rfl))
    (ess_one (es_set 6 sc__law_test.nd rfl (by first | exact Or.inl rfl | exact Or.inr rfl) (ee_div (ee_mul (ee_var 6) (ee_ixk (n := 1) rfl (ee_var 7))) (ee_call D__law_shared hr (by decide) (by rfl) (ea_cons (ee_var 6) (ea_cons (ee_ixk (n := 1) rfl (ee_var 7)) ea_nil)))))))
    (ess_cons (by first
      | exact es_setLcG 8 (own := [("t", 7)]) kok_fro (by decide) rfl sc__law_test.nd rfl rfl (sw_true rfl rfl rfl (by decide +kernel)) (ei_items (ee_var 5)) (blkOk_by (own := [("t", 7)]) (N := ["units", "bound", "factors", "rest", "strict", "own", "many", "t", "whole", "shared", "number", "p", "q", "k"]) (sc := defScope s__law_test) (by decide +kernel)) (fun _ _ _ _ _ => (eg_name (i := 7) sc__law_test.nd rfl (by first | exact Or.inl rfl | exact Or.inr rfl))) (fun _ _ _ _ _ => epts_nil) (fun _ _ _ _ _ => (ee_mul (ee_ixk (n := 0) rfl (ee_var 7)) (ee_div (ee_var 6) (ee_ixk (n := 1) rfl (ee_var 7)))))
      | exact es_set 8 sc__law_test.nd rfl (by first | exact Or.inl rfl | exact Or.inr rfl) (ee_lcG (own := [("t", 7)]) kok_fro (by decide) rfl sc__law_test.nd (ei_items (ee_var 5)) (blkOk_by (own := [("t", 7)]) (N := ["units", "bound", "factors", "rest", "strict", "own", "many", "t", "whole", "shared", "number", "p", "q", "k"]) (sc := defScope s__law_test) (by decide +kernel)) (fun _ _ _ _ _ => (eg_name (i := 7) sc__law_test.nd rfl (by first | exact Or.inl rfl | exact Or.inr rfl))) (fun _ _ _ _ _ => epts_nil) (fun _ _ _ _ _ => (ee_mul (ee_ixk (n := 0) rfl (ee_var 7)) (ee_div (ee_var 6) (ee_ixk (n := 1) rfl (ee_var 7)))))))
    (ess_cons (es_set 9 sc__law_test.nd rfl (by first | exact Or.inl rfl | exact Or.inr rfl) ee_int)
    (ess_cons (es_for PassesOwn.never rfl (ei_items (ee_var 8)) (eg_name (i := 10) sc__law_test.nd rfl (by first | exact Or.inl rfl | exact Or.inr rfl))
    (ess_one (es_set 9 sc__law_test.nd rfl (by first | exact Or.inl rfl | exact Or.inr rfl) (ee_call D__law_shared hr (by decide) (by rfl) (ea_cons (ee_var 9) (ea_cons (ec_abs (by rfl) T.b_abs (ea_cons (ee_var 10) ea_nil)) ea_nil))))))
    (ess_cons (es_if (et_eq hr.units (ee_var 9) ee_int)
    (ess_one (es_ret (ee_tup (ea_cons (ec_tuple (by rfl) T.b_tuple (ea_cons (ee_var 8) ea_nil)) (ea_cons (ee_sub (ee_ixk (n := 0) rfl (ee_var 3)) (ec_int (by rfl) T.b_int (ea_cons (ee_var 4) ea_nil))) ea_nil)))))
    ess_nil)
    (ess_cons (es_asg (ee_call D__law_over hr (by decide) (by rfl) (ea_cons (ee_var 3) (ea_cons (ee_call D__law_ratio hr (by decide) (by rfl) (ea_cons (ee_var 9) (ea_cons (ee_var 6) ea_nil))) ea_nil))) (eg_tup rfl (egs_cons (ks := [11, 12]) (eg_name (i := 11) sc__law_test.nd rfl (by first | exact Or.inl rfl | exact Or.inr rfl)) (egs_cons (ks := [12]) (eg_name (i := 12) sc__law_test.nd rfl (by first | exact Or.inl rfl | exact Or.inr rfl)) (egs_nil (is := [])) (by decide) (by decide)) (by decide) (by decide))))
    (ess_one (es_ret (ee_tup (ea_cons (ec_tuple (by rfl) T.b_tuple (ea_cons (ee_lcG (own := [("number", 10)]) kok_fro (by decide) rfl sc__law_test.nd (ei_items (ee_var 8)) (blkOk_by (own := [("number", 10)]) (N := ["units", "bound", "factors", "rest", "strict", "own", "many", "t", "whole", "shared", "number", "p", "q", "k"]) (sc := defScope s__law_test) (by decide +kernel)) (fun _ _ _ _ _ => (eg_name (i := 10) sc__law_test.nd rfl (by first | exact Or.inl rfl | exact Or.inr rfl))) (fun _ _ _ _ _ => epts_nil) (fun _ _ _ _ _ => (ee_div (ee_var 10) (ee_var 9)))) ea_nil)) (ea_cons (ee_if (et_tru (ee_var 4)) (ee_sub (ee_neg (ee_div (ee_neg (ee_var 11)) (ee_var 12))) ee_int) (ee_div (ee_var 11) (ee_var 12))) ea_nil))))))))))))))
abbrev s__law_holds : Stmt := top 41
theorem sc__law_holds : FnScope ["units", "bound", "whole", "high"] ["units", "bound", "whole"] (defScope s__law_holds) := ⟨rfl, rfl, rfl, by decide +kernel, rfl, by decide +kernel, by decide +kernel⟩
theorem ok__law_holds {f : Addr} {fd : FuncData} (F : Fun K "_law_holds" "_law_holds" s__law_holds f fd) (T : Txt K mg) (D__law_plus : DefAt P w K mg base 2 "_law_plus" ["s", "t"] T__law_plus) (D__law_worst : DefAt P w K mg base 3 "_law_worst" ["units", "factors", "whole"] T__law_worst) : FnOk P w K mg base CX0 4 f fd ["units", "bound", "whole"] (spD K 3 T__law_holds) := by
  refine fn_okD (k := 3) F sc__law_holds rfl fun cdv A outer s H hr => ⟨rd__law_holds, ?_, m__law_holds⟩
  exact (ess_cons (es_set 3 sc__law_holds.nd rfl (by first | exact Or.inl rfl | exact Or.inr rfl) (ee_call D__law_plus hr (by decide) (by rfl) (ea_cons (ee_call D__law_worst hr (by decide) (by rfl) (ea_cons (ee_var 0) (ea_cons (ee_ixk (n := 0) rfl (ee_var 1)) (ea_cons (ee_var 2) ea_nil)))) (ea_cons (ee_ixk (n := 1) rfl (ee_var 1)) ea_nil))))
    (ess_one (es_ret (ee_or (ee_gt (ee_ixk (n := 0) rfl (ee_var 3)) ee_int) (ee_one (ee_and (ee_eq hr.units (ee_ixk (n := 0) rfl (ee_var 3)) ee_int) (ee_one (ee_not (ee_ixk (n := 2) rfl (ee_var 1))))))))))
abbrev s__law_sized : Stmt := top 42
theorem sc__law_sized : FnScope ["bound", "t", "factor"] ["bound", "t"] (defScope s__law_sized) := ⟨rfl, rfl, rfl, by decide +kernel, rfl, by decide +kernel, by decide +kernel⟩
theorem ok__law_sized {f : Addr} {fd : FuncData} (F : Fun K "_law_sized" "_law_sized" s__law_sized f fd) (T : Txt K mg) (D__law_mult : DefAt P w K mg base 2 "_law_mult" ["s", "t"] T__law_mult) : FnOk P w K mg base CX0 3 f fd ["bound", "t"] (spD K 2 T__law_sized) := by
  refine fn_okD (k := 2) F sc__law_sized rfl fun cdv A outer s H hr => ⟨rd__law_sized, ?_, m__law_sized⟩
  exact (ess_one (es_ret (ee_tup (ea_cons (ec_tuple (by rfl) T.b_tuple (ea_cons (ee_lcG (own := [("factor", 2)]) kok_fro (by decide) rfl sc__law_sized.nd (ei_items (ee_ixk (n := 0) rfl (ee_var 0))) (blkOk_by (own := [("factor", 2)]) (N := ["bound", "t", "factor"]) (sc := defScope s__law_sized) (by decide +kernel)) (fun _ _ _ _ _ => (eg_name (i := 2) sc__law_sized.nd rfl (by first | exact Or.inl rfl | exact Or.inr rfl))) (fun _ _ _ _ _ => epts_nil) (fun _ _ _ _ _ => (ee_call D__law_mult hr (by decide) (by rfl) (ea_cons (ee_var 1) (ea_cons (ee_var 2) ea_nil))))) ea_nil)) (ea_cons (ee_call D__law_mult hr (by decide) (by rfl) (ea_cons (ee_var 1) (ea_cons (ee_ixk (n := 1) rfl (ee_var 0)) ea_nil))) (ea_cons (ee_ixk (n := 2) rfl (ee_var 0)) ea_nil))))))
abbrev s__law_boxes_right : Stmt := top 43
theorem sc__law_boxes_right : FnScope ["deal", "units", "n", "box", "due", "k", "lo", "hi", "tiny", "low", "high"] ["deal", "units"] (defScope s__law_boxes_right) := ⟨rfl, rfl, rfl, by decide +kernel, rfl, by decide +kernel, by decide +kernel⟩
theorem ok__law_boxes_right {f : Addr} {fd : FuncData} (F : Fun K "_law_boxes_right" "_law_boxes_right" s__law_boxes_right f fd) (T : Txt K mg) (D_down : DefAt P w K mg base 4 "down" ["t", "d"] T_down) (D_up : DefAt P w K mg base 4 "up" ["t", "d"] T_up) (D_made_whole : DefAt P w K mg base 5 "made_whole" ["units", "box"] T_made_whole) (D__law_take : DefAt P w K mg base 1 "_law_take" ["deal", "many"] T__law_take) (D__law_pick : DefAt P w K mg base 2 "_law_pick" ["deal", "things"] T__law_pick) (D__law_same : DefAt P w K mg base 5 "_law_same" ["a", "b"] T__law_same) (D__law_plus : DefAt P w K mg base 2 "_law_plus" ["s", "t"] T__law_plus) (D__law_mult : DefAt P w K mg base 2 "_law_mult" ["s", "t"] T__law_mult) : FnOk P w K mg base CX0 6 f fd ["deal", "units"] (spD K 2 T__law_boxes_right) := by
  refine fn_okD (k := 5) F sc__law_boxes_right rfl fun cdv A outer s H hr => ⟨rd__law_boxes_right, ?_, m__law_boxes_right⟩
  exact (ess_cons (es_set 2 sc__law_boxes_right.nd rfl (by first | exact Or.inl rfl | exact Or.inr rfl) (ec_len (by rfl) T.b_len (ea_cons (ee_var 1) ea_nil)))
    (ess_cons (es_par 3 4 rfl sc__law_boxes_right.nd rfl rfl (by decide) rfl rfl (ea_cons (ee_lstM ea_nil) (ea_cons (ee_lstM ea_nil) ea_nil)) (by rfl))
    (ess_cons (es_for PassesOwn.never rfl (ei_rg1 (by rfl) T.b_range (ea_cons (ee_var 2) ea_nil)) (eg_name (i := 5) sc__law_boxes_right.nd rfl (by first | exact Or.inl rfl | exact Or.inr rfl))
    (ess_cons (es_set 6 sc__law_boxes_right.nd rfl (by first | exact Or.inl rfl | exact Or.inr rfl) (ee_sub (ee_call D__law_take hr (by decide) (by rfl) (ea_cons (ee_var 0) (ea_cons ee_int ea_nil))) ee_int))
    (ess_cons (es_set 7 sc__law_boxes_right.nd rfl (by first | exact Or.inl rfl | exact Or.inr rfl) (ee_add (ee_var 6) (ee_call D__law_take hr (by decide) (by rfl) (ea_cons (ee_var 0) (ea_cons ee_int ea_nil)))))
    (ess_cons (es_set 8 sc__law_boxes_right.nd rfl (by first | exact Or.inl rfl | exact Or.inr rfl) (ee_call D__law_mult hr (by decide) (by rfl) (ea_cons (ee_ix (ee_var 1) (ee_var 5)) (ea_cons (ee_call D__law_pick hr (by decide) (by rfl) (ea_cons (ee_var 0) (ea_cons (ee_lst (ea_cons (ee_tup (ea_cons ee_int (ea_cons ee_int ea_nil))) (ea_cons (ee_tup (ea_cons ee_int (ea_cons ee_int ea_nil))) (ea_cons (ee_tup (ea_cons (ee_neg ee_int) (ea_cons (ee_pow ee_int ee_int) ea_nil))) ea_nil)))) ea_nil))) ea_nil))))
    (ess_cons (es_set 9 sc__law_boxes_right.nd rfl (by first | exact Or.inl rfl | exact Or.inr rfl) (ee_call D__law_plus hr (by decide) (by rfl) (ea_cons (ee_call D__law_mult hr (by decide) (by rfl) (ea_cons (ee_ix (ee_var 1) (ee_var 5)) (ea_cons (ee_tup (ea_cons (ee_var 6) (ea_cons ee_int ea_nil))) ea_nil))) (ea_cons (ee_var 8) ea_nil))))
    (ess_cons (es_set 10 sc__law_boxes_right.nd rfl (by first | exact Or.inl rfl | exact Or.inr rfl) (ee_call D__law_plus hr (by decide) (by rfl) (ea_cons (ee_call D__law_mult hr (by decide) (by rfl) (ea_cons (ee_ix (ee_var 1) (ee_var 5)) (ea_cons (ee_tup (ea_cons (ee_var 7) (ea_cons ee_int ea_nil))) ea_nil))) (ea_cons (ee_var 8) ea_nil))))
    (ess_cons (es_expr (ee_app (ee_var 3) (ee_tup (ea_cons (ee_var 9) (ea_cons (ee_var 10) ea_nil)))))
    (ess_cons (es_expr (ee_app (ee_var 4) (ee_tup (ea_cons (ee_sub (ee_var 6) (ec_int (by rfl) T.b_int (ea_cons (ee_lt (ee_ixk (n := 0) rfl (ee_var 8)) ee_int) ea_nil))) (ea_cons (ee_add (ee_var 7) (ec_int (by rfl) T.b_int (ea_cons (ee_gt (ee_ixk (n := 0) rfl (ee_var 8)) ee_int) ea_nil))) ea_nil)))))
    (ess_one (es_if (PW.pt (ew_or (et_not (et_tru (ee_call D__law_same hr (by decide) (by rfl) (ea_cons (ee_call D_down hr (by decide) (by rfl) (ea_cons (ee_var 9) (ea_cons (ee_ix (ee_var 1) (ee_var 5)) ea_nil))) (ea_cons (ee_ixk (n := 0) rfl (ee_ix (ee_var 4) (ee_var 5))) ea_nil))))) (ew_or1 (et_not (et_tru (ee_call D__law_same hr (by decide) (by rfl) (ea_cons (ee_call D_up hr (by decide) (by rfl) (ea_cons (ee_var 10) (ea_cons (ee_ix (ee_var 1) (ee_var 5)) ea_nil))) (ea_cons (ee_ixk (n := 1) rfl (ee_ix (ee_var 4) (ee_var 5))) ea_nil))))))))
    (ess_one (es_ret ee_bl))
    ess_nil))))))))))
    (ess_one (es_ret (ee_call D__law_same hr (by decide) (by rfl) (ea_cons (ee_call D_made_whole hr (by decide) (by rfl) (ea_cons (ee_var 1) (ea_cons (ec_tuple (by rfl) T.b_tuple (ea_cons (ee_var 3) ea_nil)) ea_nil))) (ea_cons (ec_tuple (by rfl) T.b_tuple (ea_cons (ee_var 4) ea_nil)) ea_nil))))))))
abbrev s_law : Stmt := top 44
theorem sc_law : FnScope ["script", "deal", "n", "units", "odds", "whole", "worths", "table", "i", "bounds", "other", "spot", "first", "command", "all_hold", "bound", "due", "test", "size", "row", "odd", "k", "t"] ["script"] (defScope s_law) := ⟨rfl, rfl, rfl, by decide +kernel, rfl, by decide +kernel, by decide +kernel⟩
theorem ok_law {f : Addr} {fd : FuncData} (F : Fun K "law" "law" s_law f fd) (T : Txt K mg) (D_whole_test : DefAt P w K mg base 4 "whole_test" ["units", "bound"] T_whole_test) (D_whole_row : DefAt P w K mg base 5 "whole_row" ["units", "row"] T_whole_row) (D_whole_table : DefAt P w K mg base 6 "whole_table" ["units", "table"] T_whole_table) (D_holds_for : DefAt P w K mg base 2 "holds_for" ["test", "whole"] T_holds_for) (D_row_holds : DefAt P w K mg base 3 "row_holds" ["row", "whole"] T_row_holds) (D_command_in : DefAt P w K mg base 4 "command_in" ["table", "whole"] T_command_in) (D_are_units : DefAt P w K mg base 3 "are_units" ["n", "datum"] T_are_units) (D_worth_of : DefAt P w K mg base 4 "worth_of" ["units", "whole"] T_worth_of) (D__law_deal : DefAt P w K mg base 1 "_law_deal" ["script"] T__law_deal) (D__law_take : DefAt P w K mg base 1 "_law_take" ["deal", "many"] T__law_take) (D__law_pick : DefAt P w K mg base 2 "_law_pick" ["deal", "things"] T__law_pick) (D__law_same : DefAt P w K mg base 5 "_law_same" ["a", "b"] T__law_same) (D__law_bool : DefAt P w K mg base 1 "_law_bool" ["answer", "due"] T__law_bool) (D__law_mult : DefAt P w K mg base 2 "_law_mult" ["s", "t"] T__law_mult) (D__law_units : DefAt P w K mg base 3 "_law_units" ["deal", "n"] T__law_units) (D__law_whole : DefAt P w K mg base 3 "_law_whole" ["deal", "n"] T__law_whole) (D__law_bound : DefAt P w K mg base 4 "_law_bound" ["deal", "units", "whole"] T__law_bound) (D__law_test : DefAt P w K mg base 3 "_law_test" ["units", "bound"] T__law_test) (D__law_holds : DefAt P w K mg base 4 "_law_holds" ["units", "bound", "whole"] T__law_holds) (D__law_sized : DefAt P w K mg base 3 "_law_sized" ["bound", "t"] T__law_sized) (D__law_boxes_right : DefAt P w K mg base 6 "_law_boxes_right" ["deal", "units"] T__law_boxes_right) : FnOk P w K mg base CX0 7 f fd ["script"] (spD K 1 T_law) := by
  refine fn_okD (k := 6) F sc_law rfl fun cdv A outer s H hr => ⟨rd_law, ?_, m_law⟩
  exact (ess_cons (es_set 1 sc_law.nd rfl (by first | exact Or.inl rfl | exact Or.inr rfl) (ee_call D__law_deal hr (by decide) (by rfl) (ea_cons (ee_var 0) ea_nil)))
    (ess_cons (es_set 2 sc_law.nd rfl (by first | exact Or.inl rfl | exact Or.inr rfl) (ee_call D__law_pick hr (by decide) (by rfl) (ea_cons (ee_var 1) (ea_cons (ee_lst (ea_cons ee_int (ea_cons ee_int (ea_cons ee_int (ea_cons ee_int ea_nil))))) ea_nil))))
    (ess_cons (es_set 3 sc_law.nd rfl (by first | exact Or.inl rfl | exact Or.inr rfl) (ee_call D__law_units hr (by decide) (by rfl) (ea_cons (ee_var 1) (ea_cons (ee_var 2) ea_nil))))
    (ess_cons (es_set 4 sc_law.nd rfl (by first | exact Or.inl rfl | exact Or.inr rfl) (ee_lst (ea_cons (ee_addL (ee_var 3) (ee_sl (ee_var 3) eo_none (eo_some ee_int))) (ea_cons (ee_sl (ee_var 3) eo_none (eo_some (ee_sub (ee_var 2) ee_int))) (ea_cons (ee_addL (ee_sl (ee_var 3) eo_none (eo_some (ee_sub (ee_var 2) ee_int))) (ee_tup (ea_cons (ee_tup (ea_cons ee_int (ea_cons ee_int ea_nil))) ea_nil))) (ea_cons (ee_addL (ee_sl (ee_var 3) eo_none (eo_some (ee_sub (ee_var 2) ee_int))) (ee_tup (ea_cons (ee_tup (ea_cons (ee_neg ee_int) (ea_cons ee_int ea_nil))) ea_nil))) (ea_cons (ee_addL (ee_sl (ee_var 3) eo_none (eo_some (ee_sub (ee_var 2) ee_int))) (ee_tup (ea_cons (ee_tup (ea_cons ee_int (ea_cons ee_int ea_nil))) ea_nil))) ea_nil)))))))
    (ess_cons (es_if (PW.pt (ew_or (et_notB (ee_call D_are_units hr (by decide) (by rfl) (ea_cons (ee_var 2) (ea_cons (ee_var 3) ea_nil))) ee_bl) (ew_or1 (et_gt (ec_len (by rfl) T.b_len (ea_cons (ee_lcG (own := [("odd", 20)]) kok_fro (by decide) rfl sc_law.nd (ei_items (ee_var 4)) (blkOk_by (own := [("odd", 20)]) (N := ["script", "deal", "n", "units", "odds", "whole", "worths", "table", "i", "bounds", "other", "spot", "first", "command", "all_hold", "bound", "due", "test", "size", "row", "odd", "k", "t"]) (sc := defScope s_law) (by decide +kernel)) (fun _ _ _ _ _ => (eg_name (i := 20) sc_law.nd rfl (by first | exact Or.inl rfl | exact Or.inr rfl))) (fun _ _ _ _ _ => (epts_one (et_notB (ee_call D_are_units hr (by decide) (by rfl) (ea_cons (ee_var 2) (ea_cons (ee_var 20) ea_nil))) ee_bl))) (fun _ _ _ _ _ => ee_int)) ea_nil)) ee_int))))
    (ess_one (es_ret ee_bl))
    ess_nil)
    (ess_cons (es_set 5 sc_law.nd rfl (by first | exact Or.inl rfl | exact Or.inr rfl) (ee_call D__law_whole hr (by decide) (by rfl) (ea_cons (ee_var 1) (ea_cons (ee_var 2) ea_nil))))
    (ess_cons (es_set 6 sc_law.nd rfl (by first | exact Or.inl rfl | exact Or.inr rfl) (ec_tuple (by rfl) T.b_tuple (ea_cons (ee_lcG (own := [("k", 21)]) kok_fro (by decide) rfl sc_law.nd (ei_rg1 (by rfl) T.b_range (ea_cons (ee_var 2) ea_nil)) (blkOk_by (own := [("k", 21)]) (N := ["script", "deal", "n", "units", "odds", "whole", "worths", "table", "i", "bounds", "other", "spot", "first", "command", "all_hold", "bound", "due", "test", "size", "row", "odd", "k", "t"]) (sc := defScope s_law) (by decide +kernel)) (fun _ _ _ _ _ => (eg_name (i := 21) sc_law.nd rfl (by first | exact Or.inl rfl | exact Or.inr rfl))) (fun _ _ _ _ _ => epts_nil) (fun _ _ _ _ _ => (ee_tup (ea_cons (ee_call D__law_mult hr (by decide) (by rfl) (ea_cons (ee_ix (ee_var 3) (ee_var 21)) (ea_cons (ee_tup (ea_cons (ee_ixk (n := 0) rfl (ee_ix (ee_var 5) (ee_var 21))) (ea_cons ee_int ea_nil))) ea_nil))) (ea_cons (ee_call D__law_mult hr (by decide) (by rfl) (ea_cons (ee_ix (ee_var 3) (ee_var 21)) (ea_cons (ee_tup (ea_cons (ee_ixk (n := 1) rfl (ee_ix (ee_var 5) (ee_var 21))) (ea_cons ee_int ea_nil))) ea_nil))) ea_nil))))) ea_nil)))
    (ess_cons (es_if (et_not (et_tru (ee_call D__law_same hr (by decide) (by rfl) (ea_cons (ee_call D_worth_of hr (by decide) (by rfl) (ea_cons (ee_var 3) (ea_cons (ee_var 5) ea_nil))) (ea_cons (ee_var 6) ea_nil)))))
    (ess_one (es_ret ee_bl))
    ess_nil)
    (ess_cons (es_set 7 sc_law.nd rfl (by first | exact Or.inl rfl | exact Or.inr rfl) (ee_lstM ea_nil))
    (ess_cons (es_for PassesOwn.never rfl (ei_rg1 (by rfl) T.b_range (ea_cons ee_int ea_nil)) (eg_name (i := 8) sc_law.nd rfl (by first | exact Or.inl rfl | exact Or.inr rfl))
    (ess_cons (by first
      | exact es_setLcG 9 (own := [("k", 21)]) kok_fro (by decide) rfl sc_law.nd rfl rfl (sw_true rfl rfl rfl (by decide +kernel)) (ei_rg1 (by rfl) T.b_range (ea_cons (ee_add ee_int (ee_call D__law_take hr (by decide) (by rfl) (ea_cons (ee_var 1) (ea_cons ee_int ea_nil)))) ea_nil)) (blkOk_by (own := [("k", 21)]) (N := ["script", "deal", "n", "units", "odds", "whole", "worths", "table", "i", "bounds", "other", "spot", "first", "command", "all_hold", "bound", "due", "test", "size", "row", "odd", "k", "t"]) (sc := defScope s_law) (by decide +kernel)) (fun _ _ _ _ _ => (eg_name (i := 21) sc_law.nd rfl (by first | exact Or.inl rfl | exact Or.inr rfl))) (fun _ _ _ _ _ => epts_nil) (fun _ _ _ _ _ => (ee_call D__law_bound hr (by decide) (by rfl) (ea_cons (ee_var 1) (ea_cons (ee_var 3) (ea_cons (ee_var 5) ea_nil)))))
      | exact es_set 9 sc_law.nd rfl (by first | exact Or.inl rfl | exact Or.inr rfl) (ee_lcG (own := [("k", 21)]) kok_fro (by decide) rfl sc_law.nd (ei_rg1 (by rfl) T.b_range (ea_cons (ee_add ee_int (ee_call D__law_take hr (by decide) (by rfl) (ea_cons (ee_var 1) (ea_cons ee_int ea_nil)))) ea_nil)) (blkOk_by (own := [("k", 21)]) (N := ["script", "deal", "n", "units", "odds", "whole", "worths", "table", "i", "bounds", "other", "spot", "first", "command", "all_hold", "bound", "due", "test", "size", "row", "odd", "k", "t"]) (sc := defScope s_law) (by decide +kernel)) (fun _ _ _ _ _ => (eg_name (i := 21) sc_law.nd rfl (by first | exact Or.inl rfl | exact Or.inr rfl))) (fun _ _ _ _ _ => epts_nil) (fun _ _ _ _ _ => (ee_call D__law_bound hr (by decide) (by rfl) (ea_cons (ee_var 1) (ea_cons (ee_var 3) (ea_cons (ee_var 5) ea_nil)))))))
    (ess_one (es_expr (ee_app (ee_var 7) (ee_tup (ea_cons (ec_tuple (by rfl) T.b_tuple (ea_cons (ee_var 9) ea_nil)) (ea_cons (ee_call D__law_take hr (by decide) (by rfl) (ea_cons (ee_var 1) (ea_cons ee_int ea_nil))) ea_nil))))))))
    (ess_cons (es_set 10 sc_law.nd rfl (by first | exact Or.inl rfl | exact Or.inr rfl) (ee_call D__law_whole hr (by decide) (by rfl) (ea_cons (ee_var 1) (ea_cons (ee_var 2) ea_nil))))
    (ess_cons (es_for PassesOwn.never rfl (ei_items (ee_lst (ea_cons (ee_var 5) (ea_cons (ee_var 10) ea_nil)))) (eg_name (i := 11) sc_law.nd rfl (by first | exact Or.inl rfl | exact Or.inr rfl))
    (ess_cons (es_set 12 sc_law.nd rfl (by first | exact Or.inl rfl | exact Or.inr rfl) ee_non)
    (ess_cons (es_for PassesOwn.never rfl (ei_items (ee_var 7)) (eg_tup rfl (egs_cons (ks := [9, 13]) (eg_name (i := 9) sc_law.nd rfl (by first | exact Or.inl rfl | exact Or.inr rfl)) (egs_cons (ks := [13]) (eg_name (i := 13) sc_law.nd rfl (by first | exact Or.inl rfl | exact Or.inr rfl)) (egs_nil (is := [])) (by decide) (by decide)) (by decide) (by decide)))
    (ess_cons (es_set 14 sc_law.nd rfl (by first | exact Or.inl rfl | exact Or.inr rfl) ee_bl)
    (ess_cons (es_for PassesOwn.never rfl (ei_items (ee_var 9)) (eg_name (i := 15) sc_law.nd rfl (by first | exact Or.inl rfl | exact Or.inr rfl))
    (ess_cons (es_set 16 sc_law.nd rfl (by first | exact Or.inl rfl | exact Or.inr rfl) (ee_call D__law_holds hr (by decide) (by rfl) (ea_cons (ee_var 3) (ea_cons (ee_var 15) (ea_cons (ee_var 11) ea_nil)))))
    (ess_cons (es_set 17 sc_law.nd rfl (by first | exact Or.inl rfl | exact Or.inr rfl) (ee_call D_whole_test hr (by decide) (by rfl) (ea_cons (ee_var 3) (ea_cons (ee_var 15) ea_nil))))
    (ess_cons (es_if (PW.pt (ew_or (et_not (et_tru (ee_call D__law_same hr (by decide) (by rfl) (ea_cons (ee_var 17) (ea_cons (ee_call D__law_test hr (by decide) (by rfl) (ea_cons (ee_var 3) (ea_cons (ee_var 15) ea_nil))) ea_nil))))) (ew_or1 (et_not (et_tru (ee_call D__law_bool hr (by decide) (by rfl) (ea_cons (ee_call D_holds_for hr (by decide) (by rfl) (ea_cons (ee_var 17) (ea_cons (ee_var 11) ea_nil))) (ea_cons (ee_var 16) ea_nil))))))))
    (ess_one (es_ret ee_bl))
    ess_nil)
    (ess_cons (es_if (et_gt (ec_len (by rfl) T.b_len (ea_cons (ee_lcG (own := [("t", 22)]) kok_fro (by decide) rfl sc_law.nd (ei_items (ee_ixk (n := 0) rfl (ee_var 15))) (blkOk_by (own := [("t", 22)]) (N := ["script", "deal", "n", "units", "odds", "whole", "worths", "table", "i", "bounds", "other", "spot", "first", "command", "all_hold", "bound", "due", "test", "size", "row", "odd", "k", "t"]) (sc := defScope s_law) (by decide +kernel)) (fun _ _ _ _ _ => (eg_name (i := 22) sc_law.nd rfl (by first | exact Or.inl rfl | exact Or.inr rfl))) (fun _ _ _ _ _ => (epts_one (et_ne hr.units (ee_ixk (n := 0) rfl (ee_var 22)) ee_int))) (fun _ _ _ _ _ => ee_int)) ea_nil)) ee_int)
    (ess_cons (es_set 18 sc_law.nd rfl (by first | exact Or.inl rfl | exact Or.inr rfl) (ee_call D__law_pick hr (by decide) (by rfl) (ea_cons (ee_var 1) (ea_cons (ee_lst (ea_cons (ee_tup (ea_cons ee_int (ea_cons ee_int ea_nil))) (ea_cons (ee_tup (ea_cons ee_int (ea_cons ee_int ea_nil))) (ea_cons (ee_tup (ea_cons (ee_pow ee_int ee_int) (ea_cons ee_int ea_nil))) ea_nil)))) ea_nil))))
    (ess_one (es_if (et_not (et_tru (ee_call D__law_same hr (by decide) (by rfl) (ea_cons (ee_call D_whole_test hr (by decide) (by rfl) (ea_cons (ee_var 3) (ea_cons (ee_call D__law_sized hr (by decide) (by rfl) (ea_cons (ee_var 15) (ea_cons (ee_var 18) ea_nil))) ea_nil))) (ea_cons (ee_var 17) ea_nil)))))
    (ess_one (es_ret ee_bl))
    ess_nil)))
    ess_nil)
    (ess_one (es_set 14 sc_law.nd rfl (by first | exact Or.inl rfl | exact Or.inr rfl) (ee_and (ee_var 14) (ee_one (ee_var 16))))))))))
    (ess_cons (es_set 19 sc_law.nd rfl (by first | exact Or.inl rfl | exact Or.inr rfl) (ee_call D_whole_row hr (by decide) (by rfl) (ea_cons (ee_var 3) (ea_cons (ee_tup (ea_cons (ee_var 9) (ea_cons (ee_var 13) ea_nil))) ea_nil))))
    (ess_cons (es_if (et_not (et_tru (ee_call D__law_same hr (by decide) (by rfl) (ea_cons (ee_var 19) (ea_cons (ee_tup (ea_cons (ec_tuple (by rfl) T.b_tuple (ea_cons (ee_lcG (own := [("bound", 15)]) kok_fro (by decide) rfl sc_law.nd (ei_items (ee_var 9)) (blkOk_by (own := [("bound", 15)]) (N := ["script", "deal", "n", "units", "odds", "whole", "worths", "table", "i", "bounds", "other", "spot", "first", "command", "all_hold", "bound", "due", "test", "size", "row", "odd", "k", "t"]) (sc := defScope s_law) (by decide +kernel)) (fun _ _ _ _ _ => (eg_name (i := 15) sc_law.nd rfl (by first | exact Or.inl rfl | exact Or.inr rfl))) (fun _ _ _ _ _ => epts_nil) (fun _ _ _ _ _ => (ee_call D__law_test hr (by decide) (by rfl) (ea_cons (ee_var 3) (ea_cons (ee_var 15) ea_nil))))) ea_nil)) (ea_cons (ee_var 13) ea_nil))) ea_nil)))))
    (ess_one (es_ret ee_bl))
    ess_nil)
    (ess_cons (es_if (et_not (et_tru (ee_call D__law_bool hr (by decide) (by rfl) (ea_cons (ee_call D_row_holds hr (by decide) (by rfl) (ea_cons (ee_var 19) (ea_cons (ee_var 11) ea_nil))) (ea_cons (ee_var 14) ea_nil)))))
    (ess_one (es_ret ee_bl))
    ess_nil)
    (ess_one (es_if (PW.pt (ew_and (et_tru (ee_var 14)) (ew_and1 (et_isN (ee_var 12) ee_non))))
    (ess_one (es_set 12 sc_law.nd rfl (by first | exact Or.inl rfl | exact Or.inr rfl) (ee_var 13)))
    ess_nil))))))))
    (ess_one (es_if (et_not (et_tru (ee_call D__law_same hr (by decide) (by rfl) (ea_cons (ee_call D_command_in hr (by decide) (by rfl) (ea_cons (ee_call D_whole_table hr (by decide) (by rfl) (ea_cons (ee_var 3) (ea_cons (ec_tuple (by rfl) T.b_tuple (ea_cons (ee_var 7) ea_nil)) ea_nil))) (ea_cons (ee_var 11) ea_nil))) (ea_cons (ee_var 12) ea_nil)))))
    (ess_one (es_ret ee_bl))
    ess_nil)))))
    (ess_one (es_ret (ee_call D__law_boxes_right hr (by decide) (by rfl) (ea_cons (ee_var 1) (ea_cons (ee_var 3) ea_nil)))))))))))))))))
end
end K42

set_option Elab.async false
set_option linter.all false
set_option maxRecDepth 100000
set_option maxHeartbeats 4000000
namespace K42
open PySem L2 FL FR
theorem fn_false {P : Program} {w : World} {K : PySem.W.Frag} {mg : Str → Option Value} {base : Heap} {k n : Nat} {f : Addr} {fd : FuncData} {ps : List Str} {T : DSp} (hn : ps.length = n) (h : ∀ xs cs R, ¬ T xs cs R) : FnOk P w K mg base CX0 k f fd ps (spD K n T) :=
  ⟨fun vs H Q E q => by rw [hn]; exact q.1, fun A outer s H args us vs Q E hr he hb hv hs => by
    obtain ⟨_, G, π, cs, xs, R, _, _, q, _⟩ := hs
    exact (h xs cs R q).elim⟩
theorem all_mk {l : PySem.W.OpenLaw} {w : World} {K : PySem.W.Frag} {h : Heap} {mg : Str → Option Value} {fa : Addr} (X : K.In h) (G : h.Ns mainGlobals mg) (hfa : mg "law" = some (.ref fa))
    (r_greatest_divisor : Row K "greatest_divisor" s_greatest_divisor) (r_ratio : Row K "ratio" s_ratio) (r_times : Row K "times" s_times) (r_over : Row K "over" s_over) (r_compare : Row K "compare" s_compare) (r_is_ratio : Row K "is_ratio" s_is_ratio) (r_common_multiple : Row K "common_multiple" s_common_multiple) (r_common_divisor : Row K "common_divisor" s_common_divisor) (r_whole_test : Row K "whole_test" s_whole_test) (r_whole_row : Row K "whole_row" s_whole_row) (r_whole_table : Row K "whole_table" s_whole_table) (r_least_sum : Row K "least_sum" s_least_sum) (r_holds_for : Row K "holds_for" s_holds_for) (r_row_holds : Row K "row_holds" s_row_holds) (r_command_in : Row K "command_in" s_command_in) (r_are_units : Row K "are_units" s_are_units) (r_down : Row K "down" s_down) (r_up : Row K "up" s_up) (r_made_whole : Row K "made_whole" s_made_whole) (r_worth_of : Row K "worth_of" s_worth_of) (r__law_deal : Row K "_law_deal" s__law_deal) (r__law_take : Row K "_law_take" s__law_take) (r__law_pick : Row K "_law_pick" s__law_pick) (r__law_same : Row K "_law_same" s__law_same) (r__law_bool : Row K "_law_bool" s__law_bool) (r__law_ratio : Row K "_law_ratio" s__law_ratio) (r__law_plus : Row K "_law_plus" s__law_plus) (r__law_mult : Row K "_law_mult" s__law_mult) (r__law_over : Row K "_law_over" s__law_over) (r__law_shared : Row K "_law_shared" s__law_shared) (r__law_great : Row K "_law_great" s__law_great) (r__law_units : Row K "_law_units" s__law_units) (r__law_whole : Row K "_law_whole" s__law_whole) (r__law_worst : Row K "_law_worst" s__law_worst) (r__law_bound : Row K "_law_bound" s__law_bound) (r__law_test : Row K "_law_test" s__law_test) (r__law_holds : Row K "_law_holds" s__law_holds) (r__law_sized : Row K "_law_sized" s__law_sized) (r__law_boxes_right : Row K "_law_boxes_right" s__law_boxes_right) (r_law : Row K "law" s_law)
    (b_abs : PySem.W.nsIn K mainGlobals "abs" = some none) (b_zip : PySem.W.nsIn K mainGlobals "zip" = some none) (b_tuple : PySem.W.nsIn K mainGlobals "tuple" = some none) (b_min : PySem.W.nsIn K mainGlobals "min" = some none) (b_sum : PySem.W.nsIn K mainGlobals "sum" = some none) (b_len : PySem.W.nsIn K mainGlobals "len" = some none) (b_range : PySem.W.nsIn K mainGlobals "range" = some none) (b_int : PySem.W.nsIn K mainGlobals "int" = some none) (b_isinstance : PySem.W.nsIn K mainGlobals "isinstance" = some none) (b_list : PySem.W.nsIn K mainGlobals "list" = some none) (b_bool : PySem.W.nsIn K mainGlobals "bool" = some none) (b_str : PySem.W.nsIn K mainGlobals "str" = some none)
    (g_NOTHING : GlobD K mg "NOTHING" c_NOTHING) :
    ∃ fd : FuncData, (∀ (s : Shared) (u : Value), BindsTo s fd ⟨[u], []⟩ [("script", u)]) ∧ ∀ base : Heap, K.In base → base.Ns mainGlobals mg → FnOk l.prog w K mg base CX0 7 fa fd ["script"] (spD K 1 (TLaw 63)) := by
  have T : Txt K mg := ⟨PySem.W.mg_none_of X G b_abs, PySem.W.mg_none_of X G b_zip, PySem.W.mg_none_of X G b_tuple, PySem.W.mg_none_of X G b_min, PySem.W.mg_none_of X G b_sum, PySem.W.mg_none_of X G b_len, PySem.W.mg_none_of X G b_range, PySem.W.mg_none_of X G b_int, PySem.W.mg_none_of X G b_isinstance, PySem.W.mg_none_of X G b_list, PySem.W.mg_none_of X G b_bool, PySem.W.mg_none_of X G b_str, g_NOTHING⟩
  have D_greatest_divisor : ∀ base, DefAt l.prog w K mg base 1 "greatest_divisor" ["p", "q"] T_greatest_divisor := fun base => r_greatest_divisor.at_ X G (fun _ _ _ _ _ _ us hl => match us, hl with | [_, _], _ => rfl) (fun f fd F => ok_greatest_divisor F T )
  have D_ratio : ∀ base, DefAt l.prog w K mg base 2 "ratio" ["p", "q"] T_ratio := fun base => r_ratio.at_ X G (fun _ _ _ _ _ _ us hl => match us, hl with | [_, _], _ => rfl) (fun f fd F => ok_ratio F T (D_greatest_divisor base))
  have D_times : ∀ base, DefAt l.prog w K mg base 3 "times" ["s", "t"] T_times := fun base => r_times.at_ X G (fun _ _ _ _ _ _ us hl => match us, hl with | [_, _], _ => rfl) (fun f fd F => ok_times F T (D_ratio base))
  have D_over : ∀ base, DefAt l.prog w K mg base 3 "over" ["s", "t"] T_over := fun base => r_over.at_ X G (fun _ _ _ _ _ _ us hl => match us, hl with | [_, _], _ => rfl) (fun f fd F => ok_over F T (D_ratio base))
  have D_compare : ∀ base, DefAt l.prog w K mg base 1 "compare" ["s", "t"] T_compare := fun base => r_compare.at_ X G (fun _ _ _ _ _ _ us hl => match us, hl with | [_, _], _ => rfl) (fun f fd F => ok_compare F T )
  have D_is_ratio : ∀ base, DefAt l.prog w K mg base 2 "is_ratio" ["pair"] T_is_ratio := fun base => r_is_ratio.at_ X G (fun _ _ _ _ _ _ us hl => match us, hl with | [_], _ => rfl) (fun f fd F => ok_is_ratio F T (D_greatest_divisor base))
  have D_common_multiple : ∀ base, DefAt l.prog w K mg base 2 "common_multiple" ["ratios"] T_common_multiple := fun base => r_common_multiple.at_ X G (fun _ _ _ _ _ _ us hl => match us, hl with | [_], _ => rfl) (fun f fd F => ok_common_multiple F T (D_greatest_divisor base))
  have D_common_divisor : ∀ base, DefAt l.prog w K mg base 2 "common_divisor" ["numbers"] T_common_divisor := fun base => r_common_divisor.at_ X G (fun _ _ _ _ _ _ us hl => match us, hl with | [_], _ => rfl) (fun f fd F => ok_common_divisor F T (D_greatest_divisor base))
  have D_whole_test : ∀ base, DefAt l.prog w K mg base 4 "whole_test" ["units", "bound"] T_whole_test := fun base => r_whole_test.at_ X G (fun _ _ _ _ _ _ us hl => match us, hl with | [_, _], _ => rfl) (fun f fd F => ok_whole_test F T (D_times base) (D_common_multiple base) (D_common_divisor base))
  have D_whole_row : ∀ base, DefAt l.prog w K mg base 5 "whole_row" ["units", "row"] T_whole_row := fun base => r_whole_row.at_ X G (fun _ _ _ _ _ _ us hl => match us, hl with | [_, _], _ => rfl) (fun f fd F => ok_whole_row F T (D_whole_test base))
  have D_whole_table : ∀ base, DefAt l.prog w K mg base 6 "whole_table" ["units", "table"] T_whole_table := fun base => r_whole_table.at_ X G (fun _ _ _ _ _ _ us hl => match us, hl with | [_, _], _ => rfl) (fun f fd F => ok_whole_table F T (D_whole_row base))
  have D_least_sum : ∀ base, DefAt l.prog w K mg base 1 "least_sum" ["test", "whole"] T_least_sum := fun base => r_least_sum.at_ X G (fun _ _ _ _ _ _ us hl => match us, hl with | [_, _], _ => rfl) (fun f fd F => ok_least_sum F T )
  have D_holds_for : ∀ base, DefAt l.prog w K mg base 2 "holds_for" ["test", "whole"] T_holds_for := fun base => r_holds_for.at_ X G (fun _ _ _ _ _ _ us hl => match us, hl with | [_, _], _ => rfl) (fun f fd F => ok_holds_for F T (D_least_sum base))
  have D_row_holds : ∀ base, DefAt l.prog w K mg base 3 "row_holds" ["row", "whole"] T_row_holds := fun base => r_row_holds.at_ X G (fun _ _ _ _ _ _ us hl => match us, hl with | [_, _], _ => rfl) (fun f fd F => ok_row_holds F T (D_holds_for base))
  have D_command_in : ∀ base, DefAt l.prog w K mg base 4 "command_in" ["table", "whole"] T_command_in := fun base => r_command_in.at_ X G (fun _ _ _ _ _ _ us hl => match us, hl with | [_, _], _ => rfl) (fun f fd F => ok_command_in F T (D_row_holds base))
  have D_are_units : ∀ base, DefAt l.prog w K mg base 3 "are_units" ["n", "datum"] T_are_units := fun base => r_are_units.at_ X G (fun _ _ _ _ _ _ us hl => match us, hl with | [_, _], _ => rfl) (fun f fd F => ok_are_units F T (D_compare base) (D_is_ratio base))
  have D_down : ∀ base, DefAt l.prog w K mg base 4 "down" ["t", "d"] T_down := fun base => r_down.at_ X G (fun _ _ _ _ _ _ us hl => match us, hl with | [_, _], _ => rfl) (fun f fd F => ok_down F T (D_over base))
  have D_up : ∀ base, DefAt l.prog w K mg base 4 "up" ["t", "d"] T_up := fun base => r_up.at_ X G (fun _ _ _ _ _ _ us hl => match us, hl with | [_, _], _ => rfl) (fun f fd F => ok_up F T (D_over base))
  have D_made_whole : ∀ base, DefAt l.prog w K mg base 5 "made_whole" ["units", "box"] T_made_whole := fun base => r_made_whole.at_ X G (fun _ _ _ _ _ _ us hl => match us, hl with | [_, _], _ => rfl) (fun f fd F => ok_made_whole F T (D_down base) (D_up base))
  have D_worth_of : ∀ base, DefAt l.prog w K mg base 4 "worth_of" ["units", "whole"] T_worth_of := fun base => r_worth_of.at_ X G (fun _ _ _ _ _ _ us hl => match us, hl with | [_, _], _ => rfl) (fun f fd F => ok_worth_of F T (D_times base))
  have D__law_deal : ∀ base, DefAt l.prog w K mg base 1 "_law_deal" ["script"] T__law_deal := fun base => r__law_deal.at_ X G (fun _ _ _ _ _ _ us hl => match us, hl with | [_], _ => rfl) (fun f fd F => ok__law_deal F T )
  have D__law_take : ∀ base, DefAt l.prog w K mg base 1 "_law_take" ["deal", "many"] T__law_take := fun base => r__law_take.at_ X G (fun _ _ _ _ _ _ us hl => match us, hl with | [_, _], _ => rfl) (fun f fd F => ok__law_take F T )
  have D__law_pick : ∀ base, DefAt l.prog w K mg base 2 "_law_pick" ["deal", "things"] T__law_pick := fun base => r__law_pick.at_ X G (fun _ _ _ _ _ _ us hl => match us, hl with | [_, _], _ => rfl) (fun f fd F => ok__law_pick F T (D__law_take base))
  have D__law_same0 : ∀ base, DefAt l.prog w K mg base 0 "_law_same" ["a", "b"] (T__law_sameN 0) := fun base => r__law_same.at_ X G (fun _ _ _ _ _ _ us hl => match us, hl with | [_, _], _ => rfl) (fun f fd F => fn_false rfl (h__law_same0))
  have D__law_same1 : ∀ base, DefAt l.prog w K mg base 1 "_law_same" ["a", "b"] (T__law_sameN 1) := fun base => r__law_same.at_ X G (fun _ _ _ _ _ _ us hl => match us, hl with | [_, _], _ => rfl) (fun f fd F => ok__law_same (k := 0) (m__law_sameN 0) F T  (D__law_same0 base))
  have D__law_same2 : ∀ base, DefAt l.prog w K mg base 2 "_law_same" ["a", "b"] (T__law_sameN 2) := fun base => r__law_same.at_ X G (fun _ _ _ _ _ _ us hl => match us, hl with | [_, _], _ => rfl) (fun f fd F => ok__law_same (k := 1) (m__law_sameN 1) F T  (D__law_same1 base))
  have D__law_same3 : ∀ base, DefAt l.prog w K mg base 3 "_law_same" ["a", "b"] (T__law_sameN 3) := fun base => r__law_same.at_ X G (fun _ _ _ _ _ _ us hl => match us, hl with | [_, _], _ => rfl) (fun f fd F => ok__law_same (k := 2) (m__law_sameN 2) F T  (D__law_same2 base))
  have D__law_same4 : ∀ base, DefAt l.prog w K mg base 4 "_law_same" ["a", "b"] (T__law_sameN 4) := fun base => r__law_same.at_ X G (fun _ _ _ _ _ _ us hl => match us, hl with | [_, _], _ => rfl) (fun f fd F => ok__law_same (k := 3) (m__law_sameN 3) F T  (D__law_same3 base))
  have D__law_same : ∀ base, DefAt l.prog w K mg base 5 "_law_same" ["a", "b"] (T__law_sameN 5) := fun base => r__law_same.at_ X G (fun _ _ _ _ _ _ us hl => match us, hl with | [_, _], _ => rfl) (fun f fd F => ok__law_same (k := 4) (m__law_sameN 4) F T  (D__law_same4 base))
  have D__law_bool : ∀ base, DefAt l.prog w K mg base 1 "_law_bool" ["answer", "due"] T__law_bool := fun base => r__law_bool.at_ X G (fun _ _ _ _ _ _ us hl => match us, hl with | [_, _], _ => rfl) (fun f fd F => ok__law_bool F T )
  have D__law_ratio : ∀ base, DefAt l.prog w K mg base 1 "_law_ratio" ["p", "q"] T__law_ratio := fun base => r__law_ratio.at_ X G (fun _ _ _ _ _ _ us hl => match us, hl with | [_, _], _ => rfl) (fun f fd F => ok__law_ratio F T )
  have D__law_plus : ∀ base, DefAt l.prog w K mg base 2 "_law_plus" ["s", "t"] T__law_plus := fun base => r__law_plus.at_ X G (fun _ _ _ _ _ _ us hl => match us, hl with | [_, _], _ => rfl) (fun f fd F => ok__law_plus F T (D__law_ratio base))
  have D__law_mult : ∀ base, DefAt l.prog w K mg base 2 "_law_mult" ["s", "t"] T__law_mult := fun base => r__law_mult.at_ X G (fun _ _ _ _ _ _ us hl => match us, hl with | [_, _], _ => rfl) (fun f fd F => ok__law_mult F T (D__law_ratio base))
  have D__law_over : ∀ base, DefAt l.prog w K mg base 2 "_law_over" ["s", "t"] T__law_over := fun base => r__law_over.at_ X G (fun _ _ _ _ _ _ us hl => match us, hl with | [_, _], _ => rfl) (fun f fd F => ok__law_over F T (D__law_ratio base))
  have D__law_shared : ∀ base, DefAt l.prog w K mg base 1 "_law_shared" ["a", "b"] T__law_shared := fun base => r__law_shared.at_ X G (fun _ _ _ _ _ _ us hl => match us, hl with | [_, _], _ => rfl) (fun f fd F => ok__law_shared F T )
  have D__law_great : ∀ base, DefAt l.prog w K mg base 3 "_law_great" ["deal"] T__law_great := fun base => r__law_great.at_ X G (fun _ _ _ _ _ _ us hl => match us, hl with | [_], _ => rfl) (fun f fd F => ok__law_great F T (D__law_take base) (D__law_pick base) (D__law_ratio base))
  have D__law_units : ∀ base, DefAt l.prog w K mg base 3 "_law_units" ["deal", "n"] T__law_units := fun base => r__law_units.at_ X G (fun _ _ _ _ _ _ us hl => match us, hl with | [_, _], _ => rfl) (fun f fd F => ok__law_units F T (D__law_pick base))
  have D__law_whole : ∀ base, DefAt l.prog w K mg base 3 "_law_whole" ["deal", "n"] T__law_whole := fun base => r__law_whole.at_ X G (fun _ _ _ _ _ _ us hl => match us, hl with | [_, _], _ => rfl) (fun f fd F => ok__law_whole F T (D__law_take base) (D__law_pick base))
  have D__law_worst : ∀ base, DefAt l.prog w K mg base 3 "_law_worst" ["units", "factors", "whole"] T__law_worst := fun base => r__law_worst.at_ X G (fun _ _ _ _ _ _ us hl => match us, hl with | [_, _, _], _ => rfl) (fun f fd F => ok__law_worst F T (D__law_plus base) (D__law_mult base))
  have D__law_bound : ∀ base, DefAt l.prog w K mg base 4 "_law_bound" ["deal", "units", "whole"] T__law_bound := fun base => r__law_bound.at_ X G (fun _ _ _ _ _ _ us hl => match us, hl with | [_, _, _], _ => rfl) (fun f fd F => ok__law_bound F T (D__law_take base) (D__law_pick base) (D__law_plus base) (D__law_great base) (D__law_worst base))
  have D__law_test : ∀ base, DefAt l.prog w K mg base 3 "_law_test" ["units", "bound"] T__law_test := fun base => r__law_test.at_ X G (fun _ _ _ _ _ _ us hl => match us, hl with | [_, _], _ => rfl) (fun f fd F => ok__law_test F T (D__law_ratio base) (D__law_mult base) (D__law_over base) (D__law_shared base))
  have D__law_holds : ∀ base, DefAt l.prog w K mg base 4 "_law_holds" ["units", "bound", "whole"] T__law_holds := fun base => r__law_holds.at_ X G (fun _ _ _ _ _ _ us hl => match us, hl with | [_, _, _], _ => rfl) (fun f fd F => ok__law_holds F T (D__law_plus base) (D__law_worst base))
  have D__law_sized : ∀ base, DefAt l.prog w K mg base 3 "_law_sized" ["bound", "t"] T__law_sized := fun base => r__law_sized.at_ X G (fun _ _ _ _ _ _ us hl => match us, hl with | [_, _], _ => rfl) (fun f fd F => ok__law_sized F T (D__law_mult base))
  have D__law_boxes_right : ∀ base, DefAt l.prog w K mg base 6 "_law_boxes_right" ["deal", "units"] T__law_boxes_right := fun base => r__law_boxes_right.at_ X G (fun _ _ _ _ _ _ us hl => match us, hl with | [_, _], _ => rfl) (fun f fd F => ok__law_boxes_right F T (D_down base) (D_up base) (D_made_whole base) (D__law_take base) (D__law_pick base) (D__law_same base) (D__law_plus base) (D__law_mult base))
  exact r_law.law X G hfa (fun _ _ _ _ _ _ _ => rfl) (fun base _ _ f fd F => ok_law F T (D_whole_test base) (D_whole_row base) (D_whole_table base) (D_holds_for base) (D_row_holds base) (D_command_in base) (D_are_units base) (D_worth_of base) (D__law_deal base) (D__law_take base) (D__law_pick base) (D__law_same base) (D__law_bool base) (D__law_mult base) (D__law_units base) (D__law_whole base) (D__law_bound base) (D__law_test base) (D__law_holds base) (D__law_sized base) (D__law_boxes_right base))
end K42
open PySem PySem.W PyProof.Rows in
set_option maxRecDepth 100000 in
set_option maxHeartbeats 0 in
theorem PySem.Challenge.cw_surepilot_k42_whole_tests_of_great_numbe_holds : PySem.Challenge.rw_surepilot_k42_whole_tests_of_great_numbe.Holds := by
  w_on; o_law; k_head; (case hw => w_witness2)
  k_fill
  refine FL.walkD (k := 7) (l := PySem.Challenge.rw_surepilot_k42_whole_tests_of_great_numbe) rfl rfl ⟨rfl, by decide, by decide⟩ (fun w h Y => PySem.W.kIn_of Y) ?F
  case F =>
    intro w mg fa h KX G hmg
    refine' K42.all_mk KX G hmg (FL.Row.mk' ?a0 ?l0 ?c0 ?k0) (FL.Row.mk' ?a1 ?l1 ?c1 ?k1) (FL.Row.mk' ?a2 ?l2 ?c2 ?k2) (FL.Row.mk' ?a3 ?l3 ?c3 ?k3) (FL.Row.mk' ?a4 ?l4 ?c4 ?k4) (FL.Row.mk' ?a5 ?l5 ?c5 ?k5) (FL.Row.mk' ?a6 ?l6 ?c6 ?k6) (FL.Row.mk' ?a7 ?l7 ?c7 ?k7) (FL.Row.mk' ?a8 ?l8 ?c8 ?k8) (FL.Row.mk' ?a9 ?l9 ?c9 ?k9) (FL.Row.mk' ?a10 ?l10 ?c10 ?k10) (FL.Row.mk' ?a11 ?l11 ?c11 ?k11) (FL.Row.mk' ?a12 ?l12 ?c12 ?k12) (FL.Row.mk' ?a13 ?l13 ?c13 ?k13) (FL.Row.mk' ?a14 ?l14 ?c14 ?k14) (FL.Row.mk' ?a15 ?l15 ?c15 ?k15) (FL.Row.mk' ?a16 ?l16 ?c16 ?k16) (FL.Row.mk' ?a17 ?l17 ?c17 ?k17) (FL.Row.mk' ?a18 ?l18 ?c18 ?k18) (FL.Row.mk' ?a19 ?l19 ?c19 ?k19) (FL.Row.mk' ?a20 ?l20 ?c20 ?k20) (FL.Row.mk' ?a21 ?l21 ?c21 ?k21) (FL.Row.mk' ?a22 ?l22 ?c22 ?k22) (FL.Row.mk' ?a23 ?l23 ?c23 ?k23) (FL.Row.mk' ?a24 ?l24 ?c24 ?k24) (FL.Row.mk' ?a25 ?l25 ?c25 ?k25) (FL.Row.mk' ?a26 ?l26 ?c26 ?k26) (FL.Row.mk' ?a27 ?l27 ?c27 ?k27) (FL.Row.mk' ?a28 ?l28 ?c28 ?k28) (FL.Row.mk' ?a29 ?l29 ?c29 ?k29) (FL.Row.mk' ?a30 ?l30 ?c30 ?k30) (FL.Row.mk' ?a31 ?l31 ?c31 ?k31) (FL.Row.mk' ?a32 ?l32 ?c32 ?k32) (FL.Row.mk' ?a33 ?l33 ?c33 ?k33) (FL.Row.mk' ?a34 ?l34 ?c34 ?k34) (FL.Row.mk' ?a35 ?l35 ?c35 ?k35) (FL.Row.mk' ?a36 ?l36 ?c36 ?k36) (FL.Row.mk' ?a37 ?l37 ?c37 ?k37) (FL.Row.mk' ?a38 ?l38 ?c38 ?k38) (FL.Row.mk' ?a39 ?l39 ?c39 ?k39) ?b0 ?b1 ?b2 ?b3 ?b4 ?b5 ?b6 ?b7 ?b8 ?b9 ?b10 ?b11 (FL.glob01 KX G ?gl0 ?hl0 ?il0 ?jl0)
    (case a0 => k_is); (case l0 => k_is); (case c0 => k_is); (case k0 => k_is)
    (case a1 => k_is); (case l1 => k_is); (case c1 => k_is); (case k1 => k_is)
    (case a2 => k_is); (case l2 => k_is); (case c2 => k_is); (case k2 => k_is)
    (case a3 => k_is); (case l3 => k_is); (case c3 => k_is); (case k3 => k_is)
    (case a4 => k_is); (case l4 => k_is); (case c4 => k_is); (case k4 => k_is)
    (case a5 => k_is); (case l5 => k_is); (case c5 => k_is); (case k5 => k_is)
    (case a6 => k_is); (case l6 => k_is); (case c6 => k_is); (case k6 => k_is)
    (case a7 => k_is); (case l7 => k_is); (case c7 => k_is); (case k7 => k_is)
    (case a8 => k_is); (case l8 => k_is); (case c8 => k_is); (case k8 => k_is)
    (case a9 => k_is); (case l9 => k_is); (case c9 => k_is); (case k9 => k_is)
    (case a10 => k_is); (case l10 => k_is); (case c10 => k_is); (case k10 => k_is)
    (case a11 => k_is); (case l11 => k_is); (case c11 => k_is); (case k11 => k_is)
    (case a12 => k_is); (case l12 => k_is); (case c12 => k_is); (case k12 => k_is)
    (case a13 => k_is); (case l13 => k_is); (case c13 => k_is); (case k13 => k_is)
    (case a14 => k_is); (case l14 => k_is); (case c14 => k_is); (case k14 => k_is)
    (case a15 => k_is); (case l15 => k_is); (case c15 => k_is); (case k15 => k_is)
    (case a16 => k_is); (case l16 => k_is); (case c16 => k_is); (case k16 => k_is)
    (case a17 => k_is); (case l17 => k_is); (case c17 => k_is); (case k17 => k_is)
    (case a18 => k_is); (case l18 => k_is); (case c18 => k_is); (case k18 => k_is)
    (case a19 => k_is); (case l19 => k_is); (case c19 => k_is); (case k19 => k_is)
    (case a20 => k_is); (case l20 => k_is); (case c20 => k_is); (case k20 => k_is)
    (case a21 => k_is); (case l21 => k_is); (case c21 => k_is); (case k21 => k_is)
    (case a22 => k_is); (case l22 => k_is); (case c22 => k_is); (case k22 => k_is)
    (case a23 => k_is); (case l23 => k_is); (case c23 => k_is); (case k23 => k_is)
    (case a24 => k_is); (case l24 => k_is); (case c24 => k_is); (case k24 => k_is)
    (case a25 => k_is); (case l25 => k_is); (case c25 => k_is); (case k25 => k_is)
    (case a26 => k_is); (case l26 => k_is); (case c26 => k_is); (case k26 => k_is)
    (case a27 => k_is); (case l27 => k_is); (case c27 => k_is); (case k27 => k_is)
    (case a28 => k_is); (case l28 => k_is); (case c28 => k_is); (case k28 => k_is)
    (case a29 => k_is); (case l29 => k_is); (case c29 => k_is); (case k29 => k_is)
    (case a30 => k_is); (case l30 => k_is); (case c30 => k_is); (case k30 => k_is)
    (case a31 => k_is); (case l31 => k_is); (case c31 => k_is); (case k31 => k_is)
    (case a32 => k_is); (case l32 => k_is); (case c32 => k_is); (case k32 => k_is)
    (case a33 => k_is); (case l33 => k_is); (case c33 => k_is); (case k33 => k_is)
    (case a34 => k_is); (case l34 => k_is); (case c34 => k_is); (case k34 => k_is)
    (case a35 => k_is); (case l35 => k_is); (case c35 => k_is); (case k35 => k_is)
    (case a36 => k_is); (case l36 => k_is); (case c36 => k_is); (case k36 => k_is)
    (case a37 => k_is); (case l37 => k_is); (case c37 => k_is); (case k37 => k_is)
    (case a38 => k_is); (case l38 => k_is); (case c38 => k_is); (case k38 => k_is)
    (case a39 => k_is); (case l39 => k_is); (case c39 => k_is); (case k39 => k_is)
    (case b0 => k_is)
    (case b1 => k_is)
    (case b2 => k_is)
    (case b3 => k_is)
    (case b4 => k_is)
    (case b5 => k_is)
    (case b6 => k_is)
    (case b7 => k_is)
    (case b8 => k_is)
    (case b9 => k_is)
    (case b10 => k_is)
    (case b11 => k_is)
    (case gl0 => k_is); (case hl0 => k_is); (case il0 => decide); (case jl0 => exact .cons ⟨_, rfl⟩ (.cons ⟨_, rfl⟩ .nil))
#print axioms PySem.Challenge.cw_surepilot_k42_whole_tests_of_great_numbe_holds

