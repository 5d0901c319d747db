import PyProof.Rows.All
import Wide.All
import OpenK.AllK
import Wide.FinOn
import HandS.ForMost
import HandS.Zip
import HandS.IsInst
import HandS.Wide
import HandS.TupAny
import HandS.TupMul
import HandS.Flow
import HandS.Conv
import KE.GoesMore
import HandS.Style
import HandS.Iter
import KE.GoesEnum
import PySem.Challenge.RW_surepilot_k44_whole_all_that_was_read
set_option Elab.async false
set_option linter.all false
set_option maxRecDepth 100000
set_option maxHeartbeats 1000000
namespace FL
open PySem L2

/-! data in place of heaps: a slot holds a datum, or a cell of the store (a list that is still written) -/
inductive S where
  | d (x : PyData)
  | ref (n : Nat)
abbrev Sto := List (Option (List S))
abbrev Ev := List (Option S)
abbrev si (i : Int) : S := .d (.int i)
abbrev sb (b : Bool) : S := .d (.bool b)

theorem nodup_get : ∀ {l : List Addr} {i j : Nat} {a : Addr}, l.Nodup → l[i]? = some a → l[j]? = some a → i = j
  | [], i, j, a, _, h, _ => by simp at h
  | b :: l, 0, 0, a, _, _, _ => rfl
  | b :: l, 0, j + 1, a, n, h1, h2 => by
    simp at h1 h2
    subst h1
    exact absurd (List.mem_of_getElem? h2) (List.nodup_cons.mp n).1
  | b :: l, i + 1, 0, a, n, h1, h2 => by
    simp at h1 h2
    subst h2
    exact absurd (List.mem_of_getElem? h1) (List.nodup_cons.mp n).1
  | b :: l, i + 1, j + 1, a, n, h1, h2 => by
    simp at h1 h2
    rw [nodup_get (List.nodup_cons.mp n).2 h1 h2]
section
variable {K : PySem.W.Frag} {G G1 G2 H H1 H2 : Hp} {π π1 π2 : List Addr} {cs cs1 cs2 : Sto} {v w : V} {x y : S} {vs ws : List V} {xs ys : List S} {σ : L2.St} {ρ : Ev}

theorem seqT_mono {a : Addr} (e : Same G G1) (h : SqT K G a vs) : SqT K G1 a vs := by
  rcases h with (h | ⟨o, h⟩) | h
  · exact .inl (.inl (e _ _ h))
  · exact .inl (.inr ⟨o, e _ _ h⟩)
  · exact .inr h
mutual
theorem dp_mono (e : Same G G1) : ∀ {v : V} {d : PyData}, Dp K G v d → Dp K G1 v d
  | _, _, .non => .non
  | _, _, .bl b => .bl b
  | _, _, .int i => .int i
  | _, _, .str x => .str x
  | _, _, .lst h r => .lst (e.seq h) (dpAll_mono e r)
  | _, _, .tup h r => .tup (seqT_mono e h) (dpAll_mono e r)
theorem dpAll_mono (e : Same G G1) : ∀ {vs : List V} {ds : List PyData}, DpAll K G vs ds → DpAll K G1 vs ds
  | _, _, .nil => .nil
  | _, _, .cons h r => .cons (dp_mono e h) (dpAll_mono e r)
end

inductive RepS (K : PySem.W.Frag) (G : Hp) (π : List Addr) : V → S → Prop
  | d {v : V} {x : PyData} (h : Dp K G v x) : RepS K G π v (.d x)
  | ref {n : Nat} {a : Addr} (h : π[n]? = some a) : RepS K G π (.ref a) (.ref n)
abbrev RepL (K : PySem.W.Frag) (G : Hp) (π : List Addr) : List V → List S → Prop := Paired (RepS K G π)

theorem RepS.mono (e : Same G G1) (p : ∃ πn, π1 = π ++ πn) (h : RepS K G π v x) : RepS K G1 π1 v x := by
  obtain ⟨πn, rfl⟩ := p
  cases h with
  | d h => exact .d (dp_mono e h)
  | ref h => exact .ref (by rw [List.getElem?_append_left (List.getElem?_eq_some_iff.mp h).1]; exact h)
theorem RepL.mono (e : Same G G1) (p : ∃ πn, π1 = π ++ πn) (h : RepL K G π vs xs) : RepL K G1 π1 vs xs := Paired.mapP h fun _ _ q => q.mono e p
theorem repL_d : ∀ {vs : List V} {ds : List PyData}, DpAll K G vs ds → RepL K G π vs (ds.map S.d)
  | _, _, .nil => .nil
  | _, _, .cons h r => .cons (.d h) (repL_d r)
theorem dpAll_of : ∀ {ds : List PyData} {vs : List V}, RepL K G π vs (ds.map S.d) → DpAll K G vs ds
  | [], _, h => by cases h; exact .nil
  | d :: ds, _, h => by
    cases h with
    | cons h r =>
      cases h with
      | d h => exact .cons h (dpAll_of r)
theorem RepL.len (h : RepL K G π vs xs) : vs.length = xs.length := Paired.length h
theorem RepL.get : ∀ {vs : List V} {xs : List S} {i : Nat} {x : S}, RepL K G π vs xs → xs[i]? = some x → ∃ v, vs[i]? = some v ∧ RepS K G π v x
  | _, _, i, x, .nil, e => by simp at e
  | _, _, 0, x, .cons h r, e => by simp at e; subst e; exact ⟨_, rfl, h⟩
  | _, _, i + 1, x, .cons h r, e => by
    obtain ⟨u, h1, h2⟩ := RepL.get (i := i) (x := x) r (by simpa using e)
    exact ⟨u, by simpa using h1, h2⟩
theorem DpAll.len : ∀ {vs : List V} {ds : List PyData}, DpAll K G vs ds → vs.length = ds.length
  | _, _, .nil => rfl
  | _, _, .cons _ r => by simp [DpAll.len r]
theorem DpAll.get : ∀ {vs : List V} {ds : List PyData} {i : Nat} {d : PyData}, DpAll K G vs ds → ds[i]? = some d → ∃ v, vs[i]? = some v ∧ Dp K G v d
  | _, _, i, x, .nil, e => by simp at e
  | _, _, 0, x, .cons h r, e => by simp at e; subst e; exact ⟨_, rfl, h⟩
  | _, _, i + 1, x, .cons h r, e => by
    obtain ⟨u, h1, h2⟩ := DpAll.get (i := i) (d := x) r (by simpa using e)
    exact ⟨u, by simpa using h1, h2⟩
theorem RepL.app : ∀ {vs ws : List V} {xs ys : List S}, RepL K G π vs xs → RepL K G π ws ys → RepL K G π (vs ++ ws) (xs ++ ys)
  | _, _, _, _, .nil, s => s
  | _, _, _, _, .cons r t, s => .cons r (RepL.app t s)
theorem RepL.set : ∀ {vs : List V} {xs : List S} (i : Nat), RepL K G π vs xs → RepS K G π v x → RepL K G π (vs.set i v) (xs.set i x)
  | _, _, _, .nil, _ => .nil
  | _, _, 0, .cons _ t, r => .cons r t
  | _, _, i + 1, .cons q t, r => .cons q (RepL.set i t r)
theorem DpAll.take : ∀ {vs : List V} {ds : List PyData} (n : Nat), DpAll K G vs ds → DpAll K G (vs.take n) (ds.take n)
  | _, _, 0, _ => .nil
  | _, _, _ + 1, .nil => .nil
  | _, _, n + 1, .cons r t => .cons r (DpAll.take n t)
theorem DpAll.drop : ∀ {vs : List V} {ds : List PyData} (n : Nat), DpAll K G vs ds → DpAll K G (vs.drop n) (ds.drop n)
  | _, _, 0, r => r
  | _, _, _ + 1, .nil => .nil
  | _, _, n + 1, .cons _ t => DpAll.drop n t
theorem DpAll.app : ∀ {vs ws : List V} {ds es : List PyData}, DpAll K G vs ds → DpAll K G ws es → DpAll K G (vs ++ ws) (ds ++ es)
  | _, _, _, _, .nil, s => s
  | _, _, _, _, .cons r t, s => .cons r (DpAll.app t s)

/-- G: what is known for ever; the cells of the store at the addresses π -/
structure At (K : PySem.W.Frag) (G : Hp) (π : List Addr) (cs : Sto) (H : Hp) : Prop where
  kn : Same G H
  len : π.length = cs.length
  nd : π.Nodup
  tr : ∀ a ∈ π, ∃ o, H a = some o
  st : ∀ (n : Nat) (a : Addr) (xs : List S), π[n]? = some a → cs[n]? = some (some xs) → G a = none ∧ ∃ vs, H a = some (.lst vs) ∧ RepL K G π vs xs
structure Ext (G : Hp) (π : List Addr) (H G' : Hp) (π' : List Addr) (H' : Hp) : Prop where
  g : Same G G'
  p : ∃ πn, π' = π ++ πn ∧ ∀ a ∈ πn, H a = none
  f : ∀ a o, a ∉ π → H a = some o → H' a = some o
  dm : ∀ a, H' a = none → H a = none
  gn : ∀ a o, G' a = some o → G a = some o ∨ H a = none ∨ a ∈ π
theorem Ext.refl : Ext G π H G π H := ⟨Same.refl _, ⟨[], by simp, by simp⟩, fun _ _ _ e => e, fun _ e => e, fun _ _ e => .inl e⟩
theorem Ext.trans (a : Ext G π H G1 π1 H1) (b : Ext G1 π1 H1 G2 π2 H2) : Ext G π H G2 π2 H2 := by
  obtain ⟨p1, e1, f1⟩ := a.p
  obtain ⟨p2, e2, f2⟩ := b.p
  refine ⟨a.g.trans b.g, ⟨p1 ++ p2, by rw [e2, e1, List.append_assoc], fun c hc => ?_⟩, fun c o hc e => ?_, fun c e => a.dm c (b.dm c e), fun c o e => ?_⟩
  rotate_left 2
  · rcases b.gn c o e with h | h | h
    · exact a.gn c o h
    · exact .inr (.inl (a.dm c h))
    · rw [e1] at h
      rcases List.mem_append.mp h with h | h
      · exact .inr (.inr h)
      · exact .inr (.inl (f1 c h))
  · rcases List.mem_append.mp hc with hc | hc
    · exact f1 c hc
    · exact a.dm c (f2 c hc)
  · refine b.f c o (fun hm => ?_) (a.f c o hc e)
    rw [e1] at hm
    rcases List.mem_append.mp hm with hm | hm
    · exact hc hm
    · rw [f1 c hm] at e; cases e
theorem Ext.pp (a : Ext G π H G1 π1 H1) : ∃ πn, π1 = π ++ πn := let ⟨q, e, _⟩ := a.p; ⟨q, e⟩
theorem RepS.ext (a : Ext G π H G1 π1 H1) (h : RepS K G π v x) : RepS K G1 π1 v x := h.mono a.g a.pp
theorem RepL.ext (a : Ext G π H G1 π1 H1) (h : RepL K G π vs xs) : RepL K G1 π1 vs xs := RepL.mono a.g a.pp h
theorem At.free (A : At K G π cs H) {p : Addr} (hp : H p = none) : G p = none := A.kn.free hp
theorem At.nin (A : At K G π cs H) {p : Addr} (hp : H p = none) : p ∉ π := fun hm => by
  obtain ⟨o, e⟩ := A.tr p hm
  rw [e] at hp; cases hp
theorem At.ne (A : At K G π cs H) {p a : Addr} {n : Nat} (hp : H p = none) (ha : π[n]? = some a) : a ≠ p := fun e => A.nin hp (e ▸ List.mem_of_getElem? ha)
theorem same_new {p : Addr} {o : HO} (h : G p = none) : Same G (upd G p o) := fun b u e => by rw [upd_ne (ne_of_none e h)]; exact e
/-- a new object that stays -/
theorem At.new (A : At K G π cs H) {p : Addr} (hp : H p = none) (o : HO) : At K (upd G p o) π cs (upd H p o) ∧ Ext G π H (upd G p o) π (upd H p o) := by
  have hg := A.free hp
  refine ⟨⟨fun b u e => ?_, A.len, A.nd, fun a ha => ?_, fun n a xs h1 h2 => ?_⟩, ⟨same_new hg, ⟨[], by simp, by simp⟩, fun a u _ e => by rw [upd_ne (ne_of_none e hp)]; exact e, fun a e => ?_, fun a u e => ?_⟩⟩
  rotate_right 1
  · by_cases hb : a = p
    · subst hb; exact .inr (.inl hp)
    · rw [upd_ne hb] at e; exact .inl e
  · by_cases hb : b = p
    · subst hb; rw [upd_same] at e ⊢; exact e
    · rw [upd_ne hb] at e ⊢; exact A.kn b u e
  · obtain ⟨u, e⟩ := A.tr a ha
    exact ⟨u, by rw [upd_ne (ne_of_none e hp)]; exact e⟩
  · obtain ⟨g, vs, e, r⟩ := A.st n a xs h1 h2
    have hne := A.ne hp h1
    exact ⟨by rw [upd_ne hne]; exact g, vs, by rw [upd_ne hne]; exact e, RepL.mono (same_new hg) ⟨[], by simp⟩ r⟩
  · by_cases hb : a = p
    · subst hb; exact hp
    · rw [upd_ne hb] at e; exact e
/-- a new object that nobody knows -/
theorem At.junk (A : At K G π cs H) {p : Addr} (hp : H p = none) (o : HO) : At K G π cs (upd H p o) ∧ Ext G π H G π (upd H p o) := by
  refine ⟨⟨fun b u e => by rw [upd_ne (ne_of_none (A.kn b u e) hp)]; exact A.kn b u e, A.len, A.nd, fun a ha => ?_, fun n a xs h1 h2 => ?_⟩, ⟨Same.refl _, ⟨[], by simp, by simp⟩, fun a u _ e => by rw [upd_ne (ne_of_none e hp)]; exact e, fun a e => ?_, fun _ _ e => .inl e⟩⟩
  · obtain ⟨u, e⟩ := A.tr a ha
    exact ⟨u, by rw [upd_ne (ne_of_none e hp)]; exact e⟩
  · obtain ⟨g, vs, e, r⟩ := A.st n a xs h1 h2
    exact ⟨g, vs, by rw [upd_ne (A.ne hp h1)]; exact e, r⟩
  · by_cases hb : a = p
    · subst hb; exact hp
    · rw [upd_ne hb] at e; exact e
/-- a list that stands becomes a cell -/
theorem At.cell (A : At K G π cs H) {p : Addr} (hp : G p = none) (hn : p ∉ π) (e : H p = some (.lst vs)) (r : RepL K G π vs xs) : At K G (π ++ [p]) (cs ++ [some xs]) H := by
  refine ⟨A.kn, by simp [A.len], List.nodup_append.mpr ⟨A.nd, by simp, fun a ha b hb => by
    have : b = p := by simpa using hb
    subst this; exact fun q => hn (q ▸ ha)⟩, fun a ha => ?_, fun n a ys h1 h2 => ?_⟩
  · rcases List.mem_append.mp ha with ha | ha
    · exact A.tr a ha
    · have : a = p := by simpa using ha
      subst this; exact ⟨_, e⟩
  · by_cases hlt : n < π.length
    · rw [List.getElem?_append_left hlt] at h1
      rw [List.getElem?_append_left (by rw [← A.len]; exact hlt)] at h2
      obtain ⟨g, ws, e, r⟩ := A.st n a ys h1 h2
      exact ⟨g, ws, e, RepL.mono (Same.refl _) ⟨[p], rfl⟩ r⟩
    · have hn : n = π.length := by
        have := (List.getElem?_eq_some_iff.mp h1).1
        simp at this; omega
      subst hn
      rw [List.getElem?_append_right (Nat.le_refl _), Nat.sub_self] at h1
      rw [A.len, List.getElem?_append_right (Nat.le_refl _), Nat.sub_self] at h2
      simp at h1 h2
      subst h1 h2
      exact ⟨hp, vs, e, RepL.mono (Same.refl _) ⟨[p], rfl⟩ r⟩
/-- a new list that will be written -/
theorem At.newM (A : At K G π cs H) {p : Addr} (hp : H p = none) (r : RepL K G π vs xs) : At K G (π ++ [p]) (cs ++ [some xs]) (upd H p (.lst vs)) ∧ Ext G π H G (π ++ [p]) (upd H p (.lst vs)) := by
  obtain ⟨A1, E1⟩ := A.junk hp (.lst vs)
  refine ⟨A1.cell (A.free hp) (A.nin hp) upd_same r, ⟨Same.refl _, ⟨[p], rfl, fun a ha => ?_⟩, E1.f, E1.dm, fun _ _ e => .inl e⟩⟩
  have : a = p := by simpa using ha
  subst this; exact hp
/-- a cell is written -/
theorem At.put (A : At K G π cs H) {n : Nat} {a : Addr} (ha : π[n]? = some a) (hc : cs[n]? = some (some xs)) (r : RepL K G π ws ys) : At K G π (cs.set n (some ys)) (upd H a (.lst ws)) ∧ Ext G π H G π (upd H a (.lst ws)) := by
  obtain ⟨g, vs, e, _⟩ := A.st n a xs ha hc
  have hlt := (List.getElem?_eq_some_iff.mp ha).1
  refine ⟨⟨fun b u q => ?_, by simp [A.len], A.nd, fun b hb => ?_, fun m b zs h1 h2 => ?_⟩, ⟨Same.refl _, ⟨[], by simp, by simp⟩, fun b u hb q => ?_, fun b q => ?_, fun _ _ e => .inl e⟩⟩
  · rw [upd_ne (ne_of_none q g)]; exact A.kn b u q
  · by_cases hx : b = a
    · subst hx; exact ⟨_, upd_same⟩
    · rw [upd_ne hx]; exact A.tr b hb
  · by_cases hm : m = n
    · subst hm
      rw [ha] at h1; cases h1
      rw [List.getElem?_set_self (by rw [← A.len]; exact hlt)] at h2
      cases h2
      exact ⟨g, ws, upd_same, r⟩
    · rw [List.getElem?_set_ne (Ne.symm hm)] at h2
      have hx : b ≠ a := fun q => by
        subst q
        exact hm (nodup_get A.nd h1 ha)
      rw [upd_ne hx]
      exact A.st m b zs h1 h2
  · have hx : b ≠ a := fun q => hb (q ▸ List.mem_of_getElem? ha)
    rw [upd_ne hx]; exact q
  · by_cases hx : b = a
    · subst hx; rw [upd_same] at q; cases q
    · rw [upd_ne hx] at q; exact q
/-- a cell is written no more: it is a datum -/
theorem At.frz (A : At K G π cs H) {n : Nat} {a : Addr} {ds : List PyData} (ha : π[n]? = some a) (hc : cs[n]? = some (some (ds.map S.d))) :
    ∃ G', At K G' π (cs.set n none) H ∧ Ext G π H G' π H ∧ Dp K G' (.ref a) (.list ds) := by
  obtain ⟨g, vs, e, r⟩ := A.st n a _ ha hc
  have hlt := (List.getElem?_eq_some_iff.mp ha).1
  have sm : Same G (upd G a (.lst vs)) := same_new g
  refine ⟨upd G a (.lst vs), ⟨fun b u q => ?_, by simp [A.len], A.nd, A.tr, fun m b zs h1 h2 => ?_⟩, ⟨sm, ⟨[], by simp, by simp⟩, fun _ _ _ q => q, fun _ q => q, fun b u q => (by
    by_cases hb : b = a
    · subst hb; exact .inr (.inr (List.mem_of_getElem? ha))
    · rw [upd_ne hb] at q; exact .inl q)⟩, .lst (.of upd_same) (dpAll_mono sm (dpAll_of r))⟩
  · by_cases hb : b = a
    · subst hb; rw [upd_same] at q; cases q; exact e
    · rw [upd_ne hb] at q; exact A.kn b u q
  · have hm : m ≠ n := fun q => by
      subst q
      rw [List.getElem?_set_self (by rw [← A.len]; exact hlt)] at h2
      cases h2
    rw [List.getElem?_set_ne (Ne.symm hm)] at h2
    have hx : b ≠ a := fun q => by
      subst q
      exact hm (nodup_get A.nd h1 ha)
    obtain ⟨g2, ws, e2, r2⟩ := A.st m b zs h1 h2
    exact ⟨by rw [upd_ne hx]; exact g2, ws, e2, RepL.mono sm ⟨[], by simp⟩ r2⟩

/-! what a def hands back: cells made within may be forgotten -/
def Okx (n : Nat) : S → Prop
  | .d _ => True
  | .ref m => m < n
def Okc (n : Nat) (cs : Sto) : Prop := ∀ (k : Nat) (xs : List S), cs[k]? = some (some xs) → ∀ x ∈ xs, Okx n x
theorem repS_okx (h : RepS K G π v x) : Okx π.length x := by
  cases h with
  | d _ => trivial
  | ref h => exact (List.getElem?_eq_some_iff.mp h).1
theorem repL_okx : ∀ {vs : List V} {xs : List S}, RepL K G π vs xs → ∀ x ∈ xs, Okx π.length x
  | _, _, .nil, x, h => by cases h
  | _, _, .cons r t, x, h => by
    rcases List.mem_cons.mp h with rfl | h
    · exact repS_okx r
    · exact repL_okx t x h
theorem At.okc (A : At K G π cs H) : Okc cs.length cs := fun k xs e x hx => by
  have hk := (List.getElem?_eq_some_iff.mp e).1
  have hk' : k < π.length := by rw [A.len]; exact hk
  obtain ⟨_, vs, _, r⟩ := A.st k π[k] xs (by simp [hk']) e
  rw [← A.len]
  exact repL_okx r x hx
theorem repS_back {πn : List Addr} (h : RepS K G (π ++ πn) v x) (ok : Okx π.length x) : RepS K G π v x := by
  cases h with
  | d h => exact .d h
  | ref h =>
    rw [List.getElem?_append_left ok] at h
    exact .ref h
theorem repL_back {πn : List Addr} : ∀ {vs : List V} {xs : List S}, RepL K G (π ++ πn) vs xs → (∀ x ∈ xs, Okx π.length x) → RepL K G π vs xs
  | _, _, .nil, _ => .nil
  | _, _, .cons r t, h => .cons (repS_back r (h _ List.mem_cons_self)) (repL_back t fun x hx => h x (List.mem_cons_of_mem _ hx))
theorem At.drop {πn : List Addr} {gs : Sto} (A : At K G (π ++ πn) (cs ++ gs) H) (hl : π.length = cs.length) (ok : Okc cs.length cs) : At K G π cs H := by
  refine ⟨A.kn, hl, (List.nodup_append.mp A.nd).1, fun a ha => A.tr a (List.mem_append_left _ ha), fun n a xs h1 h2 => ?_⟩
  obtain ⟨g, vs, e, r⟩ := A.st n a xs (by rw [List.getElem?_append_left (List.getElem?_eq_some_iff.mp h1).1]; exact h1) (by rw [List.getElem?_append_left (List.getElem?_eq_some_iff.mp h2).1]; exact h2)
  exact ⟨g, vs, e, repL_back r fun x hx => by rw [hl]; exact ok n xs h2 x hx⟩
theorem okc_set {n m : Nat} {ys : List S} (h : Okc n cs) (hy : ∀ x ∈ ys, Okx n x) : Okc n (cs.set m (some ys)) := fun k xs e x hx => by
  by_cases hk : k = m
  · subst hk
    by_cases hl : k < cs.length
    · rw [List.getElem?_set_self hl] at e; cases e; exact hy x hx
    · rw [List.getElem?_eq_none (by simpa using hl)] at e; cases e
  · rw [List.getElem?_set_ne (Ne.symm hk)] at e
    exact h k xs e x hx

/-! slots -/
structure Sl (K : PySem.W.Frag) (G : Hp) (π : List Addr) (σ : L2.St) (ρ : Ev) : Prop where
  len : σ.length = ρ.length
  at_ : ∀ (i : Nat) (x : S), ρ[i]? = some (some x) → ∃ v, σ[i]? = some (some v) ∧ RepS K G π v x
theorem Sl.ext (a : Ext G π H G1 π1 H1) (s : Sl K G π σ ρ) : Sl K G1 π1 σ ρ := ⟨s.len, fun i x e => let ⟨v, h, r⟩ := s.at_ i x e; ⟨v, h, r.ext a⟩⟩
theorem Sl.set (s : Sl K G π σ ρ) (i : Nat) (r : RepS K G π v x) : Sl K G π (σ.set i (some v)) (ρ.set i (some x)) := by
  refine ⟨by simp [s.len], fun j y e => ?_⟩
  by_cases hj : j = i
  · subst hj
    by_cases hl : j < ρ.length
    · rw [List.getElem?_set_self hl] at e
      cases e
      exact ⟨v, by rw [List.getElem?_set_self (by rw [s.len]; exact hl)], r⟩
    · rw [List.getElem?_eq_none (by simpa using hl)] at e; cases e
  · rw [List.getElem?_set_ne (Ne.symm hj)] at e ⊢
    exact s.at_ j y e
def wip (ρ : Ev) : List Nat → Ev
  | [] => ρ
  | i :: is => (wip ρ is).set i none
theorem Sl.unset (s : Sl K G π σ ρ) (i : Nat) : Sl K G π (σ.set i none) (ρ.set i none) := by
  refine ⟨by simp [s.len], fun j y e => ?_⟩
  by_cases hj : j = i
  · subst hj
    by_cases hl : j < ρ.length
    · rw [List.getElem?_set_self hl] at e; cases e
    · rw [List.getElem?_eq_none (by simpa using hl)] at e; cases e
  · rw [List.getElem?_set_ne (Ne.symm hj)] at e ⊢
    exact s.at_ j y e
theorem Sl.wip (s : Sl K G π σ ρ) : ∀ is : List Nat, Sl K G π (wipe σ is) (wip ρ is)
  | [] => s
  | i :: is => (Sl.wip s is).unset i
end
end FL

set_option Elab.async false
set_option linter.all false
set_option maxRecDepth 100000
set_option maxHeartbeats 1000000
namespace FL
open PySem L2

/-! readings over data -/
abbrev RK := S → Sto → Prop
abbrev TD := Ev → Sto → RK → Prop
abbrev TTD := Ev → Sto → (Bool → Sto → Prop) → Prop
abbrev TAD := Ev → Sto → (List S → Sto → Prop) → Prop
structure EndsD where
  nx : Ev → Sto → Prop
  rt : RK
  bk : Ev → Sto → Prop
  ct : Ev → Sto → Prop
abbrev TSD := EndsD → Ev → Sto → Prop
abbrev TGD := S → Ev → Sto → (Ev → Sto → Prop) → Prop
abbrev RD1 := S → Sto → RK → Prop
abbrev RD2 := S → S → Sto → RK → Prop
abbrev RDL := List S → Sto → RK → Prop

section
variable (K : PySem.W.Frag)
def upE (t : TD) : TE := fun σ H Q => ∃ G π ρ cs R, At K G π cs H ∧ Sl K G π σ ρ ∧ t ρ cs R ∧ ∀ v H' x cs' G' π', Ext G π H G' π' H' → At K G' π' cs' H' → RepS K G' π' v x → R x cs' → Q v H'
def upT (t : TTD) : TT := fun σ H Q => ∃ G π ρ cs R, At K G π cs H ∧ Sl K G π σ ρ ∧ t ρ cs R ∧ ∀ b H' cs' G' π', Ext G π H G' π' H' → At K G' π' cs' H' → R b cs' → Q b H'
def upA (t : TAD) : TA := fun σ H Q => ∃ G π ρ cs R, At K G π cs H ∧ Sl K G π σ ρ ∧ t ρ cs R ∧ ∀ vs H' xs cs' G' π', Ext G π H G' π' H' → At K G' π' cs' H' → RepL K G' π' vs xs → R xs cs' → Q vs H'
structure Cn (G : Hp) (π : List Addr) (H : Hp) (d : EndsD) (D : Ends) : Prop where
  nx : ∀ σ' H' ρ' cs' G' π', Ext G π H G' π' H' → At K G' π' cs' H' → Sl K G' π' σ' ρ' → d.nx ρ' cs' → D.nx σ' H'
  bk : ∀ σ' H' ρ' cs' G' π', Ext G π H G' π' H' → At K G' π' cs' H' → Sl K G' π' σ' ρ' → d.bk ρ' cs' → D.bk σ' H'
  ct : ∀ σ' H' ρ' cs' G' π', Ext G π H G' π' H' → At K G' π' cs' H' → Sl K G' π' σ' ρ' → d.ct ρ' cs' → D.ct σ' H'
  rt : ∀ v H' x cs' G' π', Ext G π H G' π' H' → At K G' π' cs' H' → RepS K G' π' v x → d.rt x cs' → D.rt v H'
def upS (t : TSD) : TS := fun D σ H => ∃ G π ρ cs d, At K G π cs H ∧ Sl K G π σ ρ ∧ t d ρ cs ∧ Cn K G π H d D
/-- only the slots is are stored -/
def Chg (is : List Nat) (σ σ' : L2.St) : Prop := σ'.length = σ.length ∧ ∀ i, i ∉ is → σ'[i]? = σ[i]?
def upG (is : List Nat) (t : TGD) : TG := fun v σ H Q => ∃ G π ρ cs x R, At K G π cs H ∧ Sl K G π σ ρ ∧ RepS K G π v x ∧ t x ρ cs R ∧ ∀ σ' H' ρ' cs' G' π', Ext G π H G' π' H' → At K G' π' cs' H' → Sl K G' π' σ' ρ' → Chg is σ σ' → R ρ' cs' → Q σ' H'
def upGs (is : List Nat) (t : List S → Ev → Sto → (Ev → Sto → Prop) → Prop) : TGs := fun vs σ H Q => ∃ G π ρ cs xs R, At K G π cs H ∧ Sl K G π σ ρ ∧ RepL K G π vs xs ∧ t xs ρ cs R ∧ ∀ σ' H' ρ' cs' G' π', Ext G π H G' π' H' → At K G' π' cs' H' → Sl K G' π' σ' ρ' → Chg is σ σ' → R ρ' cs' → Q σ' H'
/-- a heap rule keeps a data rule -/
def Sim1 (r : V → Hp → VK → Prop) (rd : RD1) : Prop := ∀ G π cs H v x R Q, At K G π cs H → RepS K G π v x → rd x cs R → (∀ v' H' z cs' G' π', Ext G π H G' π' H' → At K G' π' cs' H' → RepS K G' π' v' z → R z cs' → Q v' H') → r v H Q
def Sim2 (r : R2) (rd : RD2) : Prop := ∀ G π cs H v w x y R Q, At K G π cs H → RepS K G π v x → RepS K G π w y → rd x y cs R → (∀ v' H' z cs' G' π', Ext G π H G' π' H' → At K G' π' cs' H' → RepS K G' π' v' z → R z cs' → Q v' H') → r v w H Q
def SimL (r : List V → Hp → VK → Prop) (rd : RDL) : Prop := ∀ G π cs H vs xs R Q, At K G π cs H → RepL K G π vs xs → rd xs cs R → (∀ v' H' z cs' G' π', Ext G π H G' π' H' → At K G' π' cs' H' → RepS K G' π' v' z → R z cs' → Q v' H') → r vs H Q
end

section
variable {K : PySem.W.Frag} {G G1 H H1 : Hp} {π π1 : List Addr} {cs : Sto} {d : EndsD} {D : Ends}
theorem Cn.step (c : Cn K G π H d D) (e : Ext G π H G1 π1 H1) : Cn K G1 π1 H1 d D :=
  ⟨fun _ _ _ _ _ _ e' => c.nx _ _ _ _ _ _ (e.trans e'), fun _ _ _ _ _ _ e' => c.bk _ _ _ _ _ _ (e.trans e'), fun _ _ _ _ _ _ e' => c.ct _ _ _ _ _ _ (e.trans e'), fun _ _ _ _ _ _ e' => c.rt _ _ _ _ _ _ (e.trans e')⟩
end

/-! ### names and constants -/
def getS : Ev → Nat → Option S
  | [], _ => none
  | x :: _, 0 => x
  | _ :: xs, n + 1 => getS xs n
theorem getS_eq : ∀ {ρ : Ev} {i : Nat} {x : S}, getS ρ i = some x → ρ[i]? = some (some x)
  | [], _, _, h => by cases h
  | x :: _, 0, _, h => by
    have : x = some _ := h
    subst this; rfl
  | _ :: xs, n + 1, x, h => by
    have := getS_eq (ρ := xs) (i := n) h
    simpa using this
def getC : Sto → Nat → Option (List S)
  | [], _ => none
  | x :: _, 0 => x
  | _ :: xs, n + 1 => getC xs n
theorem getC_eq : ∀ {cs : Sto} {i : Nat} {x : List S}, getC cs i = some x → cs[i]? = some (some x)
  | [], _, _, h => by cases h
  | x :: _, 0, _, h => by
    have : x = some _ := h
    subst this; rfl
  | _ :: xs, n + 1, x, h => by
    have := getC_eq (cs := xs) (i := n) h
    simpa using this
theorem getC_of : ∀ {cs : Sto} {i : Nat} {x : List S}, cs[i]? = some (some x) → getC cs i = some x
  | [], _, _, h => by simp at h
  | x :: _, 0, y, h => by
    have e : x = some y := by simpa using h
    subst e; rfl
  | _ :: xs, n + 1, x, h => getC_of (cs := xs) (i := n) (by simpa using h)
def dVar (i : Nat) : TD := fun ρ cs R => ∃ x, getS ρ i = some x ∧ R x cs
def dC (x : PyData) : TD := fun _ cs R => R (.d x) cs
/-- a name whose list is written no more from here on -/
def dVarF (i : Nat) : TD := fun ρ cs R => ∃ n ds, getS ρ i = some (.ref n) ∧ getC cs n = some (ds.map S.d) ∧ R (.d (.list ds)) (cs.set n none)

section
variable {X : Cx}
theorem _root_.L2.PE.weak {e : Expr} {t t' : TE} (h : PE X e t) (hw : ∀ σ H Q, t' σ H Q → t σ H Q) : PE X e t' := ⟨fun pins s σ H Q I q => h.run pins s σ H Q I (hw _ _ _ q)⟩
theorem _root_.L2.PT.weak {e : Expr} {t t' : TT} (h : PT X e t) (hw : ∀ σ H Q, t' σ H Q → t σ H Q) : PT X e t' := ⟨fun pins s σ H Q I q => h.run pins s σ H Q I (hw _ _ _ q)⟩
theorem _root_.L2.PW.weak {e : Expr} {t t' : TT} (h : PW X e t) (hw : ∀ σ H Q, t' σ H Q → t σ H Q) : PW X e t' := ⟨fun wh pins s σ H Q I q => h.run wh pins s σ H Q I (hw _ _ _ q)⟩
theorem _root_.L2.PA.weak {es : List Expr} {t t' : TA} (h : PA X es t) (hw : ∀ σ H Q, t' σ H Q → t σ H Q) : PA X es t' := ⟨fun p pins s σ H Q I q => h.run p pins s σ H Q I (hw _ _ _ q)⟩
theorem _root_.L2.PS.weak {st : Stmt} {t t' : TS} (h : PS X st t) (hw : ∀ D σ H, t' D σ H → t D σ H) : PS X st t' := ⟨fun pins s σ H D I q => h.run pins s σ H D I (hw _ _ _ q)⟩
theorem _root_.L2.PSs.weak {st : List Stmt} {t t' : TS} (h : PSs X st t) (hw : ∀ D σ H, t' D σ H → t D σ H) : PSs X st t' := ⟨fun pins s σ H D I q => h.run pins s σ H D I (hw _ _ _ q)⟩
theorem _root_.L2.PG.weak {e : Expr} {t t' : TG} (h : PG X e t) (hw : ∀ v σ H Q, t' v σ H Q → t v σ H Q) : PG X e t' := ⟨fun pins s σ H v u Q I r q => h.run pins s σ H v u Q I r (hw _ _ _ _ q)⟩

variable {K : PySem.W.Frag}
theorem up_var {i : Nat} : ∀ σ H Q, upE K (dVar i) σ H Q → tVar i σ H Q := by
  rintro σ H Q ⟨G, π, ρ, cs, R, A, s, ⟨x, e, q⟩, k⟩
  obtain ⟨v, e1, r⟩ := s.at_ i x (getS_eq e)
  exact ⟨v, e1, k v H x cs G π .refl A r q⟩
theorem up_varF {i : Nat} : ∀ σ H Q, upE K (dVarF i) σ H Q → tVar i σ H Q := by
  rintro σ H Q ⟨G, π, ρ, cs, R, A, s, ⟨n, ds, e, e2, q⟩, k⟩
  obtain ⟨v, e1, r⟩ := s.at_ i _ (getS_eq e)
  cases r with
  | ref ha =>
    obtain ⟨G', A', E', dd⟩ := A.frz ha (getC_eq e2)
    exact ⟨_, e1, k _ H _ _ G' π E' A' (.d dd) q⟩
theorem up_c {v : V} {x : PyData} (h : ∀ G, Dp K G v x) : ∀ σ H Q, upE K (dC x) σ H Q → tC v σ H Q := by
  rintro σ H Q ⟨G, π, ρ, cs, R, A, s, q, k⟩
  exact k v H _ cs G π .refl A (.d (h G)) q
theorem ee_var (i : Nat) {x : Str} {pos : Pos} (hN : X.N[i]? = some x := by rfl) (hv : Vis X.env.scope x := by first | exact Or.inl rfl | exact Or.inr (Or.inl rfl) | exact Or.inr (Or.inr rfl)) (hd : (x == ("__debug__" : Str)) = false := by decide)
    (hcd : (x == ("__classdict__" : Str)) = false := by decide) : PE X (.Name x pos) (upE X.K (dVar i)) := (pe_var hN hv hd hcd).weak up_var
theorem ee_varF (i : Nat) {x : Str} {pos : Pos} (hN : X.N[i]? = some x := by rfl) (hv : Vis X.env.scope x := by first | exact Or.inl rfl | exact Or.inr (Or.inl rfl) | exact Or.inr (Or.inr rfl)) (hd : (x == ("__debug__" : Str)) = false := by decide)
    (hcd : (x == ("__classdict__" : Str)) = false := by decide) : PE X (.Name x pos) (upE X.K (dVarF i)) := (pe_var hN hv hd hcd).weak up_varF
theorem ee_int {i j pos} : PE X (.Constant (.int i) j pos) (upE X.K (dC (.int i))) := pe_int.weak (up_c fun _ => .int i)
theorem ee_bl {b j pos} : PE X (.Constant (.bool b) j pos) (upE X.K (dC (.bool b))) := pe_bl.weak (up_c fun _ => .bl b)
theorem ee_non {j pos} : PE X (.Constant .none j pos) (upE X.K (dC .none)) := pe_non.weak (up_c fun _ => .non)
theorem ee_str {x j pos} : PE X (.Constant (.str x) j pos) (upE X.K (dC (.str x))) := pe_str.weak (up_c fun _ => .str x)
/-- a constant of the module -/
structure GlobD (K : PySem.W.Frag) (mg : Str → Option Value) (x : Str) (d : PyData) : Prop where
  ex : ∃ u v, mg x = some u ∧ RelV v u ∧ ∀ G, Dp K G v d
theorem ee_glob {x : Str} {d : PyData} {pos : Pos} (hg : Gl X x) (h : GlobD X.K X.mg x d) (hd : (x == ("__debug__" : Str)) = false := by decide) : PE X (.Name x pos) (upE X.K (dC d)) :=
  let ⟨_, _, hm, r, q⟩ := h.ex
  (pe_glob hg hm r hd).weak (up_c q)

/-! ### operators -/
def dOp (rd : RD2) (ta tb : TD) : TD := fun ρ cs R => ta ρ cs fun x cs1 => tb ρ cs1 fun y cs2 => rd x y cs2 R
def dUn (rd : RD1) (ta : TD) : TD := fun ρ cs R => ta ρ cs fun x cs1 => rd x cs1 R
theorem up_op {r : R2} {rd : RD2} {ta tb : TD} (h : Sim2 K r rd) : ∀ σ H Q, upE K (dOp rd ta tb) σ H Q → tOp r (upE K ta) (upE K tb) σ H Q := by
  rintro σ H Q ⟨G, π, ρ, cs, R, A, s, q, k⟩
  refine ⟨G, π, ρ, cs, _, A, s, q, fun v1 H1 x cs1 G1 π1 E1 A1 r1 q1 => ⟨G1, π1, ρ, cs1, _, A1, s.ext E1, q1, fun v2 H2 y cs2 G2 π2 E2 A2 r2 q2 => ?_⟩⟩
  exact h G2 π2 cs2 H2 v1 v2 x y R Q A2 (r1.ext E2) r2 q2 fun v3 H3 z cs3 G3 π3 E3 A3 r3 q3 => k _ _ _ _ _ _ (E1.trans (E2.trans E3)) A3 r3 q3
theorem up_un {r : V → Hp → VK → Prop} {rd : RD1} {ta : TD} (h : Sim1 K r rd) : ∀ σ H Q, upE K (dUn rd ta) σ H Q → tUn r (upE K ta) σ H Q := by
  rintro σ H Q ⟨G, π, ρ, cs, R, A, s, q, k⟩
  refine ⟨G, π, ρ, cs, _, A, s, q, fun v1 H1 x cs1 G1 π1 E1 A1 r1 q1 => ?_⟩
  exact h G1 π1 cs1 H1 v1 x R Q A1 r1 q1 fun v3 H3 z cs3 G3 π3 E3 A3 r3 q3 => k _ _ _ _ _ _ (E1.trans E3) A3 r3 q3
variable {a b c : Expr} {ta tb tc : TD} {pos : Pos}
theorem ee_op {op : Operator} {r : R2} {rd : RD2} (h : Sim2 X.K r rd) (ho : OpR X (binaryOp op) r) (ha : PE X a (upE X.K ta)) (hb : PE X b (upE X.K tb)) : PE X (.BinOp a op b pos) (upE X.K (dOp rd ta tb)) := (pe_op ho ha hb).weak (up_op h)
theorem ee_un {op : UnaryOp} {r : V → Hp → VK → Prop} {rd : RD1} (h : Sim1 X.K r rd) (ho : UnR X (unaryOp op) r) (ha : PE X a (upE X.K ta)) : PE X (.UnaryOp op a pos) (upE X.K (dUn rd ta)) := (pe_un ho ha).weak (up_un h)
theorem ee_cmp {op : CmpOp} {r : R2} {rd : RD2} (h : Sim2 X.K r rd) (ho : OpR X (compareOp op) r) (ha : PE X a (upE X.K ta)) (hb : PE X b (upE X.K tb)) (hm : behindInMarks op b = false) : PE X (.Compare a [op] [b] pos) (upE X.K (dOp rd ta tb)) :=
  (pe_cmpR ho ha hb hm).weak (up_op h)
def dTestR (t : TD) : TTD := fun ρ cs R => t ρ cs fun x cs1 => ∃ b, x = sb b ∧ R b cs1
theorem up_test {t : TD} {tt : TE} (h : ∀ σ H Q, upE K t σ H Q → tt σ H Q) : ∀ σ H Q, upT K (dTestR t) σ H Q → tTest tt σ H Q := by
  rintro σ H Q ⟨G, π, ρ, cs, R, A, s, q, k⟩
  refine h σ H _ ⟨G, π, ρ, cs, _, A, s, q, fun v1 H1 x cs1 G1 π1 E1 A1 r1 q1 => ?_⟩
  obtain ⟨b, rfl, q1⟩ := q1
  cases r1 with
  | d r1 => cases r1 with
    | bl => exact ⟨b, rfl, k _ _ _ _ _ E1 A1 q1⟩
theorem et_cmp {op : CmpOp} {r : R2} {rd : RD2} (h : Sim2 X.K r rd) (ho : OpR X (compareOp op) r) (ha : PE X a (upE X.K ta)) (hb : PE X b (upE X.K tb)) (hm : behindInMarks op b = false) : PT X (.Compare a [op] [b] pos) (upT X.K (dTestR (dOp rd ta tb))) :=
  (pt_cmpR ho ha hb hm).weak (up_test (up_op h))
/-- a < b < c -/
def dChain (rd rd' : RD2) (ta tb tc : TD) : TD := fun ρ cs R => ta ρ cs fun x cs1 => tb ρ cs1 fun y cs2 => rd x y cs2 fun z cs3 => ∃ b, z = sb b ∧ (b = true → tc ρ cs3 fun u cs4 => rd' y u cs4 R) ∧ (b = false → R (sb false) cs3)

/-! whole numbers -/
def qI (C : Int → Int → Prop) (g : Int → Int → PyData) : RD2 := fun x y cs R => ∃ i j, x = si i ∧ y = si j ∧ C i j ∧ R (.d (g i j)) cs
def qI0 (g : Int → Int → PyData) : RD2 := fun x y cs R => ∃ i j, x = si i ∧ y = si j ∧ R (.d (g i j)) cs
theorem sim_I {C : Int → Int → Prop} {g : Int → Int → Int} : Sim2 K (rI C fun i j => .int (g i j)) (qI C fun i j => .int (g i j)) := by
  rintro G π cs H v w x y R Q A rv rw ⟨i, j, rfl, rfl, hc, q⟩ k
  cases rv with
  | d rv => cases rv; cases rw with
    | d rw => cases rw; exact ⟨i, j, rfl, rfl, hc, k _ _ _ _ _ _ .refl A (.d (.int _)) q⟩
theorem sim_I0 {g : Int → Int → Int} : Sim2 K (rI0 fun i j => .int (g i j)) (qI0 fun i j => .int (g i j)) := by
  rintro G π cs H v w x y R Q A rv rw ⟨i, j, rfl, rfl, q⟩ k
  cases rv with
  | d rv => cases rv; cases rw with
    | d rw => cases rw; exact ⟨i, j, rfl, rfl, k _ _ _ _ _ _ .refl A (.d (.int _)) q⟩
theorem sim_B0 {g : Int → Int → Bool} : Sim2 K (rI0 fun i j => .bl (g i j)) (qI0 fun i j => .bool (g i j)) := by
  rintro G π cs H v w x y R Q A rv rw ⟨i, j, rfl, rfl, q⟩ k
  cases rv with
  | d rv => cases rv; cases rw with
    | d rw => cases rw; exact ⟨i, j, rfl, rfl, k _ _ _ _ _ _ .refl A (.d (.bl _)) q⟩
theorem sim_U {g : Int → Int} : Sim1 K (rU fun i => .int (g i)) (fun x cs R => ∃ i, x = si i ∧ R (si (g i)) cs) := by
  rintro G π cs H v x R Q A rv ⟨i, rfl, q⟩ k
  cases rv with
  | d rv => cases rv; exact ⟨i, rfl, k _ _ _ _ _ _ .refl A (.d (.int _)) q⟩
abbrev qAdd : RD2 := qI0 fun i j => .int (i + j)
abbrev qSub : RD2 := qI0 fun i j => .int (i - j)
abbrev qMul : RD2 := qI CMulW fun i j => .int (i * j)
abbrev qDiv : RD2 := qI CDivW fun i j => .int (i / j)
abbrev qMod : RD2 := qI (fun _ j => 0 < j) fun i j => .int (i % j)
abbrev qModN : RD2 := qI (fun _ j => j ≠ 0) fun i j => .int (i.fmod j)
abbrev qPow : RD2 := qI CPow fun i j => .int (i ^ j.toNat)
abbrev qLt : RD2 := qI0 fun i j => .bool (decide (i < j))
abbrev qLe : RD2 := qI0 fun i j => .bool (decide (i ≤ j))
abbrev qGt : RD2 := qI0 fun i j => .bool (decide (j < i))
abbrev qGe : RD2 := qI0 fun i j => .bool (decide (j ≤ i))
abbrev qNeg : RD1 := fun x cs R => ∃ i, x = si i ∧ R (si (-i)) cs
theorem ee_add (ha : PE X a (upE X.K ta)) (hb : PE X b (upE X.K tb)) : PE X (.BinOp a .Add b pos) (upE X.K (dOp qAdd ta tb)) := ee_op sim_I0 op_add ha hb
theorem ee_sub (ha : PE X a (upE X.K ta)) (hb : PE X b (upE X.K tb)) : PE X (.BinOp a .Sub b pos) (upE X.K (dOp qSub ta tb)) := ee_op sim_I0 op_sub ha hb
theorem ee_mul (ha : PE X a (upE X.K ta)) (hb : PE X b (upE X.K tb)) : PE X (.BinOp a .Mult b pos) (upE X.K (dOp qMul ta tb)) := ee_op sim_I op_mulW ha hb
theorem ee_div (ha : PE X a (upE X.K ta)) (hb : PE X b (upE X.K tb)) : PE X (.BinOp a .FloorDiv b pos) (upE X.K (dOp qDiv ta tb)) := ee_op sim_I op_fdivW ha hb
theorem ee_mod (ha : PE X a (upE X.K ta)) (hb : PE X b (upE X.K tb)) : PE X (.BinOp a .Mod b pos) (upE X.K (dOp qMod ta tb)) := ee_op sim_I op_mod ha hb
theorem ee_modN (ha : PE X a (upE X.K ta)) (hb : PE X b (upE X.K tb)) : PE X (.BinOp a .Mod b pos) (upE X.K (dOp qModN ta tb)) := ee_op sim_I op_modN ha hb
theorem ee_pow (ha : PE X a (upE X.K ta)) (hb : PE X b (upE X.K tb)) : PE X (.BinOp a .Pow b pos) (upE X.K (dOp qPow ta tb)) := ee_op sim_I op_pow ha hb
theorem ee_neg (ha : PE X a (upE X.K ta)) : PE X (.UnaryOp .USub a pos) (upE X.K (dUn qNeg ta)) := ee_un sim_U un_neg ha
theorem ee_lt (ha : PE X a (upE X.K ta)) (hb : PE X b (upE X.K tb)) : PE X (.Compare a [.Lt] [b] pos) (upE X.K (dOp qLt ta tb)) := ee_cmp sim_B0 op_lt ha hb (nomark _)
theorem ee_le (ha : PE X a (upE X.K ta)) (hb : PE X b (upE X.K tb)) : PE X (.Compare a [.LtE] [b] pos) (upE X.K (dOp qLe ta tb)) := ee_cmp sim_B0 op_le ha hb (nomark _)
theorem ee_gt (ha : PE X a (upE X.K ta)) (hb : PE X b (upE X.K tb)) : PE X (.Compare a [.Gt] [b] pos) (upE X.K (dOp qGt ta tb)) := ee_cmp sim_B0 op_gt ha hb (nomark _)
theorem ee_ge (ha : PE X a (upE X.K ta)) (hb : PE X b (upE X.K tb)) : PE X (.Compare a [.GtE] [b] pos) (upE X.K (dOp qGe ta tb)) := ee_cmp sim_B0 op_ge ha hb (nomark _)
theorem et_lt (ha : PE X a (upE X.K ta)) (hb : PE X b (upE X.K tb)) : PT X (.Compare a [.Lt] [b] pos) (upT X.K (dTestR (dOp qLt ta tb))) := et_cmp sim_B0 op_lt ha hb (nomark _)
theorem et_le (ha : PE X a (upE X.K ta)) (hb : PE X b (upE X.K tb)) : PT X (.Compare a [.LtE] [b] pos) (upT X.K (dTestR (dOp qLe ta tb))) := et_cmp sim_B0 op_le ha hb (nomark _)
theorem et_gt (ha : PE X a (upE X.K ta)) (hb : PE X b (upE X.K tb)) : PT X (.Compare a [.Gt] [b] pos) (upT X.K (dTestR (dOp qGt ta tb))) := et_cmp sim_B0 op_gt ha hb (nomark _)
theorem et_ge (ha : PE X a (upE X.K ta)) (hb : PE X b (upE X.K tb)) : PT X (.Compare a [.GtE] [b] pos) (upT X.K (dTestR (dOp qGe ta tb))) := et_cmp sim_B0 op_ge ha hb (nomark _)

/-! == and != of data; is None -/
def eqOk : PyData → PyData → Prop
  | .int _, .int _ => True
  | .bool _, .bool _ => True
  | .str _, .str _ => True
  | x, y => SeqAt.shaped x = true ∧ SeqAt.shaped y = true
def qEq : RD2 := fun x y cs R => ∃ d e, x = .d d ∧ y = .d e ∧ eqOk d e ∧ R (sb (PyData.eqv d e)) cs
def qNe : RD2 := fun x y cs R => ∃ d e, x = .d d ∧ y = .d e ∧ eqOk d e ∧ R (sb (!PyData.eqv d e)) cs
theorem str_beq_dec (a b : Str) : decide (V.str a = V.str b) = (a == b) := L2.dec_str
theorem sim_Eq : Sim2 K (fun x y H Q => rEq x y H Q ∨ rEqD K x y H Q) qEq := by
  rintro G π cs H v w x y R Q A rv rw ⟨d, e, rfl, rfl, hc, q⟩ k
  cases rv with
  | d rv => cases rw with
    | d rw =>
      have fin : ∀ b, b = PyData.eqv d e → Q (.bl b) H := fun b hb => k _ _ _ _ _ _ .refl A (.d (.bl b)) (hb ▸ q)
      have gen : SeqAt.shaped d = true ∧ SeqAt.shaped e = true → rEq v w H Q ∨ rEqD K v w H Q := fun h => .inr ⟨d, e, dp_mono A.kn rv, dp_mono A.kn rw, h.1, h.2, fin _ rfl⟩
      cases d <;> cases e <;> first
        | exact gen hc
        | (cases rv; cases rw; refine .inl ⟨rfl, fin _ ?_⟩; first | (rw [dec_int]; rfl) | (rw [dec_bl]; rfl) | (rw [L2.dec_str]; rfl))
theorem sim_Ne : Sim2 K (fun x y H Q => rNe x y H Q ∨ rNeD K x y H Q) qNe := by
  rintro G π cs H v w x y R Q A rv rw ⟨d, e, rfl, rfl, hc, q⟩ k
  cases rv with
  | d rv => cases rw with
    | d rw =>
      have fin : ∀ b, b = (!PyData.eqv d e) → Q (.bl b) H := fun b hb => k _ _ _ _ _ _ .refl A (.d (.bl b)) (hb ▸ q)
      have gen : SeqAt.shaped d = true ∧ SeqAt.shaped e = true → rNe v w H Q ∨ rNeD K v w H Q := fun h => .inr ⟨d, e, dp_mono A.kn rv, dp_mono A.kn rw, h.1, h.2, fin _ rfl⟩
      cases d <;> cases e <;> first
        | exact gen hc
        | (cases rv; cases rw; refine .inl ⟨rfl, fin _ ?_⟩; first | (rw [dec_int]; rfl) | (rw [dec_bl]; rfl) | (rw [L2.dec_str]; rfl))
theorem ee_eq (hu : X.A.units + 64 < cLine) (ha : PE X a (upE X.K ta)) (hb : PE X b (upE X.K tb)) : PE X (.Compare a [.Eq] [b] pos) (upE X.K (dOp qEq ta tb)) := ee_cmp sim_Eq (op_eq.or (op_eqD hu)) ha hb (nomark _)
theorem ee_ne (hu : X.A.units + 64 < cLine) (ha : PE X a (upE X.K ta)) (hb : PE X b (upE X.K tb)) : PE X (.Compare a [.NotEq] [b] pos) (upE X.K (dOp qNe ta tb)) := ee_cmp sim_Ne (op_ne.or (op_neD hu)) ha hb (nomark _)
theorem et_eq (hu : X.A.units + 64 < cLine) (ha : PE X a (upE X.K ta)) (hb : PE X b (upE X.K tb)) : PT X (.Compare a [.Eq] [b] pos) (upT X.K (dTestR (dOp qEq ta tb))) := et_cmp sim_Eq (op_eq.or (op_eqD hu)) ha hb (nomark _)
theorem et_ne (hu : X.A.units + 64 < cLine) (ha : PE X a (upE X.K ta)) (hb : PE X b (upE X.K tb)) : PT X (.Compare a [.NotEq] [b] pos) (upT X.K (dTestR (dOp qNe ta tb))) := et_cmp sim_Ne (op_ne.or (op_neD hu)) ha hb (nomark _)
def isNone : S → Bool
  | .d .none => true
  | _ => false
def qIsN : RD2 := fun x y cs R => y = .d .none ∧ R (sb (isNone x)) cs
def qNotN : RD2 := fun x y cs R => y = .d .none ∧ R (sb (!isNone x)) cs
theorem isNone_of {G : Hp} {π : List Addr} {v : V} {x : S} (r : RepS K G π v x) : decide (v = .non) = isNone x := by
  cases r with
  | d r => cases r <;> first | rfl | (refine decide_eq_false (fun z => ?_); cases z)
  | ref _ => exact decide_eq_false fun z => by cases z
theorem sim_IsN : Sim2 K (fun x y H Q => y = .non ∧ Q (.bl (decide (x = .non))) H) qIsN := by
  rintro G π cs H v w x y R Q A rv rw ⟨rfl, q⟩ k
  cases rw with
  | d rw => cases rw; exact ⟨rfl, k _ _ _ _ _ _ .refl A (.d (.bl _)) (by rw [isNone_of rv]; exact q)⟩
theorem sim_NotN : Sim2 K (fun x y H Q => y = .non ∧ Q (.bl (!decide (x = .non))) H) qNotN := by
  rintro G π cs H v w x y R Q A rv rw ⟨rfl, q⟩ k
  cases rw with
  | d rw => cases rw; exact ⟨rfl, k _ _ _ _ _ _ .refl A (.d (.bl _)) (by rw [isNone_of rv]; exact q)⟩
theorem ee_isN (ha : PE X a (upE X.K ta)) (hb : PE X b (upE X.K tb)) : PE X (.Compare a [.Is] [b] pos) (upE X.K (dOp qIsN ta tb)) := ee_cmp sim_IsN op_isN ha hb (nomark _)
theorem ee_notN (ha : PE X a (upE X.K ta)) (hb : PE X b (upE X.K tb)) : PE X (.Compare a [.IsNot] [b] pos) (upE X.K (dOp qNotN ta tb)) := ee_cmp sim_NotN op_notN ha hb (nomark _)
theorem et_isN (ha : PE X a (upE X.K ta)) (hb : PE X b (upE X.K tb)) : PT X (.Compare a [.Is] [b] pos) (upT X.K (dTestR (dOp qIsN ta tb))) := et_cmp sim_IsN op_isN ha hb (nomark _)
theorem et_notN (ha : PE X a (upE X.K ta)) (hb : PE X b (upE X.K tb)) : PT X (.Compare a [.IsNot] [b] pos) (upT X.K (dTestR (dOp qNotN ta tb))) := et_cmp sim_NotN op_notN ha hb (nomark _)
theorem up_chain {r r' : R2} {rd rd' : RD2} (h : Sim2 K r rd) (h' : Sim2 K r' rd') : ∀ σ H Q, upE K (dChain rd rd' ta tb tc) σ H Q → tChain r r' (upE K ta) (upE K tb) (upE K tc) σ H Q := by
  rintro σ H Q ⟨G, π, ρ, cs, R, A, s, q, k⟩
  refine ⟨G, π, ρ, cs, _, A, s, q, fun v1 H1 x cs1 G1 π1 E1 A1 r1 q1 => ⟨G1, π1, ρ, cs1, _, A1, s.ext E1, q1, fun v2 H2 y cs2 G2 π2 E2 A2 r2 q2 => ?_⟩⟩
  refine h G2 π2 cs2 H2 v1 v2 x y _ _ A2 (r1.ext E2) r2 q2 fun v3 H3 z cs3 G3 π3 E3 A3 r3 q3 => ?_
  obtain ⟨b, rfl, qt, qf⟩ := q3
  cases r3 with
  | d r3 =>
    cases r3
    refine ⟨b, rfl, ?_⟩
    cases b with
    | false => exact k _ _ _ _ _ _ (E1.trans (E2.trans E3)) A3 (.d (.bl false)) (qf rfl)
    | true =>
      refine ⟨G3, π3, ρ, cs3, _, A3, (s.ext E1).ext (E2.trans E3), qt rfl, fun v4 H4 u cs4 G4 π4 E4 A4 r4 q4 => ?_⟩
      exact h' G4 π4 cs4 H4 v2 v4 y u R Q A4 (r2.ext (E3.trans E4)) r4 q4 fun v5 H5 w cs5 G5 π5 E5 A5 r5 q5 => k _ _ _ _ _ _ (E1.trans (E2.trans (E3.trans (E4.trans E5)))) A5 r5 q5

/-! ### tests, and, or, not -/
def dTruR : S → Sto → (Bool → Sto → Prop) → Prop
  | .d .none, cs, R => R false cs
  | .d (.bool b), cs, R => R b cs
  | .d (.int i), cs, R => R (i != 0) cs
  | .d (.list ds), cs, R => R (!ds.isEmpty) cs
  | .d (.tuple ds), cs, R => R (!ds.isEmpty) cs
  | .d (.str z), cs, R => z.length ≤ sizeLine ∧ R ((z.length : Int) != 0) cs
  | .ref n, cs, R => ∃ xs, getC cs n = some xs ∧ R (!xs.isEmpty) cs
  | _, _, _ => False
def dTru (t : TD) : TTD := fun ρ cs R => t ρ cs fun x cs1 => dTruR x cs1 R
theorem isEmpty_repL {G : Hp} {π : List Addr} {vs : List V} {xs : List S} (r : RepL K G π vs xs) : vs.isEmpty = xs.isEmpty := by cases r <;> rfl
theorem isEmpty_dp {G : Hp} {vs : List V} {xs : List PyData} (r : DpAll K G vs xs) : vs.isEmpty = xs.isEmpty := by cases r <;> rfl
theorem tru_of {G H : Hp} {π : List Addr} {cs : Sto} {v : V} {x : S} {R : Bool → Sto → Prop} (A : At K G π cs H) (r : RepS K G π v x) (q : dTruR x cs R) : ∃ k, TruV K v H k ∧ R k cs := by
  cases r with
  | d r =>
    cases r with
    | non => exact ⟨false, rfl, q⟩
    | bl b => exact ⟨b, rfl, q⟩
    | int i => exact ⟨_, rfl, q⟩
    | str z => exact ⟨_, ⟨q.1, rfl⟩, q.2⟩
    | lst h ds => exact ⟨_, .inl ⟨_, A.kn.seq h, rfl⟩, by rw [isEmpty_dp ds]; exact q⟩
    | tup h ds => exact ⟨_, .inr (.inl ⟨_, seqT_mono A.kn h, rfl⟩), by rw [isEmpty_dp ds]; exact q⟩
  | ref h =>
    obtain ⟨xs, e, q⟩ := q
    obtain ⟨_, vs, e2, rl⟩ := A.st _ _ _ h (getC_eq e)
    exact ⟨_, .inl ⟨_, .of e2, rfl⟩, by rw [isEmpty_repL rl]; exact q⟩
theorem et_tru (ha : PE X a (upE X.K ta)) (he : ∀ whole, isTrue a X.env whole = (do let v ← whole; standAt a.pos; holding [v] (truthy v)) := by intro _; rfl) : PT X a (upT X.K (dTru ta)) := by
  refine (pt_truth ha he).weak ?_
  rintro σ H Q ⟨G, π, ρ, cs, R, A, s, q, k⟩
  refine ⟨G, π, ρ, cs, _, A, s, q, fun v1 H1 x cs1 G1 π1 E1 A1 r1 q1 => ?_⟩
  obtain ⟨b, h, q2⟩ := tru_of A1 r1 q1
  exact ⟨b, h, k _ _ _ _ _ E1 A1 q2⟩
variable {tt uu : TTD} {rest : List Expr}
def dAnd (t u : TTD) : TTD := fun ρ cs R => t ρ cs fun b cs1 => (b = true → u ρ cs1 R) ∧ (b = false → R false cs1)
def dOr (t u : TTD) : TTD := fun ρ cs R => t ρ cs fun b cs1 => (b = true → R true cs1) ∧ (b = false → u ρ cs1 R)
def dNot (t : TTD) : TTD := fun ρ cs R => t ρ cs fun b cs1 => R (!b) cs1
theorem ew_and1 (ha : PT X a (upT X.K tt)) : PW X (.BoolOp .And [a] pos) (upT X.K tt) := pw_and1 ha
theorem ew_or1 (ha : PT X a (upT X.K tt)) : PW X (.BoolOp .Or [a] pos) (upT X.K tt) := pw_or1 ha
theorem ew_and (ha : PT X a (upT X.K tt)) (hb : PW X (.BoolOp .And (b :: rest) pos) (upT X.K uu)) : PW X (.BoolOp .And (a :: b :: rest) pos) (upT X.K (dAnd tt uu)) := by
  refine (pw_and ha hb).weak ?_
  rintro σ H Q ⟨G, π, ρ, cs, R, A, s, q, k⟩
  refine ⟨G, π, ρ, cs, _, A, s, q, fun c H1 cs1 G1 π1 E1 A1 q1 => ?_⟩
  cases c with
  | true =>
    rw [if_pos rfl]
    exact ⟨G1, π1, ρ, cs1, R, A1, s.ext E1, q1.1 rfl, fun b H2 cs2 G2 π2 E2 A2 q2 => k _ _ _ _ _ (E1.trans E2) A2 q2⟩
  | false => exact k _ _ _ _ _ E1 A1 (q1.2 rfl)
theorem ew_or (ha : PT X a (upT X.K tt)) (hb : PW X (.BoolOp .Or (b :: rest) pos) (upT X.K uu)) : PW X (.BoolOp .Or (a :: b :: rest) pos) (upT X.K (dOr tt uu)) := by
  refine (pw_or ha hb).weak ?_
  rintro σ H Q ⟨G, π, ρ, cs, R, A, s, q, k⟩
  refine ⟨G, π, ρ, cs, _, A, s, q, fun c H1 cs1 G1 π1 E1 A1 q1 => ?_⟩
  cases c with
  | false =>
    rw [if_neg Bool.false_ne_true]
    exact ⟨G1, π1, ρ, cs1, R, A1, s.ext E1, q1.2 rfl, fun b H2 cs2 G2 π2 E2 A2 q2 => k _ _ _ _ _ (E1.trans E2) A2 q2⟩
  | true => exact k _ _ _ _ _ E1 A1 (q1.1 rfl)
theorem et_not (ha : PT X a (upT X.K tt)) : PT X (.UnaryOp .Not a pos) (upT X.K (dNot tt)) := by
  refine (pt_not ha).weak ?_
  rintro σ H Q ⟨G, π, ρ, cs, R, A, s, q, k⟩
  exact ⟨G, π, ρ, cs, _, A, s, q, fun c H1 cs1 G1 π1 E1 A1 q1 => k _ _ _ _ _ E1 A1 q1⟩
/-- .. as values, of bools -/
def dAndV (ta tb : TD) : TD := fun ρ cs R => ta ρ cs fun x cs1 => ∃ b, x = sb b ∧ (b = true → tb ρ cs1 R) ∧ (b = false → R (sb false) cs1)
def dOrV (ta tb : TD) : TD := fun ρ cs R => ta ρ cs fun x cs1 => ∃ b, x = sb b ∧ (b = true → R (sb true) cs1) ∧ (b = false → tb ρ cs1 R)
def dNotV (ta : TD) : TD := fun ρ cs R => ta ρ cs fun x cs1 => ∃ b, x = sb b ∧ R (sb (!b)) cs1
theorem ee_one {op} {t : TD} (h : PE X a (upE X.K t)) : PE X (.BoolOp op [a] pos) (upE X.K t) := pe_one h
theorem ee_and (ha : PE X a (upE X.K ta)) (hb : PE X (.BoolOp .And (b :: rest) pos) (upE X.K tb)) : PE X (.BoolOp .And (a :: b :: rest) pos) (upE X.K (dAndV ta tb)) := by
  refine (pe_and ha hb).weak ?_
  rintro σ H Q ⟨G, π, ρ, cs, R, A, s, q, k⟩
  refine ⟨G, π, ρ, cs, _, A, s, q, fun v1 H1 x cs1 G1 π1 E1 A1 r1 q1 => ?_⟩
  obtain ⟨c, rfl, qt, qf⟩ := q1
  cases r1 with
  | d r1 =>
    cases r1
    refine ⟨c, rfl, ?_⟩
    cases c with
    | true =>
      rw [if_pos rfl]
      exact ⟨G1, π1, ρ, cs1, R, A1, s.ext E1, qt rfl, fun _ _ _ _ _ _ E2 A2 r2 q2 => k _ _ _ _ _ _ (E1.trans E2) A2 r2 q2⟩
    | false => exact k _ _ _ _ _ _ E1 A1 (.d (.bl false)) (qf rfl)
theorem ee_or (ha : PE X a (upE X.K ta)) (hb : PE X (.BoolOp .Or (b :: rest) pos) (upE X.K tb)) : PE X (.BoolOp .Or (a :: b :: rest) pos) (upE X.K (dOrV ta tb)) := by
  refine (pe_or ha hb).weak ?_
  rintro σ H Q ⟨G, π, ρ, cs, R, A, s, q, k⟩
  refine ⟨G, π, ρ, cs, _, A, s, q, fun v1 H1 x cs1 G1 π1 E1 A1 r1 q1 => ?_⟩
  obtain ⟨c, rfl, qt, qf⟩ := q1
  cases r1 with
  | d r1 =>
    cases r1
    refine ⟨c, rfl, ?_⟩
    cases c with
    | false =>
      rw [if_neg Bool.false_ne_true]
      exact ⟨G1, π1, ρ, cs1, R, A1, s.ext E1, qf rfl, fun _ _ _ _ _ _ E2 A2 r2 q2 => k _ _ _ _ _ _ (E1.trans E2) A2 r2 q2⟩
    | true => exact k _ _ _ _ _ _ E1 A1 (.d (.bl true)) (qt rfl)
theorem ee_not (ha : PE X a (upE X.K ta)) : PE X (.UnaryOp .Not a pos) (upE X.K (dNotV ta)) := by
  refine (pe_not ha).weak ?_
  rintro σ H Q ⟨G, π, ρ, cs, R, A, s, q, k⟩
  refine ⟨G, π, ρ, cs, _, A, s, q, fun v1 H1 x cs1 G1 π1 E1 A1 r1 q1 => ?_⟩
  obtain ⟨c, rfl, q1⟩ := q1
  cases r1 with
  | d r1 =>
    cases r1
    exact ⟨c, rfl, k _ _ _ _ _ _ E1 A1 (.d (.bl _)) q1⟩
def dIf (t : TTD) (ta tb : TD) : TD := fun ρ cs R => t ρ cs fun b cs1 => (b = true → ta ρ cs1 R) ∧ (b = false → tb ρ cs1 R)
theorem ee_if (hc : PT X c (upT X.K tt)) (ha : PE X a (upE X.K ta)) (hb : PE X b (upE X.K tb)) : PE X (.IfExp c a b pos) (upE X.K (dIf tt ta tb)) := by
  refine (pe_ifExp hc ha hb).weak ?_
  rintro σ H Q ⟨G, π, ρ, cs, R, A, s, q, k⟩
  refine ⟨G, π, ρ, cs, _, A, s, q, fun c H1 cs1 G1 π1 E1 A1 q1 => ?_⟩
  cases c with
  | true =>
    rw [if_pos rfl]
    exact ⟨G1, π1, ρ, cs1, R, A1, s.ext E1, q1.1 rfl, fun _ _ _ _ _ _ E2 A2 r2 q2 => k _ _ _ _ _ _ (E1.trans E2) A2 r2 q2⟩
  | false =>
    rw [if_neg Bool.false_ne_true]
    exact ⟨G1, π1, ρ, cs1, R, A1, s.ext E1, q1.2 rfl, fun _ _ _ _ _ _ E2 A2 r2 q2 => k _ _ _ _ _ _ (E1.trans E2) A2 r2 q2⟩
end
end FL

set_option Elab.async false
set_option linter.all false
set_option maxRecDepth 100000
set_option maxHeartbeats 1000000
namespace FL
open PySem L2

section
variable {X : Cx} {K : PySem.W.Frag} {a b c e : Expr} {es : List Expr} {ta tb tc te : TD} {t : TAD} {pos : Pos}

/-! ### rows of arguments, displays -/
def dNil : TAD := fun _ cs R => R [] cs
def dCons (ta : TD) (t : TAD) : TAD := fun ρ cs R => ta ρ cs fun x cs1 => t ρ cs1 fun xs cs2 => R (x :: xs) cs2
theorem ea_nil : PA X [] (upA X.K dNil) := by
  refine pa_nil.weak ?_
  rintro σ H Q ⟨G, π, ρ, cs, R, A, s, q, k⟩
  exact k _ _ _ _ _ _ .refl A .nil q
theorem ea_cons (ha : PE X e (upE X.K te)) (hr : PA X es (upA X.K t)) (hs : starEach (e :: es) X.env = (false, eval e X.env) :: starEach es X.env := by rfl) : PA X (e :: es) (upA X.K (dCons te t)) := by
  refine (pa_cons ha hr hs).weak ?_
  rintro σ H Q ⟨G, π, ρ, cs, R, A, s, q, k⟩
  refine ⟨G, π, ρ, cs, _, A, s, q, fun v1 H1 x cs1 G1 π1 E1 A1 r1 q1 => ⟨G1, π1, ρ, cs1, _, A1, s.ext E1, q1, fun v2 H2 y cs2 G2 π2 E2 A2 r2 q2 => ?_⟩⟩
  exact k _ _ _ _ _ _ (E1.trans E2) A2 (.cons (r1.ext E2) r2) q2
def datas : List S → Option (List PyData)
  | [] => some []
  | .d x :: r => (datas r).map (x :: ·)
  | .ref _ :: _ => none
theorem datas_eq : ∀ {xs : List S} {ds : List PyData}, datas xs = some ds → xs = ds.map S.d
  | [], ds, h => by cases h; rfl
  | .d x :: r, ds, h => by
    unfold datas at h
    cases e : datas r with
    | none => rw [e] at h; cases h
    | some es => rw [e] at h; cases h; rw [List.map_cons, ← datas_eq e]
  | .ref _ :: _, ds, h => by cases h
theorem datas_map (ds : List PyData) : datas (ds.map S.d) = some ds := by
  induction ds with
  | nil => rfl
  | cons d ds ih => rw [List.map_cons, datas, ih]; rfl
def dTup (t : TAD) : TD := fun ρ cs R => t ρ cs fun xs cs1 => ∃ ds, datas xs = some ds ∧ ds.length ≤ sizeLine ∧ R (.d (.tuple ds)) cs1
def dLst (t : TAD) : TD := fun ρ cs R => t ρ cs fun xs cs1 => ∃ ds, datas xs = some ds ∧ ds.length ≤ sizeLine ∧ R (.d (.list ds)) cs1
/-- a list that will be written -/
def dLstM (t : TAD) : TD := fun ρ cs R => t ρ cs fun xs cs1 => xs.length ≤ sizeLine ∧ R (.ref cs1.length) (cs1 ++ [some xs])
theorem new_tup {G H : Hp} {π : List Addr} {cs : Sto} {vs : List V} {ds : List PyData} (A : At K G π cs H) (r : DpAll K G vs ds) {p : Addr} (hp : H p = none) :
    ∃ G', At K G' π cs (upd H p (.tup vs)) ∧ Ext G π H G' π (upd H p (.tup vs)) ∧ RepS K G' π (.ref p) (.d (.tuple ds)) := by
  obtain ⟨A1, E1⟩ := A.new hp (.tup vs)
  exact ⟨_, A1, E1, .d (.tup (.of upd_same) (dpAll_mono E1.g r))⟩
theorem new_lst {G H : Hp} {π : List Addr} {cs : Sto} {vs : List V} {ds : List PyData} (A : At K G π cs H) (r : DpAll K G vs ds) {p : Addr} (hp : H p = none) :
    ∃ G', At K G' π cs (upd H p (.lst vs)) ∧ Ext G π H G' π (upd H p (.lst vs)) ∧ RepS K G' π (.ref p) (.d (.list ds)) := by
  obtain ⟨A1, E1⟩ := A.new hp (.lst vs)
  exact ⟨_, A1, E1, .d (.lst (.of upd_same) (dpAll_mono E1.g r))⟩
theorem new_cell {G H : Hp} {π : List Addr} {cs : Sto} {vs : List V} {xs : List S} (A : At K G π cs H) (r : RepL K G π vs xs) {p : Addr} (hp : H p = none) :
    At K G (π ++ [p]) (cs ++ [some xs]) (upd H p (.lst vs)) ∧ Ext G π H G (π ++ [p]) (upd H p (.lst vs)) ∧ RepS K G (π ++ [p]) (.ref p) (.ref cs.length) := by
  obtain ⟨A1, E1⟩ := A.newM hp r
  exact ⟨A1, E1, .ref (by rw [← A.len]; simp)⟩
theorem ee_tup {x1} (h : PA X es (upA X.K t)) : PE X (.Tuple es x1 pos) (upE X.K (dTup t)) := by
  refine (pe_tup h).weak ?_
  rintro σ H Q ⟨G, π, ρ, cs, R, A, s, q, k⟩
  refine ⟨G, π, ρ, cs, _, A, s, q, fun vs H1 xs cs1 G1 π1 E1 A1 r1 q1 => ?_⟩
  obtain ⟨ds, e, z, q1⟩ := q1
  rw [datas_eq e] at r1
  refine ⟨by rw [r1.len, List.length_map]; exact z, fun p hp => ?_⟩
  obtain ⟨G2, A2, E2, r2⟩ := new_tup A1 (dpAll_of r1) hp
  exact k _ _ _ _ _ _ (E1.trans E2) A2 r2 q1
theorem ee_lst (h : PA X es (upA X.K t)) : PE X (.List es pos) (upE X.K (dLst t)) := by
  refine (pe_lst h).weak ?_
  rintro σ H Q ⟨G, π, ρ, cs, R, A, s, q, k⟩
  refine ⟨G, π, ρ, cs, _, A, s, q, fun vs H1 xs cs1 G1 π1 E1 A1 r1 q1 => ?_⟩
  obtain ⟨ds, e, z, q1⟩ := q1
  rw [datas_eq e] at r1
  refine ⟨by rw [r1.len, List.length_map]; exact z, fun p hp => ?_⟩
  obtain ⟨G2, A2, E2, r2⟩ := new_lst A1 (dpAll_of r1) hp
  exact k _ _ _ _ _ _ (E1.trans E2) A2 r2 q1
theorem ee_lstM (h : PA X es (upA X.K t)) : PE X (.List es pos) (upE X.K (dLstM t)) := by
  refine (pe_lst h).weak ?_
  rintro σ H Q ⟨G, π, ρ, cs, R, A, s, q, k⟩
  refine ⟨G, π, ρ, cs, _, A, s, q, fun vs H1 xs cs1 G1 π1 E1 A1 r1 q1 => ?_⟩
  refine ⟨by rw [r1.len]; exact q1.1, fun p hp => ?_⟩
  obtain ⟨A2, E2, r2⟩ := new_cell A1 r1 hp
  exact k _ _ _ _ _ _ (E1.trans E2) A2 r2 q1.2

/-! ### subscripts -/
def dIxR : S → S → Sto → RK → Prop
  | .d (.list ds), y, cs, R => ∃ i d, y = si i ∧ atI ds i = some d ∧ R (.d d) cs
  | .d (.tuple ds), y, cs, R => ∃ i d, y = si i ∧ atI ds i = some d ∧ R (.d d) cs
  | .d (.str z), y, cs, R => ∃ i c, y = si i ∧ z.length ≤ sizeLine ∧ atI z.cps.toList i = some c ∧ R (.d (.str ⟨#[c]⟩)) cs
  | .ref n, y, cs, R => ∃ i xs x, y = si i ∧ getC cs n = some xs ∧ atI xs i = some x ∧ R x cs
  | _, _, _, _ => False
theorem atI_rep {α β : Type} {F : α → β → Prop} {xs : List α} {ys : List β} {i : Int} {y : β} (hl : xs.length = ys.length) (g : ∀ (j : Nat) (y : β), ys[j]? = some y → ∃ x, xs[j]? = some x ∧ F x y) (h : atI ys i = some y) : ∃ x, atI xs i = some x ∧ F x y := by
  unfold atI at h ⊢
  rw [hl]
  cases e : ixN ys.length i with
  | none => rw [e] at h; cases h
  | some j =>
    rw [e] at h
    obtain ⟨x, h1, h2⟩ := g j y h
    exact ⟨x, h1, h2⟩
theorem sim_Ix : Sim2 K (rIx K) dIxR := by
  intro G π cs H v w x y R Q A rv rw q k
  cases rv with
  | d rv =>
    cases rv with
    | lst h r =>
      obtain ⟨i, d, rfl, e, q⟩ := q
      cases rw with
      | d rw =>
        cases rw
        obtain ⟨u, h1, h2⟩ := atI_rep (F := fun v d => Dp K G v d) (DpAll.len r) (fun j y e => DpAll.get r e) e
        exact .inl ⟨_, _, i, u, rfl, rfl, A.kn.seq h, h1, k _ _ _ _ _ _ .refl A (.d h2) q⟩
    | tup h r =>
      obtain ⟨i, d, rfl, e, q⟩ := q
      cases rw with
      | d rw =>
        cases rw
        obtain ⟨u, h1, h2⟩ := atI_rep (F := fun v d => Dp K G v d) (DpAll.len r) (fun j y e => DpAll.get r e) e
        exact .inr (.inl ⟨_, _, i, u, rfl, rfl, seqT_mono A.kn h, h1, k _ _ _ _ _ _ .refl A (.d h2) q⟩)
    | str z =>
      obtain ⟨i, c, rfl, hz, e, q⟩ := q
      cases rw with
      | d rw =>
        cases rw
        exact .inr (.inr ⟨z, i, c, rfl, rfl, hz, e, k _ _ _ _ _ _ .refl A (.d (.str _)) q⟩)
    | non => exact q.elim
    | bl => exact q.elim
    | int => exact q.elim
  | ref hn =>
    obtain ⟨i, xs, x, rfl, e1, e, q⟩ := q
    cases rw with
    | d rw =>
      cases rw
      obtain ⟨_, vs, e2, rl⟩ := A.st _ _ _ hn (getC_eq e1)
      obtain ⟨u, h1, h2⟩ := atI_rep (F := fun v d => RepS K G π v d) rl.len (fun j y e => RepL.get rl e) e
      exact .inl ⟨_, _, i, u, rfl, rfl, .of e2, h1, k _ _ _ _ _ _ .refl A h2 q⟩
theorem ee_ix (ha : PE X a (upE X.K ta)) (hb : PE X b (upE X.K tb)) (hs : PlainIx b := by exact fun _ _ => rfl) : PE X (.Subscript a b pos) (upE X.K (dOp dIxR ta tb)) := (pe_ix ix_seq ha hb hs).weak (up_op sim_Ix)
/-- x[k], k written -/
def ixkR (n : Nat) : S → Sto → RK → Prop
  | .d (.list ds), cs1, R => ∃ d, ds[n]? = some d ∧ R (.d d) cs1
  | .d (.tuple ds), cs1, R => ∃ d, ds[n]? = some d ∧ R (.d d) cs1
  | .ref m, cs1, R => ∃ xs x, getC cs1 m = some xs ∧ xs[n]? = some x ∧ R x cs1
  | _, _, _ => False
def dIxK (n : Nat) (ta : TD) : TD := fun ρ cs R => ta ρ cs fun x cs1 => ixkR n x cs1 R
theorem ee_ixk {n : Nat} {j : Nat} {pos2 : Pos} {i : Int} (hi : i = (n : Int)) (ha : PE X a (upE X.K ta)) (hs : PlainIx (.Constant (.int i) j pos2) := by exact fun _ _ => rfl) :
    PE X (.Subscript a (.Constant (.int i) j pos2) pos) (upE X.K (dIxK n ta)) := by
  subst hi
  refine (pe_ix ix_seq ha ee_int hs).weak ?_
  rintro σ H Q ⟨G, π, ρ, cs, R, A, s, q, k⟩
  refine ⟨G, π, ρ, cs, _, A, s, q, fun v1 H1 x cs1 G1 π1 E1 A1 r1 q1 => ⟨G1, π1, ρ, cs1, _, A1, s.ext E1, (show dC (.int (n : Int)) ρ cs1 (fun z cs2 => z = si (n : Int) ∧ cs2 = cs1) from ⟨rfl, rfl⟩), fun v2 H2 y cs2 G2 π2 E2 A2 r2 q2 => ?_⟩⟩
  obtain ⟨rfl, rfl⟩ := q2
  refine sim_Ix G2 π2 cs2 H2 v1 v2 x _ R Q A2 (r1.ext E2) r2 ?_ fun v3 H3 z cs3 G3 π3 E3 A3 r3 q3 => k _ _ _ _ _ _ (E1.trans (E2.trans E3)) A3 r3 q3
  cases x with
  | d x =>
    cases x with
    | list ds => obtain ⟨d, e, q⟩ := q1; exact ⟨_, d, rfl, atI_nat e, q⟩
    | tuple ds => obtain ⟨d, e, q⟩ := q1; exact ⟨_, d, rfl, atI_nat e, q⟩
    | _ => exact q1.elim
  | ref m => obtain ⟨xs, x, e0, e, q⟩ := q1; exact ⟨_, xs, x, rfl, e0, atI_nat e, q⟩
/-! slices -/
abbrev TOD := Ev → Sto → (Option Int → Sto → Prop) → Prop
def upO (K : PySem.W.Frag) (t : TOD) : TO := fun σ H Q => ∃ G π ρ cs R, At K G π cs H ∧ Sl K G π σ ρ ∧ t ρ cs R ∧ ∀ o H' cs' G' π', Ext G π H G' π' H' → At K G' π' cs' H' → R o cs' → Q o H'
theorem _root_.L2.PO.weak {e : Option Expr} {t t' : TO} (h : PO X e t) (hw : ∀ σ H Q, t' σ H Q → t σ H Q) : PO X e t' := ⟨fun pins s σ H Q I q => h.run pins s σ H Q I (hw _ _ _ q)⟩
def dNoPart : TOD := fun _ cs R => R none cs
def dPart (t : TD) : TOD := fun ρ cs R => t ρ cs fun x cs1 => ∃ i, x = si i ∧ R (some i) cs1
theorem eo_none : PO X none (upO X.K dNoPart) := by
  refine po_none.weak ?_
  rintro σ H Q ⟨G, π, ρ, cs, R, A, s, q, k⟩
  exact k _ _ _ _ _ .refl A q
theorem eo_some (h : PE X e (upE X.K te)) : PO X (some e) (upO X.K (dPart te)) := by
  refine (po_some h).weak ?_
  rintro σ H Q ⟨G, π, ρ, cs, R, A, s, q, k⟩
  refine ⟨G, π, ρ, cs, _, A, s, q, fun v1 H1 x cs1 G1 π1 E1 A1 r1 q1 => ?_⟩
  obtain ⟨i, rfl, q1⟩ := q1
  cases r1 with
  | d r1 => cases r1; exact ⟨i, rfl, k _ _ _ _ _ E1 A1 q1⟩
def cutD {α : Type} (xs : List α) (lo hi : Option Int) : List α := (xs.drop (HT.sIx xs.length 0 lo)).take (HT.sIx xs.length xs.length hi - HT.sIx xs.length 0 lo)
theorem cut_whole {α : Type} {xs : List α} {lo hi : Option Int} (h1 : HT.sIx xs.length 0 lo = 0) (h2 : HT.sIx xs.length xs.length hi = xs.length) : cutD xs lo hi = xs := by
  unfold cutD
  rw [h1, h2, List.drop_zero, Nat.sub_zero, List.take_length]
def dSlR : S → Option Int → Option Int → Sto → RK → Prop
  | .d (.list ds), lo, hi, cs, R => R (.d (.list (cutD ds lo hi))) cs
  | .d (.tuple ds), lo, hi, cs, R => R (.d (.tuple (cutD ds lo hi))) cs
  | .ref n, lo, hi, cs, R => ∃ ds, getC cs n = some (ds.map S.d) ∧ R (.d (.list (cutD ds lo hi))) cs
  | _, _, _, _, _ => False
def dSl (te : TD) (tl th : TOD) : TD := fun ρ cs R => te ρ cs fun x cs1 => tl ρ cs1 fun l cs2 => th ρ cs2 fun u cs3 => dSlR x l u cs3 R
theorem cut_dp {G : Hp} {vs : List V} {ds : List PyData} (r : DpAll K G vs ds) (lo hi : Option Int) : DpAll K G (cutV vs lo hi) (cutD ds lo hi) := by
  unfold cutV cutD
  rw [DpAll.len r]
  exact DpAll.take _ (DpAll.drop _ r)
theorem ee_sl {lo hi : Option Expr} {tl th : TOD} {p2 : Pos} (he : PE X e (upE X.K te)) (hl : PO X lo (upO X.K tl)) (hu : PO X hi (upO X.K th)) : PE X (.Subscript e (.Slice lo hi none p2) pos) (upE X.K (dSl te tl th)) := by
  refine (pe_slice (sl_list.or sl_tupA) he hl hu).weak ?_
  rintro σ H Q ⟨G, π, ρ, cs, R, A, s, q, k⟩
  refine ⟨G, π, ρ, cs, _, A, s, q, fun v1 H1 x cs1 G1 π1 E1 A1 r1 q1 => ⟨G1, π1, ρ, cs1, _, A1, s.ext E1, q1, fun l H2 cs2 G2 π2 E2 A2 q2 => ⟨G2, π2, ρ, cs2, _, A2, (s.ext E1).ext E2, q2, fun u H3 cs3 G3 π3 E3 A3 q3 => ?_⟩⟩⟩
  have r3 := (r1.ext E2).ext E3
  have E := E1.trans (E2.trans E3)
  cases r3 with
  | d r =>
    cases r with
    | lst h r =>
      refine .inl ⟨_, _, rfl, A3.kn.seq h, fun p hp => ?_⟩
      obtain ⟨G4, A4, E4, r4⟩ := new_lst A3 (cut_dp r l u) hp
      exact k _ _ _ _ _ _ (E.trans E4) A4 r4 q3
    | tup h r =>
      refine .inr ⟨_, _, rfl, seqT_mono A3.kn h, fun hw => ?_, fun _ p hp => ?_⟩
      · rw [DpAll.len r] at hw
        have q3' : R (.d (.tuple (cutD _ l u))) cs3 := q3
        rw [cut_whole hw.1 hw.2] at q3'
        exact k _ _ _ _ _ _ E A3 (.d (.tup h r)) q3'
      · obtain ⟨G4, A4, E4, r4⟩ := new_tup A3 (cut_dp r l u) hp
        exact k _ _ _ _ _ _ (E.trans E4) A4 r4 q3
    | non => exact q3.elim
    | bl => exact q3.elim
    | int => exact q3.elim
    | str => exact q3.elim
  | ref hn =>
    obtain ⟨ds, e1, q3⟩ := q3
    obtain ⟨_, vs, e2, rl⟩ := A3.st _ _ _ hn (getC_eq e1)
    refine .inl ⟨_, _, rfl, .of e2, fun p hp => ?_⟩
    obtain ⟨G4, A4, E4, r4⟩ := new_lst A3 (cut_dp (dpAll_of rl) l u) hp
    exact k _ _ _ _ _ _ (E.trans E4) A4 r4 q3
end
end FL

set_option Elab.async false
set_option linter.all false
set_option maxRecDepth 100000
set_option maxHeartbeats 1000000
namespace FL
open PySem L2

section
variable {X : Cx} {K : PySem.W.Frag} {a b c e : Expr} {es : List Expr} {ta tb tc te : TD} {t : TAD} {pos p : Pos} {x : Str}

/-! ### calls of built-ins -/
def dCB (rd : RDL) (t : TAD) : TD := fun ρ cs R => t ρ cs fun xs cs1 => rd xs cs1 R
theorem up_CB {r : List V → Hp → VK → Prop} {rd : RDL} (h : SimL K r rd) : ∀ σ H Q, upE K (dCB rd t) σ H Q → tCB r (upA K t) σ H Q := by
  rintro σ H Q ⟨G, π, ρ, cs, R, A, s, q, k⟩
  refine ⟨G, π, ρ, cs, _, A, s, q, fun vs H1 xs cs1 G1 π1 E1 A1 r1 q1 => ?_⟩
  exact h G1 π1 cs1 H1 vs xs R Q A1 r1 q1 fun v3 H3 z cs3 G3 π3 E3 A3 r3 q3 => k _ _ _ _ _ _ (E1.trans E3) A3 r3 q3
theorem ee_callB {r : List V → Hp → VK → Prop} {rd : RDL} {id : String} (h : SimL X.K r rd) (hc : CallR X (.builtin id) r) (hg : Gl X x) (hm : X.mg x = none) (hv : bootBuiltins x = some (.builtin id)) (ha : PA X (e :: es) (upA X.K t)) (hn : x ≠ "__name__" := by decide) (hdb : (x == ("__debug__" : Str)) = false := by decide)
    (he : starEach (e :: es) X.env = (false, eval e X.env) :: starEach es X.env := by rfl) (hpl : (backTo pos (starEach es X.env)).any (·.1) = false := by rfl) : PE X (.Call (.Name x p) (e :: es) [] pos) (upE X.K (dCB rd t)) :=
  (pe_callB hc hg hm hv ha hn hdb he hpl).weak (up_CB h)
theorem ee_callTy {r : List V → Hp → VK → Prop} {rd : RDL} {T : String} (h : SimL X.K r rd) (hc : CallR X (.type T) r) (hg : Gl X x) (hm : X.mg x = none) (hv : bootBuiltins x = some (.type T)) (ha : PA X (e :: es) (upA X.K t)) (hn : x ≠ "__name__" := by decide) (hdb : (x == ("__debug__" : Str)) = false := by decide)
    (he : starEach (e :: es) X.env = (false, eval e X.env) :: starEach es X.env := by rfl) (hpl : (backTo pos (starEach es X.env)).any (·.1) = false := by rfl) : PE X (.Call (.Name x p) (e :: es) [] pos) (upE X.K (dCB rd t)) :=
  (pe_callTy hc hg hm hv ha hn hdb he hpl).weak (up_CB h)

theorem repL_one {G : Hp} {π : List Addr} {vs : List V} {x : S} (r : RepL K G π vs [x]) : ∃ v, vs = [v] ∧ RepS K G π v x := by
  cases r with
  | cons r rr => cases rr; exact ⟨_, rfl, r⟩
theorem repL_two {G : Hp} {π : List Addr} {vs : List V} {x y : S} (r : RepL K G π vs [x, y]) : ∃ v w, vs = [v, w] ∧ RepS K G π v x ∧ RepS K G π w y := by
  cases r with
  | cons r rr => cases rr with
    | cons r' rr => cases rr; exact ⟨_, _, rfl, r, r'⟩
theorem rep_int {G : Hp} {π : List Addr} {v : V} {i : Int} (r : RepS K G π v (si i)) : v = .int i := by
  cases r with
  | d r => cases r; rfl
theorem rep_bl {G : Hp} {π : List Addr} {v : V} {i : Bool} (r : RepS K G π v (sb i)) : v = .bl i := by
  cases r with
  | d r => cases r; rfl
/-- a list that is read: its address, its values -/
theorem rep_list {G H : Hp} {π : List Addr} {cs : Sto} {v : V} {ds : List PyData} (A : At K G π cs H) (r : RepS K G π v (.d (.list ds))) : ∃ p vs, v = .ref p ∧ SqL K H p vs ∧ DpAll K G vs ds := by
  cases r with
  | d r => cases r with
    | lst h r => exact ⟨_, _, rfl, A.kn.seq h, r⟩
theorem rep_tup {G H : Hp} {π : List Addr} {cs : Sto} {v : V} {ds : List PyData} (A : At K G π cs H) (r : RepS K G π v (.d (.tuple ds))) : ∃ p vs, v = .ref p ∧ SqT K H p vs ∧ DpAll K G vs ds := by
  cases r with
  | d r => cases r with
    | tup h r => exact ⟨_, _, rfl, seqT_mono A.kn h, r⟩
theorem rep_ref {G H : Hp} {π : List Addr} {cs : Sto} {v : V} {n : Nat} {xs : List S} (A : At K G π cs H) (r : RepS K G π v (.ref n)) (e : getC cs n = some xs) : ∃ p vs, v = .ref p ∧ π[n]? = some p ∧ H p = some (.lst vs) ∧ RepL K G π vs xs := by
  cases r with
  | ref h =>
    obtain ⟨_, vs, e2, rl⟩ := A.st _ _ _ h (getC_eq e)
    exact ⟨_, vs, rfl, h, e2, rl⟩

/-- abs(n) -/
def cAbs : RDL := fun xs cs R => ∃ i, xs = [si i] ∧ R (si (if i < 0 then -i else i)) cs
theorem sim_abs : SimL K (fun xs H Q => ∃ i, xs = [.int i] ∧ Q (.int (if i < 0 then -i else i)) H) cAbs := by
  rintro G π cs H vs xs R Q A r ⟨i, rfl, q⟩ k
  obtain ⟨v, rfl, r0⟩ := repL_one r
  rw [rep_int r0]
  exact ⟨i, rfl, k _ _ _ _ _ _ .refl A (.d (.int _)) q⟩
theorem ec_abs (hg : Gl X "abs") (hm : X.mg "abs" = none) (ha : PA X (e :: es) (upA X.K t)) (he : starEach (e :: es) X.env = (false, eval e X.env) :: starEach es X.env := by rfl) (hpl : (backTo pos (starEach es X.env)).any (·.1) = false := by rfl) :
    PE X (.Call (.Name "abs" p) (e :: es) [] pos) (upE X.K (dCB cAbs t)) := ee_callB sim_abs call_abs hg hm (by decide +kernel) ha (by decide) (by decide) he hpl
/-- max(a, b), min(a, b) -/
def cMax2 : RDL := fun xs cs R => ∃ i j, xs = [si i, si j] ∧ R (si (if j > i then j else i)) cs
def cMin2 : RDL := fun xs cs R => ∃ i j, xs = [si i, si j] ∧ R (si (if j < i then j else i)) cs
theorem sim_max2 : SimL K (fun xs H Q => ∃ i j, xs = [.int i, .int j] ∧ Q (.int (if j > i then j else i)) H) cMax2 := by
  rintro G π cs H vs xs R Q A r ⟨i, j, rfl, q⟩ k
  obtain ⟨v, w, rfl, r0, r1⟩ := repL_two r
  rw [rep_int r0, rep_int r1]
  exact ⟨i, j, rfl, k _ _ _ _ _ _ .refl A (.d (.int _)) q⟩
theorem sim_min2 : SimL K (fun xs H Q => ∃ i j, xs = [.int i, .int j] ∧ Q (.int (if j < i then j else i)) H) cMin2 := by
  rintro G π cs H vs xs R Q A r ⟨i, j, rfl, q⟩ k
  obtain ⟨v, w, rfl, r0, r1⟩ := repL_two r
  rw [rep_int r0, rep_int r1]
  exact ⟨i, j, rfl, k _ _ _ _ _ _ .refl A (.d (.int _)) q⟩
theorem ec_max2 (hc : X.calm = true) (hg : Gl X "max") (hm : X.mg "max" = none) (ha : PA X (e :: es) (upA X.K t)) (he : starEach (e :: es) X.env = (false, eval e X.env) :: starEach es X.env := by rfl) (hpl : (backTo pos (starEach es X.env)).any (·.1) = false := by rfl) :
    PE X (.Call (.Name "max" p) (e :: es) [] pos) (upE X.K (dCB cMax2 t)) := ee_callB sim_max2 (call_max2 hc) hg hm (by decide +kernel) ha (by decide) (by decide) he hpl
theorem ec_min2 (hc : X.calm = true) (hg : Gl X "min") (hm : X.mg "min" = none) (ha : PA X (e :: es) (upA X.K t)) (he : starEach (e :: es) X.env = (false, eval e X.env) :: starEach es X.env := by rfl) (hpl : (backTo pos (starEach es X.env)).any (·.1) = false := by rfl) :
    PE X (.Call (.Name "min" p) (e :: es) [] pos) (upE X.K (dCB cMin2 t)) := ee_callB sim_min2 (call_min2 hc) hg hm (by decide +kernel) ha (by decide) (by decide) he hpl
/-- int(n), int(b) -/
def cInt : RDL
  | [.d (.int i)], cs, R => R (si i) cs
  | [.d (.bool b)], cs, R => R (si (if b then 1 else 0)) cs
  | _, _, _ => False
theorem sim_int : SimL K (fun xs H Q => (∃ i, xs = [.int i] ∧ Q (.int i) H) ∨ ∃ k, xs = [.bl k] ∧ Q (.int (if k then 1 else 0)) H) cInt := by
  intro G π cs H vs xs R Q A r q k
  unfold cInt at q
  split at q
  · obtain ⟨v, rfl, r0⟩ := repL_one r
    rw [rep_int r0]
    exact .inl ⟨_, rfl, k _ _ _ _ _ _ .refl A (.d (.int _)) q⟩
  · obtain ⟨v, rfl, r0⟩ := repL_one r
    rw [rep_bl r0]
    exact .inr ⟨_, rfl, k _ _ _ _ _ _ .refl A (.d (.int _)) q⟩
  · exact q.elim
theorem ec_int (hg : Gl X "int") (hm : X.mg "int" = none) (ha : PA X (e :: es) (upA X.K t)) (he : starEach (e :: es) X.env = (false, eval e X.env) :: starEach es X.env := by rfl) (hpl : (backTo pos (starEach es X.env)).any (·.1) = false := by rfl) :
    PE X (.Call (.Name "int" p) (e :: es) [] pos) (upE X.K (dCB cInt t)) := ee_callTy sim_int call_int1 hg hm (by decide +kernel) ha (by decide) (by decide) he hpl
/-- len(x) -/
def cLen : RDL
  | [.d (.list ds)], cs, R => R (si (ds.length : Int)) cs
  | [.d (.tuple ds)], cs, R => R (si (ds.length : Int)) cs
  | [.d (.str z)], cs, R => z.length ≤ sizeLine ∧ R (si (z.length : Int)) cs
  | [.ref n], cs, R => ∃ xs, getC cs n = some xs ∧ R (si (xs.length : Int)) cs
  | _, _, _ => False
theorem sim_len : SimL K (fun xs H Q => (∃ p ys, xs = [.ref p] ∧ (SqL K H p ys ∨ SqT K H p ys) ∧ Q (.int ys.length) H) ∨ ∃ z, xs = [.str z] ∧ z.length ≤ sizeLine ∧ Q (.int z.length) H) cLen := by
  intro G π cs H vs xs R Q A r q k
  unfold cLen at q
  split at q
  · obtain ⟨v, rfl, r0⟩ := repL_one r
    obtain ⟨p, vs, rfl, h, rr⟩ := rep_list A r0
    exact .inl ⟨p, vs, rfl, .inl h, by rw [DpAll.len rr]; exact k _ _ _ _ _ _ .refl A (.d (.int _)) q⟩
  · obtain ⟨v, rfl, r0⟩ := repL_one r
    obtain ⟨p, vs, rfl, h, rr⟩ := rep_tup A r0
    exact .inl ⟨p, vs, rfl, .inr h, by rw [DpAll.len rr]; exact k _ _ _ _ _ _ .refl A (.d (.int _)) q⟩
  · obtain ⟨v, rfl, r0⟩ := repL_one r
    cases r0 with
    | d r => cases r; exact .inr ⟨_, rfl, q.1, k _ _ _ _ _ _ .refl A (.d (.int _)) q.2⟩
  · obtain ⟨v, rfl, r0⟩ := repL_one r
    obtain ⟨ys, e, q⟩ := q
    obtain ⟨p, vs, rfl, _, h, rr⟩ := rep_ref A r0 e
    exact .inl ⟨p, vs, rfl, .inl (.of h), by rw [rr.len]; exact k _ _ _ _ _ _ .refl A (.d (.int _)) q⟩
  · exact q.elim
theorem ec_len (hg : Gl X "len") (hm : X.mg "len" = none) (ha : PA X (e :: es) (upA X.K t)) (he : starEach (e :: es) X.env = (false, eval e X.env) :: starEach es X.env := by rfl) (hpl : (backTo pos (starEach es X.env)).any (·.1) = false := by rfl) :
    PE X (.Call (.Name "len" p) (e :: es) [] pos) (upE X.K (dCB cLen t)) := ee_callB sim_len (call_len_seq.or call_len_str) hg hm PySem.boot_len ha (by decide) (by decide) he hpl
/-- sum(xs) of ints -/
def intsOf : List PyData → Option (List Int)
  | [] => some []
  | .int i :: r => (intsOf r).map (i :: ·)
  | _ :: _ => none
theorem intsOf_eq : ∀ {ds : List PyData} {ns : List Int}, intsOf ds = some ns → ds = ns.map PyData.int
  | [], ns, h => by cases h; rfl
  | d :: r, ns, h => by
    cases d <;> try (cases h; done)
    unfold intsOf at h
    cases e : intsOf r with
    | none => rw [e] at h; cases h
    | some es => rw [e] at h; cases h; rw [List.map_cons, ← intsOf_eq e]
theorem intsOf_map (ns : List Int) : intsOf (ns.map PyData.int) = some ns := by
  induction ns with
  | nil => rfl
  | cons d ds ih => rw [List.map_cons, intsOf, ih]; rfl
theorem dp_ints {G : Hp} : ∀ {ns : List Int} {vs : List V}, DpAll K G vs (ns.map PyData.int) → vs = ns.map V.int
  | [], _, h => by cases h; rfl
  | n :: ns, _, h => by
    cases h with
    | cons h r => cases h; rw [dp_ints r]; rfl
def cSum : RDL
  | [.d (.list ds)], cs, R => ∃ ns, intsOf ds = some ns ∧ R (si ns.sum) cs
  | [.ref n], cs, R => ∃ xs ds ns, getC cs n = some xs ∧ datas xs = some ds ∧ intsOf ds = some ns ∧ R (si ns.sum) cs
  | _, _, _ => False
theorem sim_sum : SimL K (rSum K) cSum := by
  intro G π cs H vs xs R Q A r q k
  unfold cSum at q
  split at q
  · obtain ⟨ns, e, q⟩ := q
    obtain ⟨v, rfl, r0⟩ := repL_one r
    obtain ⟨p, vs, rfl, h, rr⟩ := rep_list A r0
    rw [intsOf_eq e] at rr
    rw [dp_ints rr] at h
    exact ⟨p, ns, rfl, h, k _ _ _ _ _ _ .refl A (.d (.int _)) q⟩
  · obtain ⟨ys, ds, ns, e, e2, e3, q⟩ := q
    obtain ⟨v, rfl, r0⟩ := repL_one r
    obtain ⟨p, vs, rfl, _, h, rr⟩ := rep_ref A r0 e
    rw [datas_eq e2] at rr
    have rr := dpAll_of rr
    rw [intsOf_eq e3] at rr
    rw [dp_ints rr] at h
    exact ⟨p, ns, rfl, .of h, k _ _ _ _ _ _ .refl A (.d (.int _)) q⟩
  · exact q.elim
theorem ec_sum (hc : X.calm = true) (hg : Gl X "sum") (hm : X.mg "sum" = none) (ha : PA X (e :: es) (upA X.K t)) (he : starEach (e :: es) X.env = (false, eval e X.env) :: starEach es X.env := by rfl) (hpl : (backTo pos (starEach es X.env)).any (·.1) = false := by rfl) :
    PE X (.Call (.Name "sum" p) (e :: es) [] pos) (upE X.K (dCB cSum t)) := ee_callB sim_sum (cr_sum hc) hg hm (by decide +kernel) ha (by decide) (by decide) he hpl
/-- tuple(x) -/
def cTup : RDL
  | [.d (.list ds)], cs, R => R (.d (.tuple ds)) cs
  | [.d (.tuple ds)], cs, R => R (.d (.tuple ds)) cs
  | [.ref n], cs, R => ∃ xs ds, getC cs n = some xs ∧ datas xs = some ds ∧ R (.d (.tuple ds)) cs
  | _, _, _ => False
theorem sim_tupC : SimL K (fun xs H Q => ∃ p ys, xs = [.ref p] ∧ ((SqL K H p ys ∧ ∀ l, H l = none → Q (.ref l) (upd H l (.tup ys))) ∨ (SqT K H p ys ∧ Q (.ref p) H))) cTup := by
  intro G π cs H vs xs R Q A r q k
  unfold cTup at q
  split at q
  · obtain ⟨v, rfl, r0⟩ := repL_one r
    obtain ⟨p, vs, rfl, h, rr⟩ := rep_list A r0
    refine ⟨p, vs, rfl, .inl ⟨h, fun l hl => ?_⟩⟩
    obtain ⟨G2, A2, E2, r2⟩ := new_tup A rr hl
    exact k _ _ _ _ _ _ E2 A2 r2 q
  · obtain ⟨v, rfl, r0⟩ := repL_one r
    obtain ⟨p, vs, rfl, h, rr⟩ := rep_tup A r0
    exact ⟨p, vs, rfl, .inr ⟨h, k _ _ _ _ _ _ .refl A r0 q⟩⟩
  · obtain ⟨ys, ds, e, e2, q⟩ := q
    obtain ⟨v, rfl, r0⟩ := repL_one r
    obtain ⟨p, vs, rfl, _, h, rr⟩ := rep_ref A r0 e
    rw [datas_eq e2] at rr
    refine ⟨p, vs, rfl, .inl ⟨.of h, fun l hl => ?_⟩⟩
    obtain ⟨G2, A2, E2, r2⟩ := new_tup A (dpAll_of rr) hl
    exact k _ _ _ _ _ _ E2 A2 r2 q
  · exact q.elim
theorem ec_tuple (hg : Gl X "tuple") (hm : X.mg "tuple" = none) (ha : PA X (e :: es) (upA X.K t)) (he : starEach (e :: es) X.env = (false, eval e X.env) :: starEach es X.env := by rfl) (hpl : (backTo pos (starEach es X.env)).any (·.1) = false := by rfl) :
    PE X (.Call (.Name "tuple" p) (e :: es) [] pos) (upE X.K (dCB cTup t)) := ee_callTy sim_tupC call_tuple_of hg hm (by decide +kernel) ha (by decide) (by decide) he hpl
/-- list(x): a new list; one that will be written -/
def cList : RDL
  | [.d (.list ds)], cs, R => R (.d (.list ds)) cs
  | [.d (.tuple ds)], cs, R => R (.d (.list ds)) cs
  | [.ref n], cs, R => ∃ xs ds, getC cs n = some xs ∧ datas xs = some ds ∧ R (.d (.list ds)) cs
  | _, _, _ => False
def cListM : RDL
  | [.d (.list ds)], cs, R => R (.ref cs.length) (cs ++ [some (ds.map S.d)])
  | [.d (.tuple ds)], cs, R => R (.ref cs.length) (cs ++ [some (ds.map S.d)])
  | [.ref n], cs, R => ∃ xs, getC cs n = some xs ∧ R (.ref cs.length) (cs ++ [some xs])
  | _, _, _ => False
abbrev rListOf (K : PySem.W.Frag) : List V → Hp → VK → Prop := fun xs H Q => ∃ p ys, xs = [.ref p] ∧ (SqL K H p ys ∨ SqT K H p ys) ∧ ∀ l, H l = none → Q (.ref l) (upd H l (.lst ys))
theorem sim_listC : SimL K (rListOf K) cList := by
  intro G π cs H vs xs R Q A r q k
  unfold cList at q
  split at q
  · obtain ⟨v, rfl, r0⟩ := repL_one r
    obtain ⟨p, vs, rfl, h, rr⟩ := rep_list A r0
    refine ⟨p, vs, rfl, .inl h, fun l hl => ?_⟩
    obtain ⟨G2, A2, E2, r2⟩ := new_lst A rr hl
    exact k _ _ _ _ _ _ E2 A2 r2 q
  · obtain ⟨v, rfl, r0⟩ := repL_one r
    obtain ⟨p, vs, rfl, h, rr⟩ := rep_tup A r0
    refine ⟨p, vs, rfl, .inr h, fun l hl => ?_⟩
    obtain ⟨G2, A2, E2, r2⟩ := new_lst A rr hl
    exact k _ _ _ _ _ _ E2 A2 r2 q
  · obtain ⟨ys, ds, e, e2, q⟩ := q
    obtain ⟨v, rfl, r0⟩ := repL_one r
    obtain ⟨p, vs, rfl, _, h, rr⟩ := rep_ref A r0 e
    rw [datas_eq e2] at rr
    refine ⟨p, vs, rfl, .inl (.of h), fun l hl => ?_⟩
    obtain ⟨G2, A2, E2, r2⟩ := new_lst A (dpAll_of rr) hl
    exact k _ _ _ _ _ _ E2 A2 r2 q
  · exact q.elim
theorem sim_listM : SimL K (rListOf K) cListM := by
  intro G π cs H vs xs R Q A r q k
  unfold cListM at q
  split at q
  · obtain ⟨v, rfl, r0⟩ := repL_one r
    obtain ⟨p, vs, rfl, h, rr⟩ := rep_list A r0
    refine ⟨p, vs, rfl, .inl h, fun l hl => ?_⟩
    obtain ⟨A2, E2, r2⟩ := new_cell A (repL_d rr) hl
    exact k _ _ _ _ _ _ E2 A2 r2 q
  · obtain ⟨v, rfl, r0⟩ := repL_one r
    obtain ⟨p, vs, rfl, h, rr⟩ := rep_tup A r0
    refine ⟨p, vs, rfl, .inr h, fun l hl => ?_⟩
    obtain ⟨A2, E2, r2⟩ := new_cell A (repL_d rr) hl
    exact k _ _ _ _ _ _ E2 A2 r2 q
  · obtain ⟨ys, e, q⟩ := q
    obtain ⟨v, rfl, r0⟩ := repL_one r
    obtain ⟨p, vs, rfl, _, h, rr⟩ := rep_ref A r0 e
    refine ⟨p, vs, rfl, .inl (.of h), fun l hl => ?_⟩
    obtain ⟨A2, E2, r2⟩ := new_cell A rr hl
    exact k _ _ _ _ _ _ E2 A2 r2 q
  · exact q.elim
theorem ec_list (hg : Gl X "list") (hm : X.mg "list" = none) (ha : PA X (e :: es) (upA X.K t)) (he : starEach (e :: es) X.env = (false, eval e X.env) :: starEach es X.env := by rfl) (hpl : (backTo pos (starEach es X.env)).any (·.1) = false := by rfl) :
    PE X (.Call (.Name "list" p) (e :: es) [] pos) (upE X.K (dCB cList t)) := ee_callTy sim_listC call_list_of hg hm (by decide +kernel) ha (by decide) (by decide) he hpl
theorem ec_listM (hg : Gl X "list") (hm : X.mg "list" = none) (ha : PA X (e :: es) (upA X.K t)) (he : starEach (e :: es) X.env = (false, eval e X.env) :: starEach es X.env := by rfl) (hpl : (backTo pos (starEach es X.env)).any (·.1) = false := by rfl) :
    PE X (.Call (.Name "list" p) (e :: es) [] pos) (upE X.K (dCB cListM t)) := ee_callTy sim_listM call_list_of hg hm (by decide +kernel) ha (by decide) (by decide) he hpl
/-- isinstance(x, T), T a built-in class by its name -/
inductive Bt where
  | bool | int | str | list | tuple
def Bt.nm : Bt → String
  | .bool => "bool" | .int => "int" | .str => "str" | .list => "list" | .tuple => "tuple"
inductive Tg where
  | non | bool | int | str | list | tuple | dict
def Tg.nm : Tg → String
  | .non => "NoneType" | .bool => "bool" | .int => "int" | .str => "str" | .list => "list" | .tuple => "tuple" | .dict => "dict"
def tab : Tg → Bt → Bool
  | .bool, .bool => true
  | .bool, .int => true
  | .int, .int => true
  | .str, .str => true
  | .list, .list => true
  | .tuple, .tuple => true
  | _, _ => false
theorem kitTab (t : Tg) (T : Bt) : kitB t.nm T.nm = some (tab t T) := by cases t <;> cases T <;> decide +kernel
def tgOf : S → Tg
  | .d .none => .non
  | .d (.bool _) => .bool
  | .d (.int _) => .int
  | .d (.str _) => .str
  | .d (.list _) => .list
  | .d (.tuple _) => .tuple
  | .d (.dict _) => .dict
  | .ref _ => .list
def isTy (T : Bt) (x : S) : Bool := tab (tgOf x) T
def dIsi (T : Bt) (ta : TD) : TD := fun ρ cs R => ta ρ cs fun x cs1 => (∀ n, x = .ref n → ∃ xs, getC cs1 n = some xs) ∧ R (sb (isTy T x)) cs1
theorem tyx_l {H : Hp} {p : Addr} {vs : List V} (h : SqL K H p vs) : TyX K H (.ref p) (.type "list") := by
  rcases h with (h | ⟨o, h⟩) | ⟨o, its, n, h, hc, _⟩
  · exact .base (.lst h)
  · exact .base (.frz h)
  · exact .kList h hc
theorem tyx_t {H : Hp} {p : Addr} {vs : List V} (h : SqT K H p vs) : TyX K H (.ref p) (.type "tuple") := by
  rcases h with (h | ⟨o, h⟩) | ⟨o, its, n, h, hc, _⟩
  · exact .base (.tup h)
  · exact .fTuple h
  · exact .kTuple h hc
theorem isi_of {G H : Hp} {π : List Addr} {cs : Sto} {v : V} {x : S} (T : Bt) (A : At K G π cs H) (r : RepS K G π v x) (hx : ∀ n, x = .ref n → ∃ xs, getC cs n = some xs) : ∃ t, TyX K H v t ∧ PySem.W.kitOne K t (.type T.nm) = some (isTy T x) := by
  cases r with
  | d r =>
    cases r with
    | non => exact ⟨.type "NoneType", .base .non, kit_ty (kitTab .non T)⟩
    | bl b => exact ⟨.type "bool", .base (.bl b), kit_ty (kitTab .bool T)⟩
    | int i => exact ⟨.type "int", .base (.int i), kit_ty (kitTab .int T)⟩
    | str z => exact ⟨.type "str", .base (.str z), kit_ty (kitTab .str T)⟩
    | lst h r => exact ⟨.type "list", tyx_l (A.kn.seq h), kit_ty (kitTab .list T)⟩
    | tup h r => exact ⟨.type "tuple", tyx_t (seqT_mono A.kn h), kit_ty (kitTab .tuple T)⟩
  | ref h =>
    obtain ⟨xs, e⟩ := hx _ rfl
    obtain ⟨_, vs, e2, rl⟩ := A.st _ _ _ h (getC_eq e)
    exact ⟨.type "list", tyx_l (.of e2), kit_ty (kitTab .list T)⟩
theorem ee_isi {y : Str} {pp : Pos} (T : Bt) (hg : Gl X "isinstance") (hm : X.mg "isinstance" = none) (hgy : Gl X y) (hmy : X.mg y = none) (hvy : bootBuiltins y = some (.type T.nm)) (ha : PE X a (upE X.K ta)) (hny : y ≠ "__name__" := by decide) (hdy : (y == ("__debug__" : Str)) = false := by decide)
    (h1 : starEach [.Name y pp] X.env = (false, eval (.Name y pp) X.env) :: starEach [] X.env := by rfl)
    (h2 : starEach [a, .Name y pp] X.env = (false, eval a X.env) :: starEach [.Name y pp] X.env := by rfl) (hpl : (backTo pos (starEach [.Name y pp] X.env)).any (·.1) = false := by rfl) :
    PE X (.Call (.Name "isinstance" p) [a, .Name y pp] [] pos) (upE X.K (dIsi T ta)) := by
  have hb : PE X (.Name y pp) (tC (.ty T.nm)) := pe_bltn hgy hmy hvy rfl hny hdy
  refine (pe_callB call_isi hg hm (by decide +kernel) (pa_cons ha (pa_cons hb pa_nil h1) h2) (by decide) (by decide) h2 hpl).weak ?_
  rintro σ H Q ⟨G, π, ρ, cs, R, A, s, q, k⟩
  refine ⟨G, π, ρ, cs, _, A, s, q, fun v1 H1 x cs1 G1 π1 E1 A1 r1 q1 => ?_⟩
  obtain ⟨t, ty, e⟩ := isi_of T A1 r1 q1.1
  exact ⟨v1, .ty T.nm, t, .type T.nm, _, rfl, .ty _, ty, e, k _ _ _ _ _ _ E1 A1 (.d (.bl _)) q1.2⟩
/-- tuples added -/
def qCatT : RD2 := fun x y cs R => ∃ ds es, x = .d (.tuple ds) ∧ y = .d (.tuple es) ∧ ds.length + es.length ≤ sizeLine ∧ R (.d (.tuple (ds ++ es))) cs
theorem sim_catT : Sim2 K (rCatA K) qCatT := by
  rintro G π cs H v w x y R Q A rv rw ⟨ds, es, rfl, rfl, hz, q⟩ k
  obtain ⟨a, vs, rfl, h, r⟩ := rep_tup A rv
  obtain ⟨b, ws, rfl, h', r'⟩ := rep_tup A rw
  refine ⟨a, b, vs, ws, rfl, rfl, h, h', by rw [DpAll.len r, DpAll.len r']; exact hz, fun e => ?_, fun _ e => ?_, fun _ _ p hp => ?_⟩
  · subst e
    cases r
    exact k _ _ _ _ _ _ .refl A rw q
  · subst e
    cases r'
    rw [List.append_nil] at q
    exact k _ _ _ _ _ _ .refl A rv q
  · obtain ⟨G2, A2, E2, r2⟩ := new_tup A (DpAll.app r r') hp
    exact k _ _ _ _ _ _ E2 A2 r2 q
def qCatL : RD2 := fun x y cs R => ∃ ds es, x = .d (.list ds) ∧ y = .d (.list es) ∧ ds.length ≤ sizeLine ∧ es.length ≤ sizeLine ∧ ds.length + es.length ≤ sizeLine ∧ R (.d (.list (ds ++ es))) cs
theorem op_or_add {r r' : R2} (h : OpR X (binaryOp .Add) r) (h' : OpR X (binaryOp .Add) r') : OpR X (binaryOp .Add) (fun x y H Q => r x y H Q ∨ r' x y H Q) := h.or h'
/-- a + b of ints or of tuples -/
def qAddA : RD2 := fun x y cs R => match x with
  | .d (.int i) => ∃ j, y = si j ∧ R (si (i + j)) cs
  | .d (.tuple ds) => ∃ es, y = .d (.tuple es) ∧ ds.length + es.length ≤ sizeLine ∧ R (.d (.tuple (ds ++ es))) cs
  | _ => False
theorem ee_catT (ha : PE X a (upE X.K ta)) (hb : PE X b (upE X.K tb)) : PE X (.BinOp a .Add b pos) (upE X.K (dOp qCatT ta tb)) := ee_op sim_catT op_catA ha hb

/-! ### calls of defs -/
/-- a def's promise over data: n arguments -/
abbrev DSp := List S → Sto → RK → Prop
def spD (K : PySem.W.Frag) (n : Nat) (T : DSp) : Sp := fun vs H Q _ => vs.length = n ∧ ∃ G π cs xs R, At K G π cs H ∧ RepL K G π vs xs ∧ T xs cs R ∧ ∀ v H' x cs' G' π', Ext G π H G' π' H' → At K G' π' cs' H' → RepS K G' π' v x → R x cs' → Q v H'
def dCall (n : Nat) (T : DSp) (t : TAD) : TD := fun ρ cs R => t ρ cs fun xs cs1 => xs.length = n ∧ T xs cs1 R
theorem up_call {n : Nat} {T : DSp} {E : XK} : ∀ σ H Q, upE K (dCall n T t) σ H Q → tCall (spD K n T) [] E (upA K t) σ H Q := by
  rintro σ H Q ⟨G, π, ρ, cs, R, A, s, q, k⟩
  refine ⟨G, π, ρ, cs, _, A, s, q, fun vs H1 xs cs1 G1 π1 E1 A1 r1 q1 => ?_⟩
  show spD K n T (vs ++ []) H1 Q E
  rw [List.append_nil]
  exact ⟨by rw [r1.len]; exact q1.1, G1, π1, cs1, xs, R, A1, r1, q1.2, fun v H' z cs' G' π' E' A' r' q' => k _ _ _ _ _ _ (E1.trans E') A' r' q'⟩
/-- a def of the module, as it stands: where, what it promises -/
structure DefAt (P : Program) (w : World) (K : PySem.W.Frag) (mg : Str → Option Value) (base : Heap) (k : Nat) (nm : Str) (ps : List Str) (T : DSp) : Prop where
  ex : ∃ f fd, FnOk P w K mg base CX0 k f fd ps (spD K ps.length T) ∧ mg nm = some (.ref f) ∧ PySem.W.keepIn K (.ref f) = true ∧ Binds K fd ps []
theorem ee_call {k j n : Nat} {nm : Str} {ps : List Str} {T : DSp} (D : DefAt X.prog X.w X.K X.mg X.base k nm ps T) (hr : Room j X.A) (hj : k ≤ j) (hg : Gl X nm) (ha : PA X (e :: es) (upA X.K t)) (hdb : (nm == ("__debug__" : Str)) = false := by decide)
    (he : starEach (e :: es) X.env = (false, eval e X.env) :: starEach es X.env := by rfl) (hpl : (backTo pos (starEach es X.env)).any (·.1) = false := by rfl) (hn : ps.length = n := by rfl) : PE X (.Call (.Name nm p) (e :: es) [] pos) (upE X.K (dCall n T t)) :=
  hn ▸ let ⟨_, _, F, hm, hk, hb⟩ := D.ex
  (pe_call F (hr.mono hj) hg hm hk hb .nil pass0 ha hdb he hpl).weak up_call
theorem ee_call0 {k j : Nat} {nm : Str} {T : DSp} (D : DefAt X.prog X.w X.K X.mg X.base k nm [] T) (hr : Room j X.A) (hj : k ≤ j) (hg : Gl X nm) (hdb : (nm == ("__debug__" : Str)) = false := by decide) : PE X (.Call (.Name nm p) [] [] pos) (upE X.K (dCall 0 T dNil)) :=
  let ⟨_, _, F, hm, hk, hb⟩ := D.ex
  (pe_call0 F (hr.mono hj) hg hm hk hb .nil pass0 hdb).weak (by
    rintro σ H Q ⟨G, π, ρ, cs, R, A, s, q, k⟩
    exact ⟨rfl, G, π, cs, [], R, A, .nil, q.2, k⟩)
end
end FL

set_option Elab.async false
set_option linter.all false
set_option maxRecDepth 100000
set_option maxHeartbeats 1000000
namespace FL
open PySem L2 RZ

section
variable {X : Cx} {K : PySem.W.Frag} {a b c e tg : Expr} {es : List Expr} {ta tb tc te : TD} {t : TAD} {pos p : Pos} {x : Str}

/-! ### targets -/
theorem Chg.refl {is : List Nat} {σ : L2.St} : Chg is σ σ := ⟨rfl, fun _ _ => rfl⟩
theorem Chg.trans {is : List Nat} {σ σ1 σ2 : L2.St} (a : Chg is σ σ1) (b : Chg is σ1 σ2) : Chg is σ σ2 := ⟨b.1.trans a.1, fun i h => (b.2 i h).trans (a.2 i h)⟩
theorem Chg.mono {is js : List Nat} {σ σ1 : L2.St} (a : Chg is σ σ1) (h : ∀ i ∈ is, i ∈ js) : Chg js σ σ1 := ⟨a.1, fun i hi => a.2 i fun z => hi (h i z)⟩
theorem Chg.set {i : Nat} {σ : L2.St} {v : Option V} : Chg [i] σ (σ.set i v) := ⟨by simp, fun j hj => by rw [List.getElem?_set_ne]; intro e; exact hj (by simp [e])⟩
theorem wipe_get {σ : L2.St} {j : Nat} : ∀ {vs : List Nat}, (wipe σ vs)[j]? = if j ∈ vs ∧ j < σ.length then some none else σ[j]?
  | [] => by simp [wipe]
  | v :: vs => by
    unfold wipe
    by_cases h : v = j
    · subst h
      by_cases hl : v < σ.length
      · rw [List.getElem?_set_self (by rw [wipe_length]; exact hl)]; simp [hl]
      · rw [List.getElem?_eq_none (by rw [List.length_set, wipe_length]; omega)]
        simp [hl, List.getElem?_eq_none (Nat.le_of_not_lt hl)]
    · rw [List.getElem?_set_ne h, wipe_get (vs := vs)]
      have : j ≠ v := fun e => h e.symm
      simp [this]
theorem Chg.wipe {vs is : List Nat} {σ σ' : L2.St} (h : Chg is (L2.wipe σ vs) σ') (hs : ∀ i ∈ is, i ∈ vs) : L2.wipe σ' vs = L2.wipe σ vs := by
  have hl : σ'.length = σ.length := by rw [h.1, wipe_length]
  refine List.ext_getElem? fun j => ?_
  rw [wipe_get, wipe_get, hl]
  by_cases hj : j ∈ vs ∧ j < σ.length
  · rw [if_pos hj, if_pos hj]
  · rw [if_neg hj, if_neg hj]
    by_cases hv : j ∈ vs
    · have : ¬ j < σ.length := fun z => hj ⟨hv, z⟩
      rw [List.getElem?_eq_none (by omega), List.getElem?_eq_none (by omega)]
    · rw [h.2 j fun z => hv (hs j z), wipe_get, if_neg hj]
abbrev TGsD := List S → Ev → Sto → (Ev → Sto → Prop) → Prop
def dgName (i : Nat) : TGD := fun x ρ cs R => R (ρ.set i (some x)) cs
def dgNil : TGsD := fun xs ρ cs R => xs = [] ∧ R ρ cs
def dgCons (g : TGD) (gs : TGsD) : TGsD := fun xs ρ cs R => match xs with
  | x :: r => g x ρ cs fun ρ1 cs1 => gs r ρ1 cs1 R
  | [] => False
def dgTup (n : Nat) (gs : TGsD) : TGD
  | .d (.tuple ds), ρ, cs, R => ds.length = n ∧ gs (ds.map S.d) ρ cs R
  | _, _, _, _ => False
/-- o[i] = v, o a cell -/
def dgSub (to ti : TD) : TGD := fun v ρ cs R => to ρ cs fun o cs1 => ti ρ cs1 fun i cs2 => match o with
  | .ref n => ∃ k j xs, i = si k ∧ getC cs2 n = some xs ∧ ixN xs.length k = some j ∧ R ρ (cs2.set n (some (xs.set j v)))
  | _ => False
theorem eg_name {i : Nat} {x : Str} (hN : X.N.Nodup) (hi : X.N[i]? = some x) (hx : Loc X.env.scope x) (hf : X.fn x = true ∨ X.env.scope.names.lookup x = some .local := by first | exact .inl rfl | exact .inr rfl | assumption) : PG X (.Name x pos) (upG X.K [i] (dgName i)) := by
  refine (pg_name hN hi hx hf).weak ?_
  rintro v σ H Q ⟨G, π, ρ, cs, y, R, A, s, r, q, k⟩
  exact k _ _ _ _ _ _ .refl A (s.set i r) Chg.set q
theorem egs_nil {is : List Nat} : PGs X [] (upGs X.K is dgNil) := by
  refine ⟨fun pins s σ H vs us Q I rv h => ?_⟩
  obtain ⟨G, π, ρ, cs, xs, R, A, sl, r, ⟨rfl, q⟩, k⟩ := h
  cases r
  exact (pgs_nil (X := X)).run pins s σ H [] us Q I rv ⟨rfl, k _ _ _ _ _ _ .refl A sl .refl q⟩
theorem egs_cons {es : List Expr} {g : TGD} {gs : TGsD} {is js ks : List Nat} (h1 : PG X e (upG X.K is g)) (h2 : PGs X es (upGs X.K js gs)) (hi : ∀ i ∈ is, i ∈ ks) (hj : ∀ i ∈ js, i ∈ ks)
    (hs : (assignEach (e :: es) X.env).map (·.2) = assign e X.env :: (assignEach es X.env).map (·.2) := by rfl) : PGs X (e :: es) (upGs X.K ks (dgCons g gs)) := by
  refine ⟨fun pins s σ H vs us Q I rv h => ?_⟩
  obtain ⟨G, π, ρ, cs, xs, R, A, sl, r, q, k⟩ := h
  cases r with
  | nil => exact q.elim
  | cons r rr =>
    refine (pgs_cons h1 h2 hs).run pins s σ H _ us Q I rv ⟨_, _, rfl, G, π, ρ, cs, _, _, A, sl, r, q, fun σ1 H1 ρ1 cs1 G1 π1 E1 A1 s1 c1 q1 => ?_⟩
    exact ⟨G1, π1, ρ1, cs1, _, R, A1, s1, RepL.ext E1 rr, q1, fun σ2 H2 ρ2 cs2 G2 π2 E2 A2 s2 c2 q2 => k _ _ _ _ _ _ (E1.trans E2) A2 s2 ((c1.mono hi).trans (c2.mono hj)) q2⟩
theorem eg_tup {es : List Expr} {k : Nat} {gs : TGsD} {n : Nat} {is : List Nat} (hc : X.calm = true) (h : PGs X es (upGs X.K is gs))
    (hn : (assignEach es X.env).length = n := by rfl) (hst : (assignEach es X.env).findIdx? (·.1) = none := by rfl) : PG X (.Tuple es k pos) (upG X.K is (dgTup n gs)) := by
  refine (pg_tup hc h hn hst).weak ?_
  rintro v σ H Q ⟨G, π, ρ, cs, y, R, A, s, r, q, k⟩
  cases y with
  | ref n => exact q.elim
  | d y =>
    cases y <;> try (exact q.elim; done)
    obtain ⟨p, vs, rfl, h1, h2⟩ := rep_tup A r
    exact ⟨p, vs, rfl, h1, by rw [DpAll.len h2]; exact q.1, G, π, ρ, cs, _, R, A, s, repL_d h2, q.2, k⟩
theorem eg_sub {o i : Expr} {to ti : TD} (ho : PE X o (upE X.K to)) (hi : PE X i (upE X.K ti))
    (ha : ∀ v, assign (.Subscript o i pos) X.env v = (do
      let ov ← holding [v] (eval o X.env)
      let iv ← holding [v, ov] (eval i X.env)
      standAt pos
      holding [v, ov, iv] (setItem ov iv v)
      release [v, ov, iv] []) := by intro _; rfl) : PG X (.Subscript o i pos) (upG X.K [] (dgSub to ti)) := by
  refine (pg_sub ho hi set_list ha).weak ?_
  rintro v σ H Q ⟨G, π, ρ, cs, y, R, A, s, r, q, k⟩
  refine ⟨G, π, ρ, cs, _, A, s, q, fun v1 H1 x cs1 G1 π1 E1 A1 r1 q1 => ⟨G1, π1, ρ, cs1, _, A1, s.ext E1, q1, fun v2 H2 z cs2 G2 π2 E2 A2 r2 q2 => ?_⟩⟩
  have E := E1.trans E2
  cases x with
  | d _ => exact q2.elim
  | ref n =>
    obtain ⟨kk, j, xs, rfl, e1, e2, q2⟩ := q2
    obtain ⟨p, vs, rfl, h3, h4, h5⟩ := rep_ref A2 (r1.ext E2) e1
    rw [rep_int r2]
    obtain ⟨A3, E3⟩ := A2.put h3 (getC_eq e1) (RepL.set j h5 (r.ext E))
    refine ⟨p, vs, kk, j, rfl, rfl, h4, by rw [h5.len]; exact e2, k _ _ _ _ _ _ (E.trans E3) A3 (s.ext (E.trans E3)) .refl q2⟩

/-! ### what is walked -/
structure Src where
  its : List S
  ok : Sto → Prop
abbrev TID := Ev → Sto → (Src → Sto → Prop) → Prop
structure ItRep (K : PySem.W.Frag) (G : Hp) (π : List Addr) (J : It) (src : Src) : Prop where
  go : ∀ i x G1 π1 cs1 H1, Same G G1 → (∃ πn, π1 = π ++ πn) → At K G1 π1 cs1 H1 → src.ok cs1 → src.its[i]? = some x → J.go i H1 ∧ ∀ v H2, J.yld i H1 v H2 → ∃ G2, Ext G1 π1 H1 G2 π1 H2 ∧ At K G2 π1 cs1 H2 ∧ RepS K G2 π1 v x
  stop : ∀ i G1 π1 cs1 H1, Same G G1 → (∃ πn, π1 = π ++ πn) → At K G1 π1 cs1 H1 → src.ok cs1 → src.its.length ≤ i → J.stop i H1
def upI (K : PySem.W.Frag) (t : TID) : TI := fun σ H R => ∃ G π ρ cs Rd, At K G π cs H ∧ Sl K G π σ ρ ∧ t ρ cs Rd ∧ ∀ J src H' cs' G' π', Ext G π H G' π' H' → At K G' π' cs' H' → ItRep K G' π' J src → Rd src cs' → R J H'
theorem _root_.L2.PI.weak {tg e : Expr} {t t' : TI} (h : PI X tg e t) (hw : ∀ σ H R, t' σ H R → t σ H R) : PI X tg e t' := ⟨fun pins s σ H R I q => h.run pins s σ H R I (hw _ _ _ q)⟩
theorem _root_.L2.PI.or {tg e : Expr} {t t' : TI} (h : PI X tg e t) (h' : PI X tg e t') : PI X tg e (fun σ H R => t σ H R ∨ t' σ H R) := ⟨fun pins s σ H R I q => by
  rcases q with q | q
  · exact h.run pins s σ H R I q
  · exact h'.run pins s σ H R I q⟩
abbrev okT : Sto → Prop := fun _ => True
def itemsR : S → Sto → (Src → Sto → Prop) → Prop
  | .d (.list ds), cs1, R => R ⟨ds.map S.d, okT⟩ cs1
  | .d (.tuple ds), cs1, R => R ⟨ds.map S.d, okT⟩ cs1
  | .ref n, cs1, R => ∃ xs, getC cs1 n = some xs ∧ R ⟨xs, fun cs => getC cs n = some xs⟩ cs1
  | _, _, _ => False
def dItems (t : TD) : TID := fun ρ cs R => t ρ cs fun x cs1 => itemsR x cs1 R

structure LstRep (K : PySem.W.Frag) (G : Hp) (π : List Addr) (a : Addr) (its : List S) (ok : Sto → Prop) : Prop where
  at_ : ∀ G1 π1 cs1 H1, Same G G1 → (∃ πn, π1 = π ++ πn) → At K G1 π1 cs1 H1 → ok cs1 → ∃ vs, SqL K H1 a vs ∧ RepL K G1 π1 vs its
structure TupRep (K : PySem.W.Frag) (G : Hp) (π : List Addr) (a : Addr) (its : List S) (ok : Sto → Prop) : Prop where
  at_ : ∀ G1 π1 cs1 H1, Same G G1 → (∃ πn, π1 = π ++ πn) → At K G1 π1 cs1 H1 → ok cs1 → ∃ vs, SqT K H1 a vs ∧ RepL K G1 π1 vs its
theorem lrep_list {G : Hp} {π : List Addr} {v : V} {ds : List PyData} (r : RepS K G π v (.d (.list ds))) : ∃ a, v = .ref a ∧ LstRep K G π a (ds.map S.d) okT := by
  cases r with
  | d r => cases r with
    | lst h r => exact ⟨_, rfl, ⟨fun G1 π1 cs1 H1 e1 _ A _ => ⟨_, A.kn.seq (e1.seq h), repL_d (dpAll_mono e1 r)⟩⟩⟩
theorem lrep_tup {G : Hp} {π : List Addr} {v : V} {ds : List PyData} (r : RepS K G π v (.d (.tuple ds))) : ∃ a, v = .ref a ∧ TupRep K G π a (ds.map S.d) okT := by
  cases r with
  | d r => cases r with
    | tup h r => exact ⟨_, rfl, ⟨fun G1 π1 cs1 H1 e1 _ A _ => ⟨_, seqT_mono A.kn (seqT_mono e1 h), repL_d (dpAll_mono e1 r)⟩⟩⟩
theorem lrep_ref {G : Hp} {π : List Addr} {v : V} {n : Nat} {xs : List S} (r : RepS K G π v (.ref n)) : ∃ a, v = .ref a ∧ LstRep K G π a xs (fun cs => getC cs n = some xs) := by
  cases r with
  | ref h =>
    refine ⟨_, rfl, ⟨fun G1 π1 cs1 H1 e1 hp A ok => ?_⟩⟩
    obtain ⟨πn, rfl⟩ := hp
    obtain ⟨_, vs, e2, rl⟩ := A.st n _ xs (by rw [List.getElem?_append_left (List.getElem?_eq_some_iff.mp h).1]; exact h) (getC_eq ok)
    exact ⟨vs, .of e2, rl⟩
theorem itr_list {G : Hp} {π : List Addr} {a : Addr} {its : List S} {ok : Sto → Prop} (L : LstRep K G π a its ok) : ItRep K G π (Itl K a) ⟨its, ok⟩ where
  go := fun i x G1 π1 cs1 H1 e1 hp A o hx => by
    obtain ⟨vs, h, r⟩ := L.at_ G1 π1 cs1 H1 e1 hp A o
    obtain ⟨v, hv, rv⟩ := r.get hx
    refine ⟨⟨vs, v, h, hv⟩, fun u H2 y => ?_⟩
    obtain ⟨rfl, y⟩ := y
    have e := y vs h
    rw [hv] at e; cases e
    exact ⟨G1, .refl, A, rv⟩
  stop := fun i G1 π1 cs1 H1 e1 hp A o hl => by
    obtain ⟨vs, h, r⟩ := L.at_ G1 π1 cs1 H1 e1 hp A o
    exact ⟨vs, h, by rw [r.len]; exact hl⟩
theorem itr_tup {G : Hp} {π : List Addr} {a : Addr} {its : List S} {ok : Sto → Prop} (L : TupRep K G π a its ok) : ItRep K G π (Itt K a) ⟨its, ok⟩ where
  go := fun i x G1 π1 cs1 H1 e1 hp A o hx => by
    obtain ⟨vs, h, r⟩ := L.at_ G1 π1 cs1 H1 e1 hp A o
    obtain ⟨v, hv, rv⟩ := r.get hx
    refine ⟨⟨vs, v, h, hv⟩, fun u H2 y => ?_⟩
    obtain ⟨rfl, y⟩ := y
    have e := y vs h
    rw [hv] at e; cases e
    exact ⟨G1, .refl, A, rv⟩
  stop := fun i G1 π1 cs1 H1 e1 hp A o hl => by
    obtain ⟨vs, h, r⟩ := L.at_ G1 π1 cs1 H1 e1 hp A o
    exact ⟨vs, h, by rw [r.len]; exact hl⟩
def rgS (lo : Int) (n : Nat) : List S := (List.range n).map fun k => si (lo + (k : Nat))
theorem itr_range {G : Hp} {π : List Addr} {lo : Int} {n : Nat} : ItRep K G π (Itr lo n) ⟨rgS lo n, okT⟩ where
  go := fun i x G1 π1 cs1 H1 e1 hp A o hx => by
    unfold rgS at hx
    rw [List.getElem?_map] at hx
    have hi : i < n := by
      by_cases h : i < n
      · exact h
      · rw [List.getElem?_eq_none (by simp; omega)] at hx; cases hx
    rw [List.getElem?_range hi] at hx
    cases hx
    refine ⟨hi, fun u H2 y => ?_⟩
    obtain ⟨rfl, rfl⟩ := y
    exact ⟨G1, .refl, A, .d (.int _)⟩
  stop := fun i G1 π1 cs1 H1 e1 hp A o hl => by
    unfold rgS at hl
    show n ≤ i
    simpa using hl
def zipD (ds es : List PyData) : List S := (ds.zip es).map fun p => .d (.tuple [p.1, p.2])
theorem zip_get {ds es : List PyData} {i : Nat} {x : S} (h : (zipD ds es)[i]? = some x) : ∃ d e, ds[i]? = some d ∧ es[i]? = some e ∧ x = .d (.tuple [d, e]) := by
  unfold zipD at h
  rw [List.getElem?_map] at h
  cases q : (ds.zip es)[i]? with
  | none => rw [q] at h; cases h
  | some p =>
    rw [q] at h
    cases h
    obtain ⟨h1, h2⟩ := List.getElem?_zip_eq_some.mp q
    exact ⟨p.1, p.2, h1, h2, rfl⟩
theorem pair_new {G H : Hp} {π : List Addr} {cs : Sto} {v w : V} {d e : PyData} (A : At K G π cs H) (r : RepS K G π v (.d d)) (r' : RepS K G π w (.d e)) {T : Addr} (hT : H T = none) :
    ∃ G2, Ext G π H G2 π (upd H T (.tup [v, w])) ∧ At K G2 π cs (upd H T (.tup [v, w])) ∧ RepS K G2 π (.ref T) (.d (.tuple [d, e])) := by
  cases r with
  | d r => cases r' with
    | d r' =>
      obtain ⟨G2, A2, E2, r2⟩ := new_tup A (.cons r (.cons r' .nil)) hT
      exact ⟨G2, E2, A2, r2⟩
theorem itr_zipL {G : Hp} {π : List Addr} {a b : Addr} {ds es : List PyData} {ok ok' : Sto → Prop} (L : LstRep K G π a (ds.map S.d) ok) (L' : LstRep K G π b (es.map S.d) ok') : ItRep K G π (Itz K a b) ⟨zipD ds es, fun cs => ok cs ∧ ok' cs⟩ where
  go := fun i x G1 π1 cs1 H1 e1 hp A o hx => by
    obtain ⟨vs, h, r⟩ := L.at_ G1 π1 cs1 H1 e1 hp A o.1
    obtain ⟨ws, h', r'⟩ := L'.at_ G1 π1 cs1 H1 e1 hp A o.2
    obtain ⟨d, e, hd, he, rfl⟩ := zip_get hx
    obtain ⟨v, hv, rv⟩ := r.get (by rw [List.getElem?_map, hd]; rfl)
    obtain ⟨w, hw, rw'⟩ := r'.get (by rw [List.getElem?_map, he]; rfl)
    refine ⟨⟨vs, ws, v, w, h, h', hv, hw⟩, fun u H2 y => ?_⟩
    obtain ⟨T, x, z, rfl, hT, rfl, y1, y2⟩ := y
    have q1 := y1 vs h
    have q2 := y2 ws h'
    rw [hv] at q1; cases q1
    rw [hw] at q2; cases q2
    exact pair_new A rv rw' hT
  stop := fun i G1 π1 cs1 H1 e1 hp A o hl => by
    obtain ⟨vs, h, r⟩ := L.at_ G1 π1 cs1 H1 e1 hp A o.1
    obtain ⟨ws, h', r'⟩ := L'.at_ G1 π1 cs1 H1 e1 hp A o.2
    have l1 := r.len
    have l2 := r'.len
    unfold zipD at hl
    simp only [List.length_map, List.length_zip] at hl l1 l2
    exact ⟨vs, ws, h, h', by omega⟩
theorem itr_zipT {G : Hp} {π : List Addr} {a b : Addr} {ds es : List PyData} {ok ok' : Sto → Prop} (L : TupRep K G π a (ds.map S.d) ok) (L' : TupRep K G π b (es.map S.d) ok') : ItRep K G π (ItzT K a b) ⟨zipD ds es, fun cs => ok cs ∧ ok' cs⟩ where
  go := fun i x G1 π1 cs1 H1 e1 hp A o hx => by
    obtain ⟨vs, h, r⟩ := L.at_ G1 π1 cs1 H1 e1 hp A o.1
    obtain ⟨ws, h', r'⟩ := L'.at_ G1 π1 cs1 H1 e1 hp A o.2
    obtain ⟨d, e, hd, he, rfl⟩ := zip_get hx
    obtain ⟨v, hv, rv⟩ := r.get (by rw [List.getElem?_map, hd]; rfl)
    obtain ⟨w, hw, rw'⟩ := r'.get (by rw [List.getElem?_map, he]; rfl)
    refine ⟨⟨vs, ws, v, w, h, h', hv, hw⟩, fun u H2 y => ?_⟩
    obtain ⟨T, x, z, rfl, hT, rfl, y1, y2⟩ := y
    have q1 := y1 vs h
    have q2 := y2 ws h'
    rw [hv] at q1; cases q1
    rw [hw] at q2; cases q2
    exact pair_new A rv rw' hT
  stop := fun i G1 π1 cs1 H1 e1 hp A o hl => by
    obtain ⟨vs, h, r⟩ := L.at_ G1 π1 cs1 H1 e1 hp A o.1
    obtain ⟨ws, h', r'⟩ := L'.at_ G1 π1 cs1 H1 e1 hp A o.2
    have l1 := r.len
    have l2 := r'.len
    unfold zipD at hl
    simp only [List.length_map, List.length_zip] at hl l1 l2
    exact ⟨vs, ws, h, h', by omega⟩
def enuD (ds : List PyData) : List S := ds.zipIdx.map fun p => .d (.tuple [.int (p.2 : Nat), p.1])
theorem itr_enum {G : Hp} {π : List Addr} {a : Addr} {ds : List PyData} {ok : Sto → Prop} (L : LstRep K G π a (ds.map S.d) ok) : ItRep K G π (Ite K a) ⟨enuD ds, ok⟩ where
  go := fun i x G1 π1 cs1 H1 e1 hp A o hx => by
    obtain ⟨vs, h, r⟩ := L.at_ G1 π1 cs1 H1 e1 hp A o
    unfold enuD at hx
    rw [List.getElem?_map, List.getElem?_zipIdx] at hx
    cases q : ds[i]? with
    | none => rw [q] at hx; cases hx
    | some d =>
      rw [q] at hx
      cases hx
      obtain ⟨v, hv, rv⟩ := r.get (by rw [List.getElem?_map, q]; rfl)
      refine ⟨⟨vs, v, h, hv⟩, fun u H2 y => ?_⟩
      obtain ⟨T, x, rfl, hT, rfl, y1⟩ := y
      have q1 := y1 vs h
      rw [hv] at q1; cases q1
      have := pair_new A (d := .int ((0 + i : Nat) : Int)) (.d (.int _)) rv hT
      rw [Nat.zero_add] at this ⊢
      exact this
  stop := fun i G1 π1 cs1 H1 e1 hp A o hl => by
    obtain ⟨vs, h, r⟩ := L.at_ G1 π1 cs1 H1 e1 hp A o
    have l1 := r.len
    unfold enuD at hl
    simp only [List.length_map, List.length_zipIdx] at hl l1
    exact ⟨vs, h, by omega⟩
open PySem.Spec PyProof.Rows in
/-- what an expression hands: a list or a tuple, told behind its evaluation -/
theorem pi_seq {l : Expr} {tl : TE} (hl : PE X l tl) : PI X tg l (fun σ H R => tl σ H fun x H1 => ∃ a, x = .ref a ∧ (((∃ xs, SqL X.K H1 a xs) ∧ R (Itl X.K a) H1) ∨ ((∃ xs, SqT X.K H1 a xs) ∧ R (Itt X.K a) H1))) := by
  refine ⟨fun pins s σ H R I h => ?_⟩
  refine thn (hl.run pins s σ H _ I h) fun v s1 ⟨x, H1, I1, r1, q1⟩ => ?_
  obtain ⟨a, e, q⟩ := q1
  subst e
  cases r1
  rcases q with ⟨⟨xs, hq⟩, q⟩ | ⟨⟨xs, hq⟩, q⟩
  · obtain ⟨its, rv, p, hz⟩ := I1.list hq
    refine wpAny_pyIter_list p.isList ?_
    refine ⟨s1.heap.objs.size, [s1.heap.objs.size], _, _, H1, rfl, I1.kept (t' := s1.toks) fun b o e => Heap.get?_push_of_some _ e, turn_list a _, ⟨_, Heap.get?_push_size _ rfl, rfl, rfl⟩, fun b hb => ?_, q⟩
    have e : b = s1.heap.objs.size := by simpa using hb
    subst e
    exact I1.fpOk (Nat.le_refl _) (I1.hok.fresh (Nat.le_refl _))
  · obtain ⟨its, rv, p, hz⟩ := I1.tuple hq
    refine wpAny_pyIter_tuple (show s1.heap.IsTuple a its.toArray from p) ?_
    refine ⟨s1.heap.objs.size, [s1.heap.objs.size], _, _, H1, rfl, I1.kept (t' := s1.toks) fun b o e => Heap.get?_push_of_some _ e, turn_tuple a _, ⟨_, Heap.get?_push_size _ rfl, rfl, rfl⟩, fun b hb => ?_, q⟩
    have e : b = s1.heap.objs.size := by simpa using hb
    subst e
    exact I1.fpOk (Nat.le_refl _) (I1.hok.fresh (Nat.le_refl _))
theorem ppr {π : List Addr} : ∃ πn, π = π ++ πn := ⟨[], by simp⟩
theorem ItRep.ok_mono {G : Hp} {π : List Addr} {J : It} {its : List S} {ok ok' : Sto → Prop} (r : ItRep K G π J ⟨its, ok'⟩) (h : ∀ cs, ok cs → ok' cs) : ItRep K G π J ⟨its, ok⟩ :=
  ⟨fun i x G1 π1 cs1 H1 e1 hp A o => r.go i x G1 π1 cs1 H1 e1 hp A (h _ o), fun i G1 π1 cs1 H1 e1 hp A o => r.stop i G1 π1 cs1 H1 e1 hp A (h _ o)⟩
theorem ei_items (he : PE X e (upE X.K te)) : PI X tg e (upI X.K (dItems te)) := by
  refine (pi_seq he).weak ?_
  rintro σ H R0 ⟨G, π, ρ, cs, R, A, s, q, k⟩
  refine ⟨G, π, ρ, cs, _, A, s, q, fun v H1 x cs1 G1 π1 E1 A1 r1 q1 => ?_⟩
  cases x with
  | ref n =>
    obtain ⟨xs, e1, q1⟩ := q1
    obtain ⟨a, rfl, L⟩ := lrep_ref (xs := xs) r1
    obtain ⟨vs, h, _⟩ := L.at_ G1 π1 cs1 H1 (Same.refl _) ppr A1 e1
    exact ⟨a, rfl, .inl ⟨⟨vs, h⟩, k _ _ _ _ _ _ E1 A1 (itr_list L) q1⟩⟩
  | d x =>
    cases x <;> try (exact q1.elim; done)
    · obtain ⟨a, rfl, L⟩ := lrep_list r1
      obtain ⟨vs, h, _⟩ := L.at_ G1 π1 cs1 H1 (Same.refl _) ppr A1 trivial
      exact ⟨a, rfl, .inl ⟨⟨vs, h⟩, k _ _ _ _ _ _ E1 A1 (itr_list L) q1⟩⟩
    · obtain ⟨a, rfl, L⟩ := lrep_tup r1
      obtain ⟨vs, h, _⟩ := L.at_ G1 π1 cs1 H1 (Same.refl _) ppr A1 trivial
      exact ⟨a, rfl, .inr ⟨⟨vs, h⟩, k _ _ _ _ _ _ E1 A1 (itr_tup L) q1⟩⟩
def dRg1 (t : TAD) : TID := fun ρ cs R => t ρ cs fun xs cs1 => ∃ j : Int, xs = [si j] ∧ -(2 ^ 62) ≤ j ∧ j < 2 ^ 62 ∧ R ⟨rgS 0 j.toNat, okT⟩ cs1
def dRg2 (t : TAD) : TID := fun ρ cs R => t ρ cs fun xs cs1 => ∃ i j : Int, xs = [si i, si j] ∧ (-(2 ^ 62) ≤ i ∧ i < 2 ^ 62 ∧ -(2 ^ 62) ≤ j ∧ j < 2 ^ 62) ∧ R ⟨rgS i (j - i).toNat, okT⟩ cs1
theorem ei_rg1 (hg : Gl X "range") (hm : X.mg "range" = none) (ha : PA X [a] (upA X.K t)) (hs : starEach [a] X.env = [(false, eval a X.env)] := by rfl) : PI X tg (.Call (.Name "range" p) [a] [] pos) (upI X.K (dRg1 t)) := by
  refine (pi_range1 hg hm ha hs).weak ?_
  rintro σ H R0 ⟨G, π, ρ, cs, R, A, s, q, k⟩
  refine ⟨G, π, ρ, cs, _, A, s, q, fun vs H1 xs cs1 G1 π1 E1 A1 r1 q1 => ?_⟩
  obtain ⟨j, rfl, h1, h2, q1⟩ := q1
  obtain ⟨v, rfl, r⟩ := repL_one r1
  rw [rep_int r]
  exact ⟨j, rfl, h1, h2, k _ _ _ _ _ _ E1 A1 itr_range q1⟩
theorem ei_rg2 (hg : Gl X "range") (hm : X.mg "range" = none) (ha : PA X [a, b] (upA X.K t)) (hs : starEach [a, b] X.env = [(false, eval a X.env), (false, eval b X.env)] := by rfl) (hs2 : starEach [b] X.env = [(false, eval b X.env)] := by rfl) :
    PI X tg (.Call (.Name "range" p) [a, b] [] pos) (upI X.K (dRg2 t)) := by
  refine (pi_range2 hg hm ha hs hs2).weak ?_
  rintro σ H R0 ⟨G, π, ρ, cs, R, A, s, q, k⟩
  refine ⟨G, π, ρ, cs, _, A, s, q, fun vs H1 xs cs1 G1 π1 E1 A1 r1 q1 => ?_⟩
  obtain ⟨i, j, rfl, h, q1⟩ := q1
  obtain ⟨v, w, rfl, r, r'⟩ := repL_two r1
  rw [rep_int r, rep_int r']
  exact ⟨i, j, rfl, h, k _ _ _ _ _ _ E1 A1 itr_range q1⟩
/-- zip(x, y) -/
def dZipR : S → S → Sto → (Src → Sto → Prop) → Prop
  | .d (.tuple ds), .d (.tuple es), cs, R => R ⟨zipD ds es, okT⟩ cs
  | .d (.list ds), .d (.list es), cs, R => R ⟨zipD ds es, okT⟩ cs
  | .ref n, .d (.list es), cs, R => ∃ ds, getC cs n = some (ds.map S.d) ∧ R ⟨zipD ds es, fun c => getC c n = some (ds.map S.d) ∧ True⟩ cs
  | .d (.list ds), .ref m, cs, R => ∃ es, getC cs m = some (es.map S.d) ∧ R ⟨zipD ds es, fun c => True ∧ getC c m = some (es.map S.d)⟩ cs
  | .ref n, .ref m, cs, R => ∃ ds es, getC cs n = some (ds.map S.d) ∧ getC cs m = some (es.map S.d) ∧ R ⟨zipD ds es, fun c => getC c n = some (ds.map S.d) ∧ getC c m = some (es.map S.d)⟩ cs
  | _, _, _, _ => False
def dZip (t : TAD) : TID := fun ρ cs R => t ρ cs fun xs cs1 => match xs with
  | [x, y] => dZipR x y cs1 R
  | _ => False
theorem ei_zip {elts : List Expr} {kk : Nat} {tpos : Pos} (hg : Gl X "zip") (hm : X.mg "zip" = none) (ha : PA X [a, b] (upA X.K t))
    (hs : starEach [a, b] X.env = (false, eval a X.env) :: starEach [b] X.env := by rfl) (hpl : (backTo pos (starEach [b] X.env)).any (·.1) = false := by rfl) :
    PI X (.Tuple elts kk tpos) (.Call (.Name "zip" p) [a, b] [] pos) (upI X.K (dZip t)) := by
  refine (pi_zipA hg hm ha hs hpl).weak ?_
  rintro σ H R0 ⟨G, π, ρ, cs, R, A, s, q, k⟩
  refine ⟨G, π, ρ, cs, _, A, s, q, fun vs H1 xs cs1 G1 π1 E1 A1 r1 q1 => ?_⟩
  split at q1
  · rename_i x y
    obtain ⟨v, w, rfl, r, r'⟩ := repL_two r1
    unfold dZipR at q1
    split at q1
    · obtain ⟨a, rfl, L⟩ := lrep_tup r
      obtain ⟨b, rfl, L'⟩ := lrep_tup r'
      obtain ⟨xs, h, _⟩ := L.at_ G1 π1 cs1 H1 (Same.refl _) ppr A1 trivial
      obtain ⟨ys, h', _⟩ := L'.at_ G1 π1 cs1 H1 (Same.refl _) ppr A1 trivial
      exact ⟨a, b, xs, ys, rfl, .inr ⟨h, h', k _ _ _ _ _ _ E1 A1 ((itr_zipT L L').ok_mono fun _ _ => ⟨trivial, trivial⟩) q1⟩⟩
    · obtain ⟨a, rfl, L⟩ := lrep_list r
      obtain ⟨b, rfl, L'⟩ := lrep_list r'
      obtain ⟨xs, h, _⟩ := L.at_ G1 π1 cs1 H1 (Same.refl _) ppr A1 trivial
      obtain ⟨ys, h', _⟩ := L'.at_ G1 π1 cs1 H1 (Same.refl _) ppr A1 trivial
      exact ⟨a, b, xs, ys, rfl, .inl ⟨h, h', k _ _ _ _ _ _ E1 A1 ((itr_zipL L L').ok_mono fun _ _ => ⟨trivial, trivial⟩) q1⟩⟩
    · obtain ⟨ds, e, q1⟩ := q1
      obtain ⟨a, rfl, L⟩ := lrep_ref (xs := ds.map S.d) r
      obtain ⟨b, rfl, L'⟩ := lrep_list r'
      obtain ⟨xs, h, _⟩ := L.at_ G1 π1 cs1 H1 (Same.refl _) ppr A1 e
      obtain ⟨ys, h', _⟩ := L'.at_ G1 π1 cs1 H1 (Same.refl _) ppr A1 trivial
      exact ⟨a, b, xs, ys, rfl, .inl ⟨h, h', k _ _ _ _ _ _ E1 A1 (itr_zipL L L') q1⟩⟩
    · obtain ⟨es, e, q1⟩ := q1
      obtain ⟨a, rfl, L⟩ := lrep_list r
      obtain ⟨b, rfl, L'⟩ := lrep_ref (xs := es.map S.d) r'
      obtain ⟨xs, h, _⟩ := L.at_ G1 π1 cs1 H1 (Same.refl _) ppr A1 trivial
      obtain ⟨ys, h', _⟩ := L'.at_ G1 π1 cs1 H1 (Same.refl _) ppr A1 e
      exact ⟨a, b, xs, ys, rfl, .inl ⟨h, h', k _ _ _ _ _ _ E1 A1 (itr_zipL L L') q1⟩⟩
    · obtain ⟨ds, es, e, e', q1⟩ := q1
      obtain ⟨a, rfl, L⟩ := lrep_ref (xs := ds.map S.d) r
      obtain ⟨b, rfl, L'⟩ := lrep_ref (xs := es.map S.d) r'
      obtain ⟨xs, h, _⟩ := L.at_ G1 π1 cs1 H1 (Same.refl _) ppr A1 e
      obtain ⟨ys, h', _⟩ := L'.at_ G1 π1 cs1 H1 (Same.refl _) ppr A1 e'
      exact ⟨a, b, xs, ys, rfl, .inl ⟨h, h', k _ _ _ _ _ _ E1 A1 (itr_zipL L L') q1⟩⟩
    · exact q1.elim
  · exact q1.elim
/-- enumerate(x), x a list -/
def dEnum (t : TAD) : TID := fun ρ cs R => t ρ cs fun xs cs1 => match xs with
  | [.d (.list ds)] => R ⟨enuD ds, okT⟩ cs1
  | [.ref n] => ∃ ds, getC cs1 n = some (ds.map S.d) ∧ R ⟨enuD ds, fun c => getC c n = some (ds.map S.d)⟩ cs1
  | _ => False
theorem ei_enum {elts : List Expr} {kk : Nat} {tpos : Pos} (hg : Gl X "enumerate") (hm : X.mg "enumerate" = none) (ha : PA X [a] (upA X.K t)) (hs : starEach [a] X.env = [(false, eval a X.env)] := by rfl) :
    PI X (.Tuple elts kk tpos) (.Call (.Name "enumerate" p) [a] [] pos) (upI X.K (dEnum t)) := by
  refine (pi_enum hg hm ha hs).weak ?_
  rintro σ H R0 ⟨G, π, ρ, cs, R, A, s, q, k⟩
  refine ⟨G, π, ρ, cs, _, A, s, q, fun vs H1 xs cs1 G1 π1 E1 A1 r1 q1 => ?_⟩
  split at q1
  · obtain ⟨v, rfl, r⟩ := repL_one r1
    obtain ⟨a, rfl, L⟩ := lrep_list r
    obtain ⟨xs, h, _⟩ := L.at_ G1 π1 cs1 H1 (Same.refl _) ppr A1 trivial
    exact ⟨a, xs, rfl, h, k _ _ _ _ _ _ E1 A1 (itr_enum L) q1⟩
  · obtain ⟨v, rfl, r⟩ := repL_one r1
    obtain ⟨ds, e, q1⟩ := q1
    obtain ⟨a, rfl, L⟩ := lrep_ref (xs := ds.map S.d) r
    obtain ⟨xs, h, _⟩ := L.at_ G1 π1 cs1 H1 (Same.refl _) ppr A1 e
    exact ⟨a, xs, rfl, h, k _ _ _ _ _ _ E1 A1 (itr_enum L) q1⟩
  · exact q1.elim
end
end FL

set_option Elab.async false
set_option linter.all false
set_option maxRecDepth 100000
set_option maxHeartbeats 1000000
namespace FL
open PySem L2 RZ PyProof.Rows

section
variable {X : Cx} {K : PySem.W.Frag} {a b c e tg : Expr} {es : List Expr} {ta tb tc te : TD} {t : TAD} {tt : TTD} {pos p : Pos} {x : Str} {st : Stmt} {rest : List Stmt} {ts us : TSD}

/-! ### blocks and small statements -/
def dNext : TSD := fun d ρ cs => d.nx ρ cs
def dSeq (t u : TSD) : TSD := fun d ρ cs => t { d with nx := u d } ρ cs
theorem ess_nil : PSs X [] (upS X.K dNext) := pss_nil.weak (by
  rintro D σ H ⟨G, π, ρ, cs, d, A, s, q, C⟩
  exact C.nx _ _ _ _ _ _ .refl A s q)
theorem up_seq : ∀ D σ H, upS K (dSeq ts us) D σ H → tSeq (upS K ts) (upS K us) D σ H := by
  rintro D σ H ⟨G, π, ρ, cs, d, A, s, q, C⟩
  exact ⟨G, π, ρ, cs, _, A, s, q, ⟨fun σ' H' ρ' cs' G' π' E A' s' q' => ⟨G', π', ρ', cs', d, A', s', q', C.step E⟩, C.bk, C.ct, C.rt⟩⟩
theorem ess_cons (h1 : PS X st (upS X.K ts)) (h2 : PSs X rest (upS X.K us)) : PSs X (st :: rest) (upS X.K (dSeq ts us)) := (pss_cons h1 h2).weak up_seq
theorem ess_one (h1 : PS X st (upS X.K ts)) : PSs X [st] (upS X.K ts) := pss_one h1
theorem es_pass : PS X (.Pass pos) (upS X.K dNext) := ps_pass.weak (by
  rintro D σ H ⟨G, π, ρ, cs, d, A, s, q, C⟩
  exact C.nx _ _ _ _ _ _ .refl A s q)
def dBreak : TSD := fun d ρ cs => d.bk ρ cs
def dCont : TSD := fun d ρ cs => d.ct ρ cs
theorem es_break : PS X (.Break pos) (upS X.K dBreak) := ps_break.weak (by
  rintro D σ H ⟨G, π, ρ, cs, d, A, s, q, C⟩
  exact C.bk _ _ _ _ _ _ .refl A s q)
theorem es_continue : PS X (.Continue pos) (upS X.K dCont) := ps_continue.weak (by
  rintro D σ H ⟨G, π, ρ, cs, d, A, s, q, C⟩
  exact C.ct _ _ _ _ _ _ .refl A s q)
def dDrop (te : TD) : TSD := fun d ρ cs => te ρ cs fun _ cs1 => d.nx ρ cs1
theorem es_expr (he : PE X e (upE X.K te)) (hs : swapsWith e none pos.line X.env = pure false := by rfl) : PS X (.Expr e pos) (upS X.K (dDrop te)) := (ps_expr he hs).weak (by
  rintro D σ H ⟨G, π, ρ, cs, d, A, s, q, C⟩
  exact ⟨G, π, ρ, cs, _, A, s, q, fun v H' x cs' G' π' E A' r q' => C.nx _ _ _ _ _ _ E A' (s.ext E) q'⟩)
def dRet (te : TD) : TSD := fun d ρ cs => te ρ cs d.rt
theorem es_ret (he : PE X e (upE X.K te)) : PS X (.Return (some e) pos) (upS X.K (dRet te)) := (ps_ret he).weak (by
  rintro D σ H ⟨G, π, ρ, cs, d, A, s, q, C⟩
  exact ⟨G, π, ρ, cs, _, A, s, q, C.rt⟩)
def dRetN : TSD := fun d _ cs => d.rt (.d .none) cs
theorem es_retN : PS X (.Return none pos) (upS X.K dRetN) := ps_retN.weak (by
  rintro D σ H ⟨G, π, ρ, cs, d, A, s, q, C⟩
  exact C.rt _ _ _ _ _ _ .refl A (.d .non) q)
def dIfS (c : TTD) (t u : TSD) : TSD := fun d ρ cs => c ρ cs fun b cs1 => (b = true → t d ρ cs1) ∧ (b = false → u d ρ cs1)
theorem es_if {aa bb : List Stmt} (hc : PT X c (upT X.K tt)) (ha : PSs X aa (upS X.K ts)) (hb : PSs X bb (upS X.K us)) : PS X (.If c aa bb pos) (upS X.K (dIfS tt ts us)) := (ps_if hc ha hb).weak (by
  rintro D σ H ⟨G, π, ρ, cs, d, A, s, q, C⟩
  refine ⟨G, π, ρ, cs, _, A, s, q, fun b H1 cs1 G1 π1 E1 A1 q1 => ?_⟩
  cases b with
  | true =>
    refine iteT ?_
    exact ⟨G1, π1, ρ, cs1, d, A1, s.ext E1, q1.1 rfl, C.step E1⟩
  | false =>
    refine iteF ?_
    exact ⟨G1, π1, ρ, cs1, d, A1, s.ext E1, q1.2 rfl, C.step E1⟩)
def dNever : TSD := fun _ _ _ => False
theorem es_never : PS X st (upS X.K dNever) := ps_never.weak (by
  rintro D σ H ⟨G, π, ρ, cs, d, A, s, q, C⟩
  exact q.elim)
def dAsg (te : TD) (g : TGD) : TSD := fun d ρ cs => te ρ cs fun x cs1 => g x ρ cs1 d.nx
theorem up_asg {g : TGD} {is : List Nat} {te0 : TE} (h : ∀ σ H Q, upE K te σ H Q → te0 σ H Q) : ∀ D σ H, upS K (dAsg te g) D σ H → tAsg te0 (upG K is g) D σ H := by
  rintro D σ H ⟨G, π, ρ, cs, d, A, s, q, C⟩
  refine h σ H _ ⟨G, π, ρ, cs, _, A, s, q, fun v H1 x cs1 G1 π1 E1 A1 r1 q1 => ?_⟩
  exact ⟨G1, π1, ρ, cs1, x, _, A1, s.ext E1, r1, q1, fun σ2 H2 ρ2 cs2 G2 π2 E2 A2 s2 _ q2 => C.nx _ _ _ _ _ _ (E1.trans E2) A2 s2 q2⟩
theorem es_asg {g : TGD} {is : List Nat} (he : PE X e (upE X.K te)) (hg : PG X tg (upG X.K is g)) (hs : swapsWithSole [tg] e pos.line X.env = pure false := by rfl) (hw : swappedStores [tg] e X.env = pure none := by rfl)
    (h1 : (assignEach [tg] X.env).map (·.2) = [assign tg X.env] := by rfl) : PS X (.Assign [tg] e pos) (upS X.K (dAsg te g)) := (ps_asg he hg hs hw h1).weak (up_asg fun _ _ _ q => q)
theorem es_set (i : Nat) {x : Str} {pos' : Pos} (hN : X.N.Nodup) (hi : X.N[i]? = some x) (hx : Loc X.env.scope x) (he : PE X e (upE X.K te)) (hs : swapsWith e (some (.Name x pos')) pos.line X.env = pure false := by rfl) (hf : X.fn x = true ∨ X.env.scope.names.lookup x = some .local := by first | exact .inl rfl | exact .inr rfl | assumption) :
    PS X (.Assign [.Name x pos'] e pos) (upS X.K (dAsg te (dgName i))) := (ps_set hN hi hx he hs hf).weak (by
  rintro D σ H ⟨G, π, ρ, cs, d, A, s, q, C⟩
  refine ⟨G, π, ρ, cs, _, A, s, q, fun v H1 x cs1 G1 π1 E1 A1 r1 q1 => ?_⟩
  exact C.nx _ _ _ _ _ _ E1 A1 ((s.ext E1).set i r1) q1)
def dPar (i j : Nat) (t : TAD) : TSD := fun d ρ cs => t ρ cs fun xs cs1 => match xs with
  | [x, y] => d.nx ((ρ.set i (some x)).set j (some y)) cs1
  | _ => False
theorem es_par (i j : Nat) {x y : Str} {px py pt : Pos} {kt k2 pt2} (hc : X.calm = true) (hN : X.N.Nodup) (hi : X.N[i]? = some x) (hj : X.N[j]? = some y) (hij : i ≠ j)
    (hx : X.env.scope.names.lookup x = some .local) (hy : X.env.scope.names.lookup y = some .local) (ha : PA X [a, b] (upA X.K t))
    (hw : swappedStores [.Tuple [.Name x px, .Name y py] kt pt] (.Tuple [a, b] k2 pt2) X.env = pure (some [x, y]))
    (hs : swapsWithSole [.Tuple [.Name x px, .Name y py] kt pt] (.Tuple [a, b] k2 pt2) pos.line X.env = pure false := by rfl) :
    PS X (.Assign [.Tuple [.Name x px, .Name y py] kt pt] (.Tuple [a, b] k2 pt2) pos) (upS X.K (dPar i j t)) := (ps_par hc hN hi hj hij hx hy ha hw hs).weak (by
  rintro D σ H ⟨G, π, ρ, cs, d, A, s, q, C⟩
  refine ⟨G, π, ρ, cs, _, A, s, q, fun vs H1 xs cs1 G1 π1 E1 A1 r1 q1 => ?_⟩
  split at q1
  · obtain ⟨v1, v2, rfl, r, r'⟩ := repL_two r1
    exact ⟨v1, v2, rfl, C.nx _ _ _ _ _ _ E1 A1 (((s.ext E1).set i r).set j r') q1⟩
  · exact q1.elim)
/-- x op= e of whole numbers -/
def dAug (i : Nat) (f : Int → Int → Int) (te : TD) : TSD := fun d ρ cs => ∃ a, getS ρ i = some (si a) ∧ te ρ cs fun y cs1 => ∃ b, y = si b ∧ d.nx (ρ.set i (some (si (f a b)))) cs1
theorem es_aug (i : Nat) {x : Str} {op : Operator} {f : Int → Int → Int} {pos' : Pos} (hN : X.N.Nodup) (hi : X.N[i]? = some x) (hx : Loc X.env.scope x) (he : PE X e (upE X.K te)) (ho : PIp X op (ipI f)) (hf : X.fn x = true ∨ X.env.scope.names.lookup x = some .local := by first | exact .inl rfl | exact .inr rfl | assumption) :
    PS X (.AugAssign (.Name x pos') op e pos) (upS X.K (dAug i f te)) := (ps_aug hN hi hx he ho hf).weak (by
  rintro D σ H ⟨G, π, ρ, cs, d, A, s, ⟨a, e1, q⟩, C⟩
  obtain ⟨v, ev, rv⟩ := s.at_ i _ (getS_eq e1)
  refine ⟨v, ev, G, π, ρ, cs, _, A, s, q, fun w H1 y cs1 G1 π1 E1 A1 r1 q1 => ?_⟩
  obtain ⟨b, rfl, q1⟩ := q1
  rw [rep_int rv, rep_int r1]
  exact ⟨a, b, rfl, rfl, C.nx _ _ _ _ _ _ E1 A1 ((s.ext E1).set i (.d (.int _))) q1⟩)
/-- xs.append(e), xs a cell -/
def dApp (to te : TD) : TD := fun ρ cs R => to ρ cs fun o cs1 => match o with
  | .ref n => (∃ xs, getC cs1 n = some xs) ∧ te ρ cs1 fun y cs2 => ∃ xs, getC cs2 n = some xs ∧ xs.length < sizeLine ∧ R (.d .none) (cs2.set n (some (xs ++ [y])))
  | _ => False
theorem ee_app {o : Expr} {to : TD} {apos cpos : Pos} (ho : PE X o (upE X.K to)) (he : PE X e (upE X.K te))
    (h1 : starEach [e] X.env = (false, eval e X.env) :: starEach [] X.env := by rfl)
    (hbase : attributeBase o "append" X.env (eval o X.env) = eval o X.env := by rfl)
    (hfew : ((backTo cpos (starEach [e] X.env)).all (fun x => !x.1) && (backToKw cpos (keywordEach [] X.env)).all (fun x => x.1.isSome)
      && decide (([e] : List Expr).length + ([] : List Keyword).length + (if ([] : List Keyword).isEmpty then 0 else 1) < 30)) = true := by rfl)
    (hline : (apos.endLine == cpos.line) = true := by rfl) (hplain : (backTo cpos (starEach ([] : List Expr) X.env)).any (·.1) = false := by rfl) :
    PE X (.Call (.Attribute o "append" apos) [e] [] cpos) (upE X.K (dApp to te)) := by
  refine (pe_bm PySem.F.plainAttrs_list PySem.F.slot_list_append PySem.F.type_list_append mt_append ho (pa_cons he pa_nil h1) hbase hfew hline h1 hplain).weak ?_
  rintro σ H Q ⟨G, π, ρ, cs, R, A, s, q, k⟩
  refine ⟨G, π, ρ, cs, _, A, s, q, fun v1 H1 x cs1 G1 π1 E1 A1 r1 q1 => ?_⟩
  cases x with
  | d _ => exact q1.elim
  | ref n =>
    obtain ⟨⟨xs0, e0⟩, q1⟩ := q1
    obtain ⟨p, vs0, rfl, h3, h4, _⟩ := rep_ref A1 r1 e0
    refine ⟨.inl ⟨rfl, _, .of h4⟩, G1, π1, ρ, cs1, _, A1, s.ext E1, q1, fun v2 H2 y cs2 G2 π2 E2 A2 r2 q2 => ?_⟩
    obtain ⟨xs, e1, hz, q2⟩ := q2
    obtain ⟨p', vs, e, h5, h6, h7⟩ := rep_ref A2 (r1.ext E2) e1
    cases e
    obtain ⟨A3, E3⟩ := A2.put h5 (getC_eq e1) (RepL.app h7 (.cons r2 .nil))
    exact ⟨p, vs, v2, rfl, rfl, h6, by rw [h7.len]; exact hz, k _ _ _ _ _ _ (E1.trans (E2.trans E3)) A3 (.d .non) q2⟩

/-! ### while -/
def whileR (c : TTD) (tb : TSD) (d : EndsD) : Nat → Ev → Sto → Prop
  | 0, _, _ => False
  | n + 1, ρ, cs => c ρ cs fun b cs1 => (b = true → tb { nx := whileR c tb d n, ct := whileR c tb d n, bk := d.nx, rt := d.rt } ρ cs1) ∧ (b = false → d.nx ρ cs1)
def dWhile (c : TTD) (tb : TSD) : TSD := fun d ρ cs => ∃ n, whileR c tb d n ρ cs
theorem es_while {body : List Stmt} (hp : PassesOwn (model X.prog X.w) X.A X.env X.xe) (hc : PT X c (upT X.K tt)) (hb : PSs X body (upS X.K ts)) : PS X (.While c body [] pos) (upS X.K (dWhile tt ts)) := (ps_while hp hc hb).weak (by
  rintro D σ H ⟨G, π, ρ, cs, d, A, s, ⟨n, q⟩, C⟩
  refine ⟨fun m σ' H' => ∃ G' π' ρ' cs', Ext G π H G' π' H' ∧ At X.K G' π' cs' H' ∧ Sl X.K G' π' σ' ρ' ∧ whileR tt ts d m ρ' cs', ⟨n, G, π, ρ, cs, .refl, A, s, q⟩, ?_⟩
  rintro m σ' H' ⟨G1, π1, ρ1, cs1, E1, A1, s1, q1⟩
  cases m with
  | zero => exact q1.elim
  | succ m =>
    refine ⟨G1, π1, ρ1, cs1, _, A1, s1, q1, fun b H2 cs2 G2 π2 E2 A2 q2 => ?_⟩
    have s2 := s1.ext E2
    cases b with
    | false =>
      refine iteF ?_
      exact C.nx _ _ _ _ _ _ (E1.trans E2) A2 s2 (q2.2 rfl)
    | true =>
      refine iteT ?_
      refine ⟨fun σ3 H3 => ∃ G' π' ρ' cs', Ext G π H G' π' H3 ∧ At X.K G' π' cs' H3 ∧ Sl X.K G' π' σ3 ρ' ∧ whileR tt ts d m ρ' cs', fun σ3 H3 w => ⟨m, Nat.lt_succ_self m, w⟩, ?_⟩
      have E := E1.trans E2
      exact ⟨G2, π2, ρ1, cs2, _, A2, s2, q2.1 rfl, ⟨fun σ3 H3 ρ3 cs3 G3 π3 E3 A3 s3 q3 => ⟨G3, π3, ρ3, cs3, E.trans E3, A3, s3, q3⟩, fun σ3 H3 ρ3 cs3 G3 π3 E3 A3 s3 q3 => C.nx _ _ _ _ _ _ (E.trans E3) A3 s3 q3,
        fun σ3 H3 ρ3 cs3 G3 π3 E3 A3 s3 q3 => ⟨G3, π3, ρ3, cs3, E.trans E3, A3, s3, q3⟩, fun v H3 x cs3 G3 π3 E3 A3 r3 q3 => C.rt _ _ _ _ _ _ (E.trans E3) A3 r3 q3⟩⟩)

/-! ### for -/
def forR (ok : Sto → Prop) (g : TGD) (tb : TSD) (d : EndsD) : List S → Ev → Sto → Prop
  | [], ρ, cs => ok cs ∧ d.nx ρ cs
  | x :: xs, ρ, cs => ok cs ∧ g x ρ cs fun ρ1 cs1 => tb { nx := forR ok g tb d xs, ct := forR ok g tb d xs, bk := d.nx, rt := d.rt } ρ1 cs1
def dFor (it : TID) (g : TGD) (tb : TSD) : TSD := fun d ρ cs => it ρ cs fun src cs1 => forR src.ok g tb d src.its ρ cs1
theorem es_for {iter : Expr} {body : List Stmt} {it : TID} {g : TGD} {is : List Nat} (hp : PassesOwn (model X.prog X.w) X.A X.env X.xe) (hc : X.calm = true) (hi : PI X tg iter (upI X.K it)) (hg : PG X tg (upG X.K is g)) (hb : PSs X body (upS X.K ts))
    (hs : ∀ x, foldedSetIterable iter X.env x = pure x := by intro _; rfl) : PS X (.For tg iter body [] pos) (upS X.K (dFor it g ts)) := (ps_for hp hc hi hg hb hs).weak (by
  rintro D σ H ⟨G, π, ρ, cs, d, A, s, q, C⟩
  refine ⟨G, π, ρ, cs, _, A, s, q, fun J src H1 cs1 G1 π1 E1 A1 IR q1 => ?_⟩
  refine ⟨fun i m σ' H' => m = src.its.length - i ∧ i ≤ src.its.length ∧ ∃ G' π' ρ' cs', Ext G1 π1 H1 G' π' H' ∧ At X.K G' π' cs' H' ∧ Sl X.K G' π' σ' ρ' ∧ forR src.ok g ts d (src.its.drop i) ρ' cs', ⟨_, rfl, Nat.zero_le _, G1, π1, ρ, cs1, .refl, A1, s.ext E1, by rw [List.drop_zero]; exact q1⟩, ?_⟩
  rintro i m σ' H' ⟨rfl, hle, G2, π2, ρ2, cs2, E2, A2, s2, q2⟩
  by_cases hlt : i < src.its.length
  · have hd : src.its.drop i = src.its[i] :: src.its.drop (i + 1) := List.drop_eq_getElem_cons hlt
    rw [hd] at q2
    obtain ⟨ok2, q2⟩ := q2
    obtain ⟨go, y⟩ := IR.go i src.its[i] G2 π2 cs2 H' E2.g E2.pp A2 ok2 (by simp [hlt])
    refine .inr ⟨go, fun σ3 H3 => ∃ G' π' ρ' cs', Ext G1 π1 H1 G' π' H3 ∧ At X.K G' π' cs' H3 ∧ Sl X.K G' π' σ3 ρ' ∧ forR src.ok g ts d (src.its.drop (i + 1)) ρ' cs', fun σ3 H3 w => ⟨src.its.length - (i + 1), by omega, rfl, hlt, w⟩, fun v H3 yv => ?_⟩
    obtain ⟨G3, E3, A3, r3⟩ := y v H3 yv
    have E := E2.trans E3
    refine ⟨G3, π2, ρ2, cs2, _, _, A3, s2.ext E3, r3, q2, fun σ4 H4 ρ4 cs4 G4 π4 E4 A4 s4 _ q4 => ?_⟩
    have E' := E.trans E4
    exact ⟨G4, π4, ρ4, cs4, _, A4, s4, q4, ⟨fun σ5 H5 ρ5 cs5 G5 π5 E5 A5 s5 q5 => ⟨G5, π5, ρ5, cs5, E'.trans E5, A5, s5, q5⟩, fun σ5 H5 ρ5 cs5 G5 π5 E5 A5 s5 q5 => C.nx _ _ _ _ _ _ (E1.trans (E'.trans E5)) A5 s5 q5,
      fun σ5 H5 ρ5 cs5 G5 π5 E5 A5 s5 q5 => ⟨G5, π5, ρ5, cs5, E'.trans E5, A5, s5, q5⟩, fun v H5 x cs5 G5 π5 E5 A5 r5 q5 => C.rt _ _ _ _ _ _ (E1.trans (E'.trans E5)) A5 r5 q5⟩⟩
  · have hi : i = src.its.length := by omega
    subst hi
    rw [List.drop_length] at q2
    exact .inl ⟨IR.stop _ G2 π2 cs2 H' E2.g E2.pp A2 q2.1 (Nat.le_refl _), C.nx _ _ _ _ _ _ (E1.trans E2) A2 s2 q2.2⟩)

/-! ### comprehensions -/
def compR (ok : Sto → Prop) (g : TGD) (tt : TTD) (te : TD) (ρ0 : Ev) (k : List S → Sto → Prop) : List S → List S → Sto → Prop
  | [], acc, cs => ok cs ∧ k acc cs
  | x :: xs, acc, cs => ok cs ∧ g x ρ0 cs fun ρ1 cs1 => tt ρ1 cs1 fun b cs2 => (b = true → te ρ1 cs2 fun y cs3 => compR ok g tt te ρ0 k xs (acc ++ [y]) cs3) ∧ (b = false → compR ok g tt te ρ0 k xs acc cs2)
def dYes : TTD := fun _ cs R => R true cs
theorem epts_nil : PTs X [] (upT X.K dYes) := ⟨fun pins s σ H Q I h => by
  obtain ⟨G, π, ρ, cs, R, A, sl, q, k⟩ := h
  exact pts_nil.run pins s σ H Q I (k _ _ _ _ _ .refl A q)⟩
theorem epts_one (h : PT X c (upT X.K tt)) : PTs X [c] (upT X.K tt) := pts_one h
/-- a comprehension: k what becomes of its items -/
def dLcG (it : TID) (g : TGD) (tt : TTD) (te : TD) (vs : List Nat) (k : List S → Sto → RK → Prop) : TD := fun ρ cs R => it ρ cs fun src cs1 => src.its.length ≤ sizeLine ∧ compR src.ok g tt te (wip ρ vs) (fun acc cs2 => k acc cs2 R) src.its [] cs1
/-- a list that stands -/
def kFro (acc : List S) (cs : Sto) (R : RK) : Prop := ∃ ds, datas acc = some ds ∧ R (.d (.list ds)) cs
/-- a list that will be written -/
def kMut (acc : List S) (cs : Sto) (R : RK) : Prop := R (.ref cs.length) (cs ++ [some acc])
def kOk (K : PySem.W.Frag) (k : List S → Sto → RK → Prop) : Prop := ∀ G π cs H D vs acc R (Q : Prop), At K G π cs H → G D = none → D ∉ π → H D = some (.lst vs) → RepL K G π vs acc → k acc cs R →
  (∀ G' π' x cs', Same G G' → (∀ a o, G' a = some o → G a = some o ∨ a = D) → (∃ πn, π' = π ++ πn ∧ ∀ a ∈ πn, a = D) → At K G' π' cs' H → RepS K G' π' (.ref D) x → R x cs' → Q) → Q
theorem kok_fro : kOk K kFro := by
  rintro G π cs H D vs acc R Q A hg hn hD r ⟨ds, e, q⟩ k
  rw [datas_eq e] at r
  have sm : Same G (upd G D (.lst vs)) := same_new hg
  refine k (upd G D (.lst vs)) π _ cs sm (fun a o h => ?_) ⟨[], by simp, by simp⟩ ⟨fun b u h => ?_, A.len, A.nd, A.tr, fun n a xs h1 h2 => ?_⟩ (.d (.lst (.of upd_same) (dpAll_mono sm (dpAll_of r)))) q
  · by_cases e : a = D
    · exact .inr e
    · rw [upd_ne e] at h; exact .inl h
  · by_cases e : b = D
    · subst e; rw [upd_same] at h; cases h; exact hD
    · rw [upd_ne e] at h; exact A.kn b u h
  · obtain ⟨g, ws, e2, r2⟩ := A.st n a xs h1 h2
    have hx : a ≠ D := fun e => hn (e ▸ List.mem_of_getElem? h1)
    exact ⟨by rw [upd_ne hx]; exact g, ws, e2, RepL.mono sm ⟨[], by simp⟩ r2⟩
theorem kok_mut : kOk K kMut := by
  rintro G π cs H D vs acc R Q A hg hn hD r q k
  refine k G (π ++ [D]) _ _ (Same.refl _) (fun a o h => .inl h) ⟨[D], rfl, fun a ha => by simpa using ha⟩ (A.cell hg hn hD r) (.ref (by rw [← A.len]; simp)) q
theorem up_lc {it : TID} {g : TGD} {is vs : List Nat} {kk : List S → Sto → RK → Prop} (hk : kOk K kk) (his : ∀ i ∈ is, i ∈ vs) : ∀ σ H Q, upE K (dLcG it g tt te vs kk) σ H Q → tLc (upI K it) (upG K is g) (upT K tt) (upE K te) vs σ H Q := by
  rintro σ H Q ⟨G, π, ρ, cs, R, A, s, q, k⟩
  refine ⟨G, π, ρ, cs, _, A, s, q, fun J src H1 cs1 G1 π1 E1 A1 IR q1 D hD => ?_⟩
  obtain ⟨hz, q1⟩ := q1
  obtain ⟨A0, E0⟩ := A1.junk hD (.lst [])
  refine ⟨fun i m H' => m = src.its.length - i ∧ i ≤ src.its.length ∧ ∃ G' π' cs' vac acc, Ext G1 π1 H1 G' π' H' ∧ At K G' π' cs' H' ∧ G' D = none ∧ D ∉ π' ∧ H' D = some (.lst vac) ∧ RepL K G' π' vac acc ∧ acc.length ≤ i ∧
    compR src.ok g tt te (wip ρ vs) (fun acc cs2 => kk acc cs2 R) (src.its.drop i) acc cs', ⟨_, rfl, Nat.zero_le _, G1, π1, cs1, [], [], E0, A0, A1.free hD, A1.nin hD, upd_same, .nil, Nat.le_refl _, by rw [List.drop_zero]; exact q1⟩, ?_⟩
  rintro i m H' ⟨rfl, hle, G2, π2, cs2, vac, acc, E2, A2, gD, pD, hD2, ra, hla, q2⟩
  have s2 := (s.ext E1).ext E2
  -- the accumulated list stands through a step
  have keep : ∀ {G3 π3 H3}, Ext G2 π2 H' G3 π3 H3 → H3 D = some (.lst vac) ∧ G3 D = none ∧ D ∉ π3 := fun {G3 π3 H3} E => by
    refine ⟨E.f D _ pD hD2, ?_, ?_⟩
    · cases h : G3 D with
      | none => rfl
      | some o =>
        rcases E.gn D o h with z | z | z
        · rw [gD] at z; cases z
        · rw [hD2] at z; cases z
        · exact absurd z pD
    · obtain ⟨πn, rfl, hn⟩ := E.p
      intro hm
      rcases List.mem_append.mp hm with z | z
      · exact pD z
      · have := hn D z; rw [hD2] at this; cases this
  by_cases hlt : i < src.its.length
  · have hd : src.its.drop i = src.its[i] :: src.its.drop (i + 1) := List.drop_eq_getElem_cons hlt
    rw [hd] at q2
    obtain ⟨ok2, q2⟩ := q2
    obtain ⟨go, y⟩ := IR.go i src.its[i] G2 π2 cs2 H' E2.g E2.pp A2 ok2 (by simp [hlt])
    refine .inr ⟨go, fun H3 => i + 1 ≤ src.its.length ∧ ∃ G' π' cs' vac acc, Ext G1 π1 H1 G' π' H3 ∧ At K G' π' cs' H3 ∧ G' D = none ∧ D ∉ π' ∧ H3 D = some (.lst vac) ∧ RepL K G' π' vac acc ∧ acc.length ≤ i + 1 ∧
      compR src.ok g tt te (wip ρ vs) (fun acc cs2 => kk acc cs2 R) (src.its.drop (i + 1)) acc cs', fun H3 w => ⟨src.its.length - (i + 1), by omega, rfl, w.1, w.2⟩, fun v H3 yv => ?_⟩
    obtain ⟨G3, E3, A3, r3⟩ := y v H3 yv
    refine ⟨G3, π2, wip ρ vs, cs2, _, _, A3, (s2.wip vs).ext E3, r3, q2, fun σ4 H4 ρ4 cs4 G4 π4 E4 A4 s4 ch q4 => ⟨ch.wipe his, ?_⟩⟩
    refine ⟨G4, π4, ρ4, cs4, _, A4, s4, q4, fun b H5 cs5 G5 π5 E5 A5 q5 => ?_⟩
    have E35 := E3.trans (E4.trans E5)
    cases b with
    | false =>
      refine iteF ?_
      obtain ⟨k1, k2, k3⟩ := keep E35
      exact ⟨hlt, G5, π5, cs5, vac, acc, E2.trans E35, A5, k2, k3, k1, RepL.ext E35 ra, by omega, q5.2 rfl⟩
    | true =>
      refine iteT ?_
      refine ⟨G5, π5, ρ4, cs5, _, A5, s4.ext E5, q5.1 rfl, fun w H6 x6 cs6 G6 π6 E6 A6 r6 q6 => ?_⟩
      have E36 := E35.trans E6
      obtain ⟨k1, k2, k3⟩ := keep E36
      have ra6 := RepL.ext E36 ra
      refine ⟨vac, k1, by rw [ra.len]; exact Nat.lt_of_lt_of_le (Nat.lt_of_le_of_lt hla hlt) hz, hlt, G6, π6, cs6, vac ++ [w], acc ++ [x6], ?_, ?_, k2, k3, upd_same, RepL.app ra6 (.cons r6 .nil), by simp; omega, q6⟩
      · have E := E2.trans E36
        refine ⟨E.g, E.p, fun a o ha e => ?_, fun a e => ?_, E.gn⟩
        · rw [upd_ne (ne_of_none e hD)]; exact E.f a o ha e
        · by_cases h : a = D
          · subst h; exact hD
          · rw [upd_ne h] at e; exact E.dm a e
      · refine ⟨fun a o e => ?_, A6.len, A6.nd, fun a ha => ?_, fun n a xs h1 h2 => ?_⟩
        · rw [upd_ne (ne_of_none e k2)]; exact A6.kn a o e
        · have h : a ≠ D := fun z => k3 (z ▸ ha)
          rw [upd_ne h]; exact A6.tr a ha
        · have h : a ≠ D := fun z => k3 (z ▸ List.mem_of_getElem? h1)
          rw [upd_ne h]; exact A6.st n a xs h1 h2
  · have hi : i = src.its.length := by omega
    subst hi
    rw [List.drop_length] at q2
    refine .inl ⟨IR.stop _ G2 π2 cs2 H' E2.g E2.pp A2 q2.1 (Nat.le_refl _), ?_⟩
    refine hk G2 π2 cs2 H' D vac acc R _ A2 gD pD hD2 ra q2.2 fun G' π' x cs' sm gn hp A' r' q' => ?_
    obtain ⟨πn, rfl, hn⟩ := hp
    obtain ⟨πm, e2, hm⟩ := E2.p
    refine k _ _ _ _ _ _ (E1.trans (⟨E2.g.trans sm, ⟨πm ++ πn, by rw [e2, List.append_assoc], fun a ha => ?_⟩, E2.f, E2.dm, fun a o e => ?_⟩ : Ext G1 π1 H1 G' (π2 ++ πn) H')) A' r' q'
    · rcases List.mem_append.mp ha with z | z
      · exact hm a z
      · rw [hn a z]; exact hD
    · rcases gn a o e with z | z
      · exact E2.gn a o z
      · rw [z]; exact .inr (.inl hD)
theorem ee_lcG {elt iter : Expr} {ifs : List Expr} {scope : Scope} {own : List (Str × Nat)} {it : TID} {g : TGD} {is : List Nat} {kk : List S → Sto → RK → Prop} (hk : kOk X.K kk) (his : ∀ i ∈ is, i ∈ own.map (·.2)) (hc : X.calm = true) (hN : X.N.Nodup) (hi : PI X tg iter (upI X.K it)) (ok : BlkOk X.N X.env.scope scope own)
    (hg : ∀ (s : Shared) (H : Hp) (C : Addr) (cl : List (Str × Addr)) (fp : List Addr), PG (X.blk s H scope (compEnvC scope cl C X.env) fp) tg (upG X.K is g)) (ht : ∀ (s : Shared) (H : Hp) (C : Addr) (cl : List (Str × Addr)) (fp : List Addr), PTs (X.blk s H scope (compEnvC scope cl C X.env) fp) ifs (upT X.K tt))
    (he : ∀ (s : Shared) (H : Hp) (C : Addr) (cl : List (Str × Addr)) (fp : List Addr), PE (X.blk s H scope (compEnvC scope cl C X.env) fp) elt (upE X.K te)) (hs : ∀ x, foldedSetIterable iter X.env x = pure x := by intro _; rfl) :
    PE X (.ListComp elt [⟨tg, iter, ifs, 0⟩] scope pos) (upE X.K (dLcG it g tt te (own.map (·.2)) kk)) := (pe_lc hc hN hi ok hg ht he hs).weak (up_lc hk his)
/-- name = [..] on one line -/
theorem es_setLcG (i : Nat) {y : Str} {py : Pos} {elt iter : Expr} {ifs : List Expr} {scope : Scope} {own : List (Str × Nat)} {spos : Pos} {it : TID} {g : TGD} {is : List Nat} {kk : List S → Sto → RK → Prop} (hk : kOk X.K kk) (his : ∀ i ∈ is, i ∈ own.map (·.2)) (hc : X.calm = true) (hN : X.N.Nodup) (hy : X.N[i]? = some y) (hyl : X.env.scope.names.lookup y = some .local)
    (hsw : swapsWith (.ListComp elt [⟨tg, iter, ifs, 0⟩] scope pos) (some (.Name y py)) spos.line X.env = pure true) (hi : PI X tg iter (upI X.K it)) (ok : BlkOk X.N X.env.scope scope own)
    (hg : ∀ (s : Shared) (H : Hp) (C : Addr) (cl : List (Str × Addr)) (fp : List Addr), PG (X.blk s H scope (compEnvC scope cl C X.env) fp) tg (upG X.K is g)) (ht : ∀ (s : Shared) (H : Hp) (C : Addr) (cl : List (Str × Addr)) (fp : List Addr), PTs (X.blk s H scope (compEnvC scope cl C X.env) fp) ifs (upT X.K tt))
    (he : ∀ (s : Shared) (H : Hp) (C : Addr) (cl : List (Str × Addr)) (fp : List Addr), PE (X.blk s H scope (compEnvC scope cl C X.env) fp) elt (upE X.K te)) (hs : ∀ x, foldedSetIterable iter X.env x = pure x := by intro _; rfl) :
    PS X (.Assign [.Name y py] (.ListComp elt [⟨tg, iter, ifs, 0⟩] scope pos) spos) (upS X.K (dAsg (dLcG it g tt te (own.map (·.2)) kk) (dgName i))) := (ps_setLc hc hN hy hyl hsw hi ok hg ht he hs).weak (by
  rintro D σ H ⟨G, π, ρ, cs, d, A, s, q, C⟩
  refine up_lc hk his σ H _ ⟨G, π, ρ, cs, _, A, s, q, fun v H1 x cs1 G1 π1 E1 A1 r1 q1 => ?_⟩
  exact C.nx _ _ _ _ _ _ E1 A1 ((s.ext E1).set i r1) q1)

/-! ### a def's body -/
/-- the slots at the entry -/
def startD (n : Nat) (xs : List S) : Ev := xs.map some ++ List.replicate (n - xs.length) none
theorem sl_start {G : Hp} {π : List Addr} {N : List Str} {vs : List V} {xs : List S} (r : RepL K G π vs xs) : Sl K G π (L2.start N vs) (startD N.length xs) := by
  unfold L2.start startD
  refine ⟨by simp [r.len], fun i x e => ?_⟩
  by_cases hi : i < xs.length
  · rw [List.getElem?_append_left (by simpa using hi), List.getElem?_map] at e
    cases q : xs[i]? with
    | none => rw [q] at e; cases e
    | some y =>
      rw [q] at e
      cases e
      obtain ⟨v, hv, rv⟩ := r.get q
      exact ⟨v, by rw [List.getElem?_append_left (by rw [List.length_map, r.len]; exact hi), List.getElem?_map, hv]; rfl, rv⟩
  · rw [List.getElem?_append_right (by simpa using Nat.le_of_not_lt hi)] at e
    have := List.getElem?_eq_some_iff.mp e
    simp at this
/-- what a body is to reach: the cells made within are forgotten, or handed on -/
def rtD (n : Nat) (R : RK) : RK := fun x cs' => R x cs' ∨ ∃ cs1 gs, cs' = cs1 ++ gs ∧ cs1.length = n ∧ Okc n cs1 ∧ Okx n x ∧ R x cs1
abbrev endsD (n : Nat) (R : RK) : EndsD := { nx := fun _ cs' => rtD n R (.d .none) cs', rt := rtD n R, bk := fun _ _ => False, ct := fun _ _ => False }
end
section
variable {P : Program} {w : World} {K : PySem.W.Frag} {mg : Str → Option Value} {base : Heap}
theorem fn_okD {x : Str} {st : Stmt} {f : Addr} {fd : FuncData} {N ps : List Str} {k n : Nat} {T : DSp} (F : Fun K x x st f fd) (S : FnScope N ps (defScope st)) (hn : ps.length = n)
    (hbody : ∀ (cdv : Value) (A : Around) (outer : List Env) (s : Shared) (H : Hp), Room k (A.deeper (envOfC x (defScope st) s.heap.objs.size f cdv)) →
      ∃ t, PSs (cxOf CX0 P w K mg base N x (defScope st) f cdv A outer s H E0).nox (defBody st) (upS K t) ∧ ∀ xs cs R, xs.length = n → Okc cs.length cs → T xs cs R → t (endsD cs.length R) (startD N.length xs) cs) :
    FnOk P w K mg base CX0 (k + 1) f fd ps (spD K n T) := by
  refine F.ok S (fun vs H Q E h => by rw [hn]; exact h.1) (fun cdv A outer s H vs Q E hr h => ?_)
  obtain ⟨hl, G, π, cs, xs, R, A1, r, q, k⟩ := h
  obtain ⟨t, ht, hq⟩ := hbody cdv A outer s H hr
  refine ⟨upS K t, ⟨fun pins s' σ' H' D' I' q' => ht.run pins s' σ' H' D' I' q'⟩, G, π, startD N.length xs, cs, endsD cs.length R, A1, sl_start r, hq xs cs R (by rw [← r.len]; exact hl) A1.okc q, ?_⟩
  have fin : ∀ v H' x cs' G' π', Ext G π H G' π' H' → At K G' π' cs' H' → RepS K G' π' v x → rtD cs.length R x cs' → Q v H' := fun v H' x cs' G' π' E' A' r' q' => by
    rcases q' with q' | ⟨cs1, gs, rfl, hl, hc, hx, q'⟩
    · exact k v H' x cs' G' π' E' A' r' q'
    · obtain ⟨πn, rfl, hn⟩ := E'.p
      have hl2 : π.length = cs1.length := by rw [A1.len, hl]
      refine k v H' x cs1 G' π ⟨E'.g, ⟨[], by simp, by simp⟩, E'.f, E'.dm, E'.gn⟩ (A'.drop hl2 (by rw [hl]; exact hc)) (repS_back r' (by rw [A1.len]; exact hx)) q'
  exact ⟨fun σ' H' ρ' cs' G' π' E' A' s' q' => fin _ _ _ _ _ _ E' A' (.d .non) q', fun _ _ _ _ _ _ _ _ _ q => q.elim, fun _ _ _ _ _ _ _ _ _ q => q.elim, fin⟩
end
end FL

set_option Elab.async false
set_option linter.all false
set_option maxRecDepth 100000
set_option maxHeartbeats 1000000
namespace FL
open PySem L2 RZ PyProof.Rows

section
variable {X : Cx} {K : PySem.W.Frag} {a b c e tg : Expr} {es : List Expr} {ta tb tc te : TD} {t : TAD} {tt : TTD} {pos p : Pos} {x : Str}
theorem ee_chain {op op' : CmpOp} {r r' : R2} {rd rd' : RD2} (h : Sim2 X.K r rd) (h' : Sim2 X.K r' rd') (ho : OpR X (compareOp op) r) (ho' : OpR X (compareOp op') r') (ha : PE X a (upE X.K ta)) (hb : PE X b (upE X.K tb)) (hc : PE X c (upE X.K tc)) (hm : lastMarks [op, op'] [b, c] = false := by with_unfolding_all rfl) :
    PE X (.Compare a [op, op'] [b, c] pos) (upE X.K (dChain rd rd' ta tb tc)) := (pe_chain ho ho' ha hb hc hm).weak (up_chain h h')
theorem et_chain {op op' : CmpOp} {r r' : R2} {rd rd' : RD2} (h : Sim2 X.K r rd) (h' : Sim2 X.K r' rd') (ho : OpR X (compareOp op) r) (ho' : OpR X (compareOp op') r') (ha : PE X a (upE X.K ta)) (hb : PE X b (upE X.K tb)) (hc : PE X c (upE X.K tc)) (hm : lastMarks [op, op'] [b, c] = false := by with_unfolding_all rfl) :
    PT X (.Compare a [op, op'] [b, c] pos) (upT X.K (dTestR (dChain rd rd' ta tb tc))) := (pt_chain ho ho' ha hb hc hm).weak (up_test (up_chain h h'))
/-- a + b: ints, tuples, texts, lists -/
def qAddG : RD2 := fun x y cs R => match x with
  | .d (.int i) => ∃ j, y = si j ∧ R (si (i + j)) cs
  | .d (.tuple ds) => ∃ es, y = .d (.tuple es) ∧ ds.length + es.length ≤ sizeLine ∧ R (.d (.tuple (ds ++ es))) cs
  | .d (.str z) => ∃ w, y = .d (.str w) ∧ z.length + w.length ≤ sizeLine ∧ R (.d (.str (z ++ w))) cs
  | _ => False
theorem sim_addG : Sim2 K (fun x y H Q => rI0 (fun i j => .int (i + j)) x y H Q ∨ rCatA K x y H Q ∨ ∃ i j, x = .str i ∧ y = .str j ∧ i.length + j.length ≤ sizeLine ∧ Q (.str (i ++ j)) H) qAddG := by
  intro G π cs H v w x y R Q A rv rw q k
  cases x with
  | ref n => exact q.elim
  | d x =>
    cases x <;> try (exact q.elim; done)
    · obtain ⟨j, rfl, q⟩ := q
      exact .inl (sim_I0 G π cs H v w _ _ R Q A rv rw ⟨_, _, rfl, rfl, q⟩ k)
    · obtain ⟨j, rfl, hz, q⟩ := q
      cases rv with
      | d rv => cases rv; cases rw with
        | d rw => cases rw; exact .inr (.inr ⟨_, _, rfl, rfl, hz, k _ _ _ _ _ _ .refl A (.d (.str _)) q⟩)
    · obtain ⟨es, rfl, hz, q⟩ := q
      exact .inr (.inl (sim_catT G π cs H v w _ _ R Q A rv rw ⟨_, _, rfl, rfl, hz, q⟩ k))
theorem ee_addG (ha : PE X a (upE X.K ta)) (hb : PE X b (upE X.K tb)) : PE X (.BinOp a .Add b pos) (upE X.K (dOp qAddG ta tb)) := ee_op sim_addG (op_add.or (op_catA.or op_add_str)) ha hb
end

/-! ### the law's own end -/
/-- a law's promise: at most n ints come, True goes -/
def TLaw (n : Nat) : DSp := fun xs cs R => cs = [] ∧ ∃ ns : List Int, xs = [.d (.list (ns.map PyData.int))] ∧ ns.length ≤ n ∧ ∀ cs', R (sb true) cs'
theorem dp_script {K : PySem.W.Frag} {H : Hp} : ∀ ns : List Int, DpAll K H (ns.map V.int) (ns.map PyData.int)
  | [] => .nil
  | n :: ns => .cons (.int n) (dp_script ns)
theorem law_sp {n : Nat} {K : PySem.W.Frag} {H : Hp} {a : Addr} {ns : List Int} {E : XK} (hl : ns.length ≤ n) (h : SqL K H a (ns.map V.int)) : spD K 1 (TLaw n) [.ref a] H (fun v _ => v = .bl true) E := by
  refine ⟨rfl, H, [], [], [.d (.list (ns.map PyData.int))], fun x _ => x = sb true, ⟨Same.refl _, rfl, List.nodup_nil, (fun a h => by simp at h), (fun n a xs h => by simp at h)⟩, .cons (.d (.lst h (dp_script ns))) .nil, ⟨rfl, ns, rfl, hl, fun _ => rfl⟩, ?_⟩
  rintro v H' x cs' G' π' E' A' r rfl
  exact rep_bl r
theorem walkD {l : PySem.W.OpenLaw} {q : Program} {loose : List Str} {XP : (Str → Option Value) → Heap → Prop} {YP : World → Heap → Prop} {d : DefRec} {K : Params → PySem.W.Frag} {k : Nat} (hn : l.most = some 63) (hdf : d.params.defaults = []) (hr : Room k callerA)
    (hY : ∀ (w : World) (h : Heap), YP w h → (K w.params).In h)
    (F : ∀ (w : World) (mg : Str → Option Value) (fa : Addr) (h : Heap), (K w.params).In h → h.Ns mainGlobals mg → mg d.name = some (.ref fa) →
      ∃ fd : FuncData, (∀ (s : Shared) (u : Value), BindsTo s fd ⟨[u], []⟩ [("script", u)]) ∧ ∀ base : Heap, (K w.params).In base → base.Ns mainGlobals mg → FnOk l.prog w (K w.params) mg base CX0 k fa fd ["script"] (spD (K w.params) 1 (TLaw 63))) :
    PySem.W.WalkO q loose XP YP l.row.toRowW d [] (fun f vs => PySem.call f vs) :=
  L2.walk_of (n := 63) (k := k) (x := "script") (CX := fun _ => CX0) (sp := fun w => spD (K w.params) 1 (TLaw 63)) hn (by decide) hdf hr hY F (fun _ _ a ns hl _ hS => law_sp hl hS) fun _ _ _ _ _ z => z

/-- from the head's facts: a def of the module -/
theorem defat {P : Program} {w : World} {K : PySem.W.Frag} {mg : Str → Option Value} {base : Heap} {h : Heap} {x : Str} {st : Stmt} {f : Addr} {oc : Value} {od an : Option Addr} {osl : Array (Option Value)} {kV doc pm cdv ct : Value} {ps : List Str} {k : Nat} {T : DSp}
    (X : K.In h) (G : h.Ns mainGlobals mg) (a : PySem.W.nsIn K mainGlobals x = some (some (.ref f)))
    (l : K.lookup f = some ⟨oc, od, .func (PySem.W.fnOf x x (defArgs st) (defBody st) (defScope st) .none kV doc pm an cdv ct), osl⟩)
    (c : PySem.W.codeIn K cdv x = true) (kp : PySem.W.keepIn K (.ref f) = true)
    (hb : ∀ (kV doc pm : Value) (an : Option Addr) (cdv ct : Value) (us : List Value), us.length = ps.length → bindArgs (PySem.W.fnOf x x (defArgs st) (defBody st) (defScope st) .none kV doc pm an cdv ct) ⟨us, []⟩ = pure (ps.zip us))
    (ok : ∀ (f : Addr) (fd : FuncData), Fun K x x st f fd → FnOk P w K mg base CX0 k f fd ps (spD K ps.length T)) : DefAt P w K mg base k x ps T :=
  ⟨f, _, ok _ _ (fun_mk l c kp), PySem.W.mg_of X G a, kp, (fun_mk (st := st) l c kp).binds hb⟩
/-- a row of the head's facts for a def -/
structure Row (K : PySem.W.Frag) (x : Str) (st : Stmt) : Prop where
  ex : ∃ (f : Addr) (oc : Value) (od an : Option Addr) (osl : Array (Option Value)) (kV doc pm cdv ct : Value), PySem.W.nsIn K mainGlobals x = some (some (.ref f)) ∧
    K.lookup f = some ⟨oc, od, .func (PySem.W.fnOf x x (defArgs st) (defBody st) (defScope st) .none kV doc pm an cdv ct), osl⟩ ∧ PySem.W.codeIn K cdv x = true ∧ PySem.W.keepIn K (.ref f) = true
theorem Row.mk' {K : PySem.W.Frag} {x : Str} {st : Stmt} {f : Addr} {oc : Value} {od an : Option Addr} {osl : Array (Option Value)} {kV doc pm cdv ct : Value} (a : PySem.W.nsIn K mainGlobals x = some (some (.ref f)))
    (l : K.lookup f = some ⟨oc, od, .func (PySem.W.fnOf x x (defArgs st) (defBody st) (defScope st) .none kV doc pm an cdv ct), osl⟩)
    (c : PySem.W.codeIn K cdv x = true) (kp : PySem.W.keepIn K (.ref f) = true) : Row K x st := ⟨f, oc, od, an, osl, kV, doc, pm, cdv, ct, a, l, c, kp⟩
theorem Row.at_ {P : Program} {w : World} {K : PySem.W.Frag} {mg : Str → Option Value} {base : Heap} {h : Heap} {x : Str} {st : Stmt} {ps : List Str} {k : Nat} {T : DSp} (r : Row K x st)
    (X : K.In h) (G : h.Ns mainGlobals mg)
    (hb : ∀ (kV doc pm : Value) (an : Option Addr) (cdv ct : Value) (us : List Value), us.length = ps.length → bindArgs (PySem.W.fnOf x x (defArgs st) (defBody st) (defScope st) .none kV doc pm an cdv ct) ⟨us, []⟩ = pure (ps.zip us))
    (ok : ∀ (f : Addr) (fd : FuncData), Fun K x x st f fd → FnOk P w K mg base CX0 k f fd ps (spD K ps.length T)) : DefAt P w K mg base k x ps T :=
  let ⟨_, _, _, _, _, _, _, _, _, _, a, l, c, kp⟩ := r.ex
  defat X G a l c kp hb ok
/-- the law itself -/
theorem Row.law {P : Program} {w : World} {K : PySem.W.Frag} {mg : Str → Option Value} {h : Heap} {x : Str} {st : Stmt} {y : Str} {k : Nat} {T : DSp} {fa : Addr} (r : Row K x st)
    (X : K.In h) (G : h.Ns mainGlobals mg) (hfa : mg x = some (.ref fa))
    (hb : ∀ (kV doc pm : Value) (an : Option Addr) (cdv ct : Value) (u : Value), bindArgs (PySem.W.fnOf x x (defArgs st) (defBody st) (defScope st) .none kV doc pm an cdv ct) ⟨[u], []⟩ = pure [(y, u)])
    (ok : ∀ (base : Heap), K.In base → base.Ns mainGlobals mg → ∀ (f : Addr) (fd : FuncData), Fun K x x st f fd → FnOk P w K mg base CX0 k f fd [y] (spD K 1 T)) :
    ∃ fd : FuncData, (∀ (s : Shared) (u : Value), BindsTo s fd ⟨[u], []⟩ [(y, u)]) ∧ ∀ base : Heap, K.In base → base.Ns mainGlobals mg → FnOk P w K mg base CX0 k fa fd [y] (spD K 1 T) := by
  obtain ⟨f, oc, od, an, osl, kV, doc, pm, cdv, ct, a, l, c, kp⟩ := r.ex
  have e := hfa.symm.trans (PySem.W.mg_of X G a)
  cases e
  exact ⟨_, fun s u => .of_eq (hb ..), fun base hb hg => ok base hb hg _ _ (fun_mk l c kp)⟩
/-- a tuple of whole numbers at the module's top -/
theorem glob_ints {K : PySem.W.Frag} {mg : Str → Option Value} {h : Heap} {x : Str} {a : Addr} {dd : Option Addr} {its : Array Value} {n : Nat} {sl : Array (Option Value)} {ns : List Int} (X : K.In h) (G : h.Ns mainGlobals mg)
    (e : PySem.W.nsIn K mainGlobals x = some (some (.ref a))) (l : K.lookup a = some ⟨.type "tuple", dd, .seq its n, sl⟩) (hz : its.size ≤ 1000) (r : Vals (ns.map V.int) its.toList) : GlobD K mg x (.tuple (ns.map PyData.int)) :=
  ⟨.ref a, .ref a, PySem.W.mg_of X G e, rfl, fun G' => .tup (.inr ⟨_, its, n, l, rfl, rfl, Nat.le_trans hz (by decide), r⟩) (dp_script ns)⟩
theorem glob01 {K : PySem.W.Frag} {mg : Str → Option Value} {h : Heap} {x : Str} {a : Addr} {dd : Option Addr} {its : Array Value} {n : Nat} {sl : Array (Option Value)} (X : K.In h) (G : h.Ns mainGlobals mg)
    (e : PySem.W.nsIn K mainGlobals x = some (some (.ref a))) (l : K.lookup a = some ⟨.type "tuple", dd, .seq its n, sl⟩) (hz : its.size ≤ 1000) (r : Vals [V.int 0, V.int 1] its.toList) : GlobD K mg x (.tuple [.int 0, .int 1]) := glob_ints (ns := [0, 1]) X G e l hz r
end FL

set_option Elab.async false
set_option linter.all false
set_option maxRecDepth 100000
set_option maxHeartbeats 1000000
namespace FL
open PySem L2
/-! running a reading -/
theorem eqv_ii (i j : Int) : PyData.eqv (.int i) (.int j) = decide (i = j) := by rw [PyData.eqv]; exact Bool.beq_eq_decide_eq i j
theorem eqv_bb (i j : Bool) : PyData.eqv (.bool i) (.bool j) = (i == j) := by rw [PyData.eqv]
theorem eqv_ss (i j : Str) : PyData.eqv (.str i) (.str j) = (i == j) := by rw [PyData.eqv]
theorem eqv_tt (xs ys : List PyData) : PyData.eqv (.tuple xs) (.tuple ys) = PyData.eqvAll xs ys := by rw [PyData.eqv]
theorem eqv_ll (xs ys : List PyData) : PyData.eqv (.list xs) (.list ys) = PyData.eqvAll xs ys := by rw [PyData.eqv]
theorem eqvA_n : PyData.eqvAll [] [] = true := by rw [PyData.eqvAll]
theorem eqvA_c (x y : PyData) (xs ys : List PyData) : PyData.eqvAll (x :: xs) (y :: ys) = (PyData.eqv x y && PyData.eqvAll xs ys) := by rw [PyData.eqvAll]
theorem eqvA_nc (y : PyData) (ys : List PyData) : PyData.eqvAll [] (y :: ys) = false := by rw [PyData.eqvAll]
theorem eqvA_cn (y : PyData) (ys : List PyData) : PyData.eqvAll (y :: ys) [] = false := by rw [PyData.eqvAll]
theorem rt_l {n : Nat} {R : RK} {x : S} {cs : Sto} (h : R x cs) : rtD n R x cs := .inl h
/-- what was made within is forgotten -/
theorem rt_g {R : RK} {x : PyData} {cs : Sto} (gs : Sto) (hc : Okc cs.length cs) (h : R (.d x) cs) : rtD cs.length R (.d x) (cs ++ gs) := .inr ⟨cs, gs, rfl, rfl, hc, trivial, h⟩
theorem sd1 (x : S) (n : Nat) : startD (n + 1) [x] = some x :: List.replicate n none := by simp [startD]
theorem sd2 (x y : S) (n : Nat) : startD (n + 2) [x, y] = some x :: some y :: List.replicate n none := by simp [startD]
theorem sd3 (x y z : S) (n : Nat) : startD (n + 3) [x, y, z] = some x :: some y :: some z :: List.replicate n none := by simp [startD]
theorem rg0 (lo : Int) : rgS lo 0 = [] := rfl
theorem rgS_succ (lo : Int) (n : Nat) : rgS lo (n + 1) = si lo :: rgS (lo + 1) n := by
  unfold rgS
  rw [List.range_succ_eq_map, List.map_cons, List.map_map]
  congr 1
  · simp
  · refine List.map_congr_left fun k _ => ?_
    show si (lo + ((k + 1 : Nat) : Int)) = si (lo + 1 + (k : Int))
    rw [show lo + ((k + 1 : Nat) : Int) = lo + 1 + (k : Int) by omega]
theorem rgS_len (lo : Int) (n : Nat) : (rgS lo n).length = n := by simp [rgS]
theorem forR_nil {ok : Sto → Prop} {g : TGD} {tb : TSD} {d : EndsD} {ρ : Ev} {cs : Sto} : forR ok g tb d [] ρ cs = (ok cs ∧ d.nx ρ cs) := rfl
theorem forR_cons {ok : Sto → Prop} {g : TGD} {tb : TSD} {d : EndsD} {x : S} {xs : List S} {ρ : Ev} {cs : Sto} : forR ok g tb d (x :: xs) ρ cs = (ok cs ∧ g x ρ cs fun ρ1 cs1 => tb { nx := forR ok g tb d xs, ct := forR ok g tb d xs, bk := d.nx, rt := d.rt } ρ1 cs1) := rfl
theorem map_app (row : List Int) (x : Int) : row.map si ++ [si x] = (row ++ [x]).map si := by simp
theorem datas_si (row : List Int) : datas (row.map si) = some (row.map PyData.int) := by
  have := datas_map (row.map PyData.int)
  rw [List.map_map] at this
  exact this
theorem atI_at {α : Type} {xs : List α} {i : Int} {x : α} (h0 : 0 ≤ i) (h : xs[i.toNat]? = some x) : atI xs i = some x := by
  have e : i = (i.toNat : Int) := by omega
  rw [e]
  exact atI_nat h
theorem atI_of {α : Type} {xs : List α} {i : Int} (h0 : 0 ≤ i) (h : i < (xs.length : Int)) : ∃ x, x ∈ xs ∧ atI xs i = some x := by
  have hl : i.toNat < xs.length := by omega
  exact ⟨xs[i.toNat], List.getElem_mem hl, atI_at h0 (by simp [hl])⟩
/-! the rules by the form of what comes -/
section
variable {n m : Nat} {ds es : List PyData} {xs : List S} {cs : Sto} {R : RK} {y : S} {z : Str} {i j : Int} {b c : Bool} {ρ : Ev}
theorem ixk_l : ixkR n (.d (.list ds)) cs R = ∃ d, ds[n]? = some d ∧ R (.d d) cs := rfl
theorem ixk_t : ixkR n (.d (.tuple ds)) cs R = ∃ d, ds[n]? = some d ∧ R (.d d) cs := rfl
theorem ixk_r : ixkR n (.ref m) cs R = ∃ xs x, getC cs m = some xs ∧ xs[n]? = some x ∧ R x cs := rfl
theorem ixr_l : dIxR (.d (.list ds)) y cs R = ∃ i d, y = si i ∧ atI ds i = some d ∧ R (.d d) cs := rfl
theorem ixr_t : dIxR (.d (.tuple ds)) y cs R = ∃ i d, y = si i ∧ atI ds i = some d ∧ R (.d d) cs := rfl
theorem ixr_s : dIxR (.d (.str z)) y cs R = ∃ i c, y = si i ∧ z.length ≤ sizeLine ∧ atI z.cps.toList i = some c ∧ R (.d (.str ⟨#[c]⟩)) cs := rfl
theorem ixr_r : dIxR (.ref m) y cs R = ∃ i xs x, y = si i ∧ getC cs m = some xs ∧ atI xs i = some x ∧ R x cs := rfl
variable {RB : Bool → Sto → Prop} {RI : Src → Sto → Prop} {RG : Ev → Sto → Prop} {gs : TGsD}
theorem tru_n : dTruR (.d .none) cs RB = RB false cs := rfl
theorem tru_b : dTruR (.d (.bool b)) cs RB = RB b cs := rfl
theorem tru_i : dTruR (.d (.int i)) cs RB = RB (i != 0) cs := rfl
theorem tru_l : dTruR (.d (.list ds)) cs RB = RB (!ds.isEmpty) cs := rfl
theorem tru_t : dTruR (.d (.tuple ds)) cs RB = RB (!ds.isEmpty) cs := rfl
theorem tru_s : dTruR (.d (.str z)) cs RB = (z.length ≤ sizeLine ∧ RB ((z.length : Int) != 0) cs) := rfl
theorem tru_r : dTruR (.ref m) cs RB = ∃ xs, getC cs m = some xs ∧ RB (!xs.isEmpty) cs := rfl
theorem its_l : itemsR (.d (.list ds)) cs RI = RI ⟨ds.map S.d, okT⟩ cs := rfl
theorem its_t : itemsR (.d (.tuple ds)) cs RI = RI ⟨ds.map S.d, okT⟩ cs := rfl
theorem its_r : itemsR (.ref m) cs RI = ∃ xs, getC cs m = some xs ∧ RI ⟨xs, fun cs => getC cs m = some xs⟩ cs := rfl
theorem gtup_t : dgTup n gs (.d (.tuple ds)) ρ cs RG = (ds.length = n ∧ gs (ds.map S.d) ρ cs RG) := rfl
theorem eqk_i : eqOk (.int i) (.int j) = True := rfl
theorem eqk_b : eqOk (.bool b) (.bool c) = True := rfl
theorem eqk_s {w : Str} : eqOk (.str z) (.str w) = True := rfl
theorem eqk_t : eqOk (.tuple ds) (.tuple es) = (SeqAt.shaped (.tuple ds) = true ∧ SeqAt.shaped (.tuple es) = true) := rfl
theorem eqk_l : eqOk (.list ds) (.list es) = (SeqAt.shaped (.list ds) = true ∧ SeqAt.shaped (.list es) = true) := rfl
theorem len_l : cLen [.d (.list ds)] cs R = R (si (ds.length : Int)) cs := rfl
theorem len_t : cLen [.d (.tuple ds)] cs R = R (si (ds.length : Int)) cs := rfl
theorem len_s : cLen [.d (.str z)] cs R = (z.length ≤ sizeLine ∧ R (si (z.length : Int)) cs) := rfl
theorem len_r : cLen [.ref m] cs R = ∃ xs, getC cs m = some xs ∧ R (si (xs.length : Int)) cs := rfl
theorem int_i : cInt [.d (.int i)] cs R = R (si i) cs := rfl
theorem int_b : cInt [.d (.bool b)] cs R = R (si (if b then 1 else 0)) cs := rfl
theorem sum_l : cSum [.d (.list ds)] cs R = ∃ ns, intsOf ds = some ns ∧ R (si ns.sum) cs := rfl
theorem sum_r : cSum [.ref m] cs R = ∃ xs ds ns, getC cs m = some xs ∧ datas xs = some ds ∧ intsOf ds = some ns ∧ R (si ns.sum) cs := rfl
theorem tup_l : cTup [.d (.list ds)] cs R = R (.d (.tuple ds)) cs := rfl
theorem tup_t : cTup [.d (.tuple ds)] cs R = R (.d (.tuple ds)) cs := rfl
theorem tup_r : cTup [.ref m] cs R = ∃ xs ds, getC cs m = some xs ∧ datas xs = some ds ∧ R (.d (.tuple ds)) cs := rfl
theorem lis_l : cList [.d (.list ds)] cs R = R (.d (.list ds)) cs := rfl
theorem lis_t : cList [.d (.tuple ds)] cs R = R (.d (.list ds)) cs := rfl
theorem lis_r : cList [.ref m] cs R = ∃ xs ds, getC cs m = some xs ∧ datas xs = some ds ∧ R (.d (.list ds)) cs := rfl
theorem lim_l : cListM [.d (.list ds)] cs R = R (.ref cs.length) (cs ++ [some (ds.map S.d)]) := rfl
theorem lim_t : cListM [.d (.tuple ds)] cs R = R (.ref cs.length) (cs ++ [some (ds.map S.d)]) := rfl
theorem lim_r : cListM [.ref m] cs R = ∃ xs, getC cs m = some xs ∧ R (.ref cs.length) (cs ++ [some xs]) := rfl
theorem zip_t : dZipR (.d (.tuple ds)) (.d (.tuple es)) cs RI = RI ⟨zipD ds es, okT⟩ cs := rfl
theorem zip_l : dZipR (.d (.list ds)) (.d (.list es)) cs RI = RI ⟨zipD ds es, okT⟩ cs := rfl
theorem sl_l {lo hi : Option Int} : dSlR (.d (.list ds)) lo hi cs R = R (.d (.list (cutD ds lo hi))) cs := rfl
theorem sl_t {lo hi : Option Int} : dSlR (.d (.tuple ds)) lo hi cs R = R (.d (.tuple (cutD ds lo hi))) cs := rfl
theorem sl_r {lo hi : Option Int} : dSlR (.ref m) lo hi cs R = ∃ ds, getC cs m = some (ds.map S.d) ∧ R (.d (.list (cutD ds lo hi))) cs := rfl
end
end FL

set_option Elab.async false
set_option linter.all false
set_option maxRecDepth 100000
set_option maxHeartbeats 1000000
namespace FR
open PySem L2 FL
/-! ratios as the program writes them: pairs in lowest terms -/
def B (n : Nat) (i : Int) : Prop := i.natAbs < 2 ^ n
def RB (n : Nat) (r : Rat) : Prop := r.num.natAbs < 2 ^ n ∧ r.den < 2 ^ n
def encR (r : Rat) : PyData := .tuple [.int r.num, .int (r.den : Int)]
abbrev sr (r : Rat) : S := .d (encR r)
theorem two_le {a b : Nat} (h : a ≤ b) : (2 : Nat) ^ a ≤ 2 ^ b := Nat.pow_le_pow_right (by decide) h
theorem B.mono {n m : Nat} {i : Int} (h : B n i) (hm : n ≤ m) : B m i := Nat.lt_of_lt_of_le h (two_le hm)
theorem RB.mono {n m : Nat} {r : Rat} (h : RB n r) (hm : n ≤ m) : RB m r := ⟨Nat.lt_of_lt_of_le h.1 (two_le hm), Nat.lt_of_lt_of_le h.2 (two_le hm)⟩
theorem B.mul {n m : Nat} {i j : Int} (h : B n i) (h' : B m j) : B (n + m) (i * j) := by
  unfold B at *
  rw [Int.natAbs_mul, Nat.pow_add]
  exact Nat.mul_lt_mul'' h h'
theorem B.add {n m : Nat} {i j : Int} (h : B n i) (h' : B m j) : B (max n m + 1) (i + j) := by
  unfold B at *
  have a := Int.natAbs_add_le i j
  have h1 := Nat.lt_of_lt_of_le h (two_le (Nat.le_max_left n m))
  have h2 := Nat.lt_of_lt_of_le h' (two_le (Nat.le_max_right n m))
  rw [Nat.pow_succ]
  omega
theorem B.neg {n : Nat} {i : Int} (h : B n i) : B n (-i) := by unfold B at *; rw [Int.natAbs_neg]; exact h
theorem B.sub {n m : Nat} {i j : Int} (h : B n i) (h' : B m j) : B (max n m + 1) (i - j) := by rw [Int.sub_eq_add_neg]; exact h.add h'.neg
theorem B.cm {n m : Nat} {i j : Int} (h : B n i) (h' : B m j) (hn : 0 < n := by decide) (hm : 0 < m := by decide) (hs : n + m ≤ 1000000 := by decide) : CMulW i j := wide_mul h h' hn hm hs
theorem RB.n {n : Nat} {r : Rat} (h : RB n r) : B n r.num := h.1
theorem RB.d {n : Nat} {r : Rat} (h : RB n r) : B n (r.den : Int) := by unfold B; simpa using h.2
theorem den_pos (r : Rat) : (0 : Int) < r.den := by have := r.den_nz; omega
/-- what ratio(p, q) reckons -/
theorem gcd_ne {p q : Int} (h : q ≠ 0) : (0 : Int) < (Int.gcd p q : Nat) := by
  have : Int.gcd p q ≠ 0 := fun e => h (Int.gcd_eq_zero_iff.mp e).2
  omega
theorem gcd_bound {p q : Int} {n : Nat} (h : q ≠ 0) (hb : B n q) : B n (Int.gcd p q : Nat) := by
  unfold B at *
  have h1 : Int.gcd p q ≤ q.natAbs := Nat.le_of_dvd (by omega) (Nat.gcd_dvd_right _ _)
  simp only [Int.natAbs_natCast]
  omega
theorem num_is {p q : Int} (h : 0 < q) : p / (Int.gcd p q : Nat) = (Rat.divInt p q).num := by
  rw [Rat.num_divInt, Int.sign_eq_one_of_pos h, Int.one_mul, Int.gcd_comm]
theorem den_is {p q : Int} (h : 0 < q) : q / (Int.gcd p q : Nat) = ((Rat.divInt p q).den : Int) := by
  rw [Rat.den_divInt, if_neg (by omega), Int.gcd_comm]
  have : q = (q.natAbs : Int) := by omega
  rw [Int.natCast_ediv]
  rw [← this]
theorem divInt_flip (p q : Int) : Rat.divInt (-p) (-q) = Rat.divInt p q := Rat.neg_divInt_neg p q
theorem divInt_b {p q : Int} {n : Nat} (h : q ≠ 0) (hp : B n p) (hq : B n q) : RB n (Rat.divInt p q) := by
  have main : ∀ p q : Int, 0 < q → B n p → B n q → RB n (Rat.divInt p q) := fun p q h hp hq => by
    constructor
    · rw [← num_is h]
      exact Nat.lt_of_le_of_lt (Int.natAbs_ediv_le_natAbs _ _) hp
    · have e := den_is (p := p) h
      have : ((Rat.divInt p q).den : Int).natAbs ≤ q.natAbs := by rw [← e]; exact Int.natAbs_ediv_le_natAbs _ _
      have hq' : q.natAbs < 2 ^ n := hq
      simp only [Int.natAbs_natCast] at this
      omega
  by_cases h0 : 0 < q
  · exact main p q h0 hp hq
  · rw [← divInt_flip]
    exact main _ _ (by omega) hp.neg hq.neg
theorem rat_eta (r : Rat) : Rat.divInt r.num r.den = r := Rat.num_divInt_den r
theorem add_is (r t : Rat) : r + t = Rat.divInt (r.num * t.den + t.num * r.den) (r.den * t.den) := by
  conv => lhs; rw [← rat_eta r, ← rat_eta t]
  exact Rat.divInt_add_divInt _ _ (by have := den_pos r; omega) (by have := den_pos t; omega)
theorem mul_is (r t : Rat) : r * t = Rat.divInt (r.num * t.num) (r.den * t.den) := by
  conv => lhs; rw [← rat_eta r, ← rat_eta t]
  exact Rat.divInt_mul_divInt _ _
theorem div_is (r t : Rat) : r / t = Rat.divInt (r.num * t.den) (r.den * t.num) := by
  rw [Rat.div_def, Rat.inv_def]
  conv => lhs; rw [← rat_eta r]
  exact Rat.divInt_mul_divInt _ _
theorem num_ne {t : Rat} (h : t ≠ 0) : t.num ≠ 0 := fun e => h (Rat.num_eq_zero.mp e)
theorem den_ne (t : Rat) : (t.den : Int) ≠ 0 := by have := den_pos t; omega
theorem mul_ne {i j : Int} (h : i ≠ 0) (h' : j ≠ 0) : i * j ≠ 0 := fun e => (Int.mul_eq_zero.mp e).elim h h'
theorem RB.mul {n m : Nat} {r t : Rat} (h : RB n r) (h' : RB m t) : RB (n + m) (r * t) := by
  rw [mul_is]; exact divInt_b (mul_ne (den_ne r) (den_ne t)) (h.n.mul h'.n) (h.d.mul h'.d)
theorem RB.add {n m : Nat} {r t : Rat} (h : RB n r) (h' : RB m t) : RB (n + m + 1) (r + t) := by
  rw [add_is]; exact divInt_b (mul_ne (den_ne r) (den_ne t)) (((h.n.mul h'.d).add (h'.n.mul h.d)).mono (by omega)) ((h.d.mul h'.d).mono (by omega))
theorem RB.neg {n : Nat} {r : Rat} (h : RB n r) : RB n (-r) := ⟨by rw [Rat.neg_num, Int.natAbs_neg]; exact h.1, h.2⟩
theorem RB.sub {n m : Nat} {r t : Rat} (h : RB n r) (h' : RB m t) : RB (n + m + 1) (r - t) := by rw [Rat.sub_eq_add_neg]; exact h.add h'.neg
theorem RB.div {n m : Nat} {r t : Rat} (h : RB n r) (h' : RB m t) (ht : t ≠ 0) : RB (n + m) (r / t) := by
  rw [div_is]; exact divInt_b (mul_ne (den_ne r) (num_ne ht)) (h.n.mul h'.d) (h.d.mul h'.n)
def cmpR (r t : Rat) : Int := if r < t then -1 else if t < r then 1 else 0
theorem enc_inj {r t : Rat} (hn : r.num = t.num) (hd : (r.den : Int) = t.den) : r = t := Rat.ext hn (by omega)
theorem eqv_enc (r t : Rat) : PyData.eqv (encR r) (encR t) = decide (r = t) := by
  unfold encR
  rw [eqv_tt, eqvA_c, eqvA_c, eqvA_n, eqv_ii, eqv_ii, Bool.and_true]
  by_cases h : r = t
  · subst h; simp
  · rw [decide_eq_false h]
    by_cases h1 : r.num = t.num
    · have h2 : ¬ (r.den : Int) = t.den := fun h2 => h (enc_inj h1 h2)
      simp [h1]
      omega
    · simp [h1]
/-- the greatest divisor's turn -/
theorem gcd_turn (p q : Int) : Int.gcd q (p % q) = Int.gcd p q := by
  rw [Int.gcd_comm p q, Int.emod_def, Int.mul_comm]
  exact Int.gcd_sub_mul_right_right q p (p / q)
theorem cdiv_ok {j : Int} {n : Nat} (i : Int) (h : 0 < j) (hb : B n j) (h0 : 0 < n := by decide) (h9 : n ≤ 9000 := by decide) : CDivW i j := wide_div h hb h0 h9
theorem B.abs {n : Nat} {p : Int} (h : B n p) : B n (p.natAbs : Int) := by
  unfold B at *
  rw [Int.natAbs_natCast]
  exact h
theorem two_b {x y : Int} {n : Nat} (hx : 0 ≤ x) (hy : 0 ≤ y) (h1 : B n x) (h2 : B n y) : x * y < 2 ^ (n + n) := by
  have h := h1.mul h2
  unfold B at h
  have e : ((x * y).natAbs : Int) = x * y := Int.natAbs_of_nonneg (Int.mul_nonneg hx hy)
  have : ((x * y).natAbs : Int) < ((2 ^ (n + n) : Nat) : Int) := Int.ofNat_lt.mpr h
  rw [e, Int.natCast_pow] at this
  exact this
theorem B.le {n : Nat} {x y : Int} (hy : B n y) (h0 : 0 ≤ x) (h : x ≤ y) : B n x := by
  unfold B at *
  omega
theorem enc_eq {r t : Rat} : (encR r = encR t) = (r = t) := by
  refine propext ⟨fun h => ?_, fun h => by rw [h]⟩
  unfold encR at h
  simp only [PyData.tuple.injEq, List.cons.injEq, PyData.int.injEq, and_true] at h
  exact enc_inj h.1 h.2
def dOk : Nat → PyData → Bool
  | 0, _ => false
  | n + 1, d => match d with
    | .list ds => ds.all (dOk n) && decide (ds.length ≤ 1000000)
    | .tuple ds => ds.all (dOk n) && decide (ds.length ≤ 1000000)
    | .dict _ => false
    | _ => true
theorem dOk_enc (n : Nat) (r : Rat) : dOk (n + 2) (encR r) = true := by simp [dOk, encR]
theorem dOk_int (n : Nat) (i : Int) : dOk (n + 1) (.int i) = true := rfl
theorem shaped_enc (r : Rat) : SeqAt.shaped (encR r) = true := by
  unfold encR SeqAt.shaped
  simp [PyData.canLay0, PyData.canLayAll0, PyData.depth, PyData.depthAll]
theorem ixk_enc0 {r : Rat} {cs : Sto} {R : RK} : ixkR 0 (.d (encR r)) cs R = R (si r.num) cs := propext ⟨fun ⟨_, e, q⟩ => by cases e; exact q, fun q => ⟨_, rfl, q⟩⟩
theorem ixk_enc1 {r : Rat} {cs : Sto} {R : RK} : ixkR 1 (.d (encR r)) cs R = R (si (r.den : Int)) cs := propext ⟨fun ⟨_, e, q⟩ => by cases e; exact q, fun q => ⟨_, rfl, q⟩⟩
end FR

set_option Elab.async false
set_option linter.all false
set_option maxRecDepth 100000
set_option maxHeartbeats 1000000
namespace FL
open PySem L2
section
variable {K : PySem.W.Frag} {X : Cx} {a b : Expr} {ta tb : TD} {pos : Pos}
theorem op_isB : OpR X (compareOp .Is) (fun x y H Q => ∃ b, y = .bl b ∧ Q (.bl (decide (x = .bl b))) H) := by
  intro pins s σ H x y v u Q I rx ry h
  obtain ⟨b, rfl, q⟩ := h
  cases ry
  cases x <;> first
    | (cases rx; exact wpAny_is_plain rfl (fin_bl I q (by first | (simp; done) | (rename_i c; cases b <;> cases c <;> rfl))))
    | (obtain ⟨t, rfl⟩ := rx; exact wpAny_is_plain rfl (fin_bl I q (by first | (simp; done) | (rename_i c; cases b <;> cases c <;> rfl))))
theorem op_notB : OpR X (compareOp .IsNot) (fun x y H Q => ∃ b, y = .bl b ∧ Q (.bl (!decide (x = .bl b))) H) := by
  intro pins s σ H x y v u Q I rx ry h
  obtain ⟨b, rfl, q⟩ := h
  cases ry
  cases x <;> first
    | (cases rx; exact wpAny_isNot_plain rfl (fin_bl I q (by first | (simp; done) | (rename_i c; cases b <;> cases c <;> rfl))))
    | (obtain ⟨t, rfl⟩ := rx; exact wpAny_isNot_plain rfl (fin_bl I q (by first | (simp; done) | (rename_i c; cases b <;> cases c <;> rfl))))
def isB (b : Bool) : S → Bool
  | .d (.bool c) => decide (c = b)
  | _ => false
def qIsB : RD2 := fun x y cs R => ∃ b, y = sb b ∧ R (sb (isB b x)) cs
def qNotB : RD2 := fun x y cs R => ∃ b, y = sb b ∧ R (sb (!isB b x)) cs
theorem isB_of {G : Hp} {π : List Addr} {v : V} {x : S} {b : Bool} (r : RepS K G π v x) : decide (v = .bl b) = isB b x := by
  cases r with
  | d r => cases r <;> first | (refine decide_eq_false (fun z => ?_); cases z; done) | simp [isB]
  | ref _ => exact decide_eq_false fun z => by cases z
theorem sim_IsB : Sim2 K (fun x y H Q => ∃ b, y = .bl b ∧ Q (.bl (decide (x = .bl b))) H) qIsB := by
  rintro G π cs H v w x y R Q A rv rw ⟨b, rfl, q⟩ k
  cases rw with
  | d rw => cases rw; exact ⟨b, rfl, k _ _ _ _ _ _ .refl A (.d (.bl _)) (by rw [isB_of rv]; exact q)⟩
theorem sim_NotB : Sim2 K (fun x y H Q => ∃ b, y = .bl b ∧ Q (.bl (!decide (x = .bl b))) H) qNotB := by
  rintro G π cs H v w x y R Q A rv rw ⟨b, rfl, q⟩ k
  cases rw with
  | d rw => cases rw; exact ⟨b, rfl, k _ _ _ _ _ _ .refl A (.d (.bl _)) (by rw [isB_of rv]; exact q)⟩
theorem ee_isB (ha : PE X a (upE X.K ta)) (hb : PE X b (upE X.K tb)) : PE X (.Compare a [.Is] [b] pos) (upE X.K (dOp qIsB ta tb)) := ee_cmp sim_IsB op_isB ha hb (nomark _)
theorem ee_notB (ha : PE X a (upE X.K ta)) (hb : PE X b (upE X.K tb)) : PE X (.Compare a [.IsNot] [b] pos) (upE X.K (dOp qNotB ta tb)) := ee_cmp sim_NotB op_notB ha hb (nomark _)
theorem et_isB (ha : PE X a (upE X.K ta)) (hb : PE X b (upE X.K tb)) : PT X (.Compare a [.Is] [b] pos) (upT X.K (dTestR (dOp qIsB ta tb))) := et_cmp sim_IsB op_isB ha hb (nomark _)
theorem et_notB (ha : PE X a (upE X.K ta)) (hb : PE X b (upE X.K tb)) : PT X (.Compare a [.IsNot] [b] pos) (upT X.K (dTestR (dOp qNotB ta tb))) := et_cmp sim_NotB op_notB ha hb (nomark _)
/-- a + b: ints, tuples, texts, lists that stand -/
abbrev rCatL (K : PySem.W.Frag) : R2 := fun x y H Q => ∃ a b xs ys, x = .ref a ∧ y = .ref b ∧ SqL K H a xs ∧ SqL K H b ys ∧ xs.length + ys.length ≤ sizeLine ∧ ∀ p, H p = none → Q (.ref p) (upd H p (.lst (xs ++ ys)))
theorem op_catL : OpR X (binaryOp .Add) (rCatL X.K) := by
  intro pins s σ H x y v u Q I rx ry h
  obtain ⟨a, b, xs, ys, rfl, rfl, ha, hb, hz, q⟩ := h
  cases rx
  cases ry
  obtain ⟨its, r, ⟨⟨cls, dd, data, sl⟩, n, ho, hc, _, hd⟩, _⟩ := I.list ha
  obtain ⟨its2, r2, ⟨⟨cls2, dd2, data2, sl2⟩, n2, ho2, hc2, _, hd2⟩, _⟩ := I.list hb
  simp only at hc hd hc2 hd2
  subst hc hd hc2 hd2
  have l1 := r.length
  have l2 := r2.length
  have e : its.toArray ++ its2.toArray = (its ++ its2).toArray := by simp
  refine PySem.concat_meets ⟨_, ho, rfl⟩ ⟨_, ho2, rfl⟩ PySem.noFill_list_add PySem.seq_list_add PySem.F.slot_list_add PySem.F.entry_list_add (PySem.F.args_list_add_2 _ _) (PyProof.Rows.list_addW a b its.toArray its2.toArray n n2 dd dd2 sl sl2 (by simpa [← l1, ← l2] using hz)) ⟨ho, ho2, ?_⟩
  rw [e]
  exact ⟨.ref _, _, I.lnew (t' := s.toks) (r.append r2) (by rw [List.length_append]; omega), rfl, q _ I.fresh⟩
def qAddL : RD2 := fun x y cs R => match x with
  | .d (.int i) => ∃ j, y = si j ∧ R (si (i + j)) cs
  | .d (.tuple ds) => ∃ es, y = .d (.tuple es) ∧ ds.length + es.length ≤ sizeLine ∧ R (.d (.tuple (ds ++ es))) cs
  | .d (.list ds) => ∃ es, y = .d (.list es) ∧ ds.length + es.length ≤ sizeLine ∧ R (.d (.list (ds ++ es))) cs
  | .d (.str z) => ∃ w, y = .d (.str w) ∧ z.length + w.length ≤ sizeLine ∧ R (.d (.str (z ++ w))) cs
  | _ => False
theorem sim_addL : Sim2 K (fun x y H Q => (rI0 (fun i j => .int (i + j)) x y H Q ∨ rCatA K x y H Q ∨ ∃ i j, x = .str i ∧ y = .str j ∧ i.length + j.length ≤ sizeLine ∧ Q (.str (i ++ j)) H) ∨ rCatL K x y H Q) qAddL := by
  intro G π cs H v w x y R Q A rv rw q k
  cases x with
  | ref n => exact q.elim
  | d x =>
    cases x <;> try (exact q.elim; done)
    · obtain ⟨j, rfl, q⟩ := q
      exact .inl (.inl (sim_I0 G π cs H v w _ _ R Q A rv rw ⟨_, _, rfl, rfl, q⟩ k))
    · obtain ⟨j, rfl, hz, q⟩ := q
      cases rv with
      | d rv => cases rv; cases rw with
        | d rw => cases rw; exact .inl (.inr (.inr ⟨_, _, rfl, rfl, hz, k _ _ _ _ _ _ .refl A (.d (.str _)) q⟩))
    · obtain ⟨es, rfl, hz, q⟩ := q
      obtain ⟨a, vs, rfl, h, r⟩ := rep_list A rv
      obtain ⟨b, ws, rfl, h', r'⟩ := rep_list A rw
      refine .inr ⟨a, b, vs, ws, rfl, rfl, h, h', by rw [DpAll.len r, DpAll.len r']; exact hz, fun p hp => ?_⟩
      obtain ⟨G2, A2, E2, r2⟩ := new_lst A (DpAll.app r r') hp
      exact k _ _ _ _ _ _ E2 A2 r2 q
    · obtain ⟨es, rfl, hz, q⟩ := q
      exact .inl (.inr (.inl (sim_catT G π cs H v w _ _ R Q A rv rw ⟨_, _, rfl, rfl, hz, q⟩ k)))
theorem ee_addL (ha : PE X a (upE X.K ta)) (hb : PE X b (upE X.K tb)) : PE X (.BinOp a .Add b pos) (upE X.K (dOp qAddL ta tb)) := ee_op sim_addL ((op_add.or (op_catA.or op_add_str)).or op_catL) ha hb
theorem addl_i {i j : Int} {cs : Sto} {R : RK} : qAddL (si i) (si j) cs R = R (si (i + j)) cs := propext ⟨fun ⟨_, e, q⟩ => by cases e; exact q, fun q => ⟨_, rfl, q⟩⟩
theorem addl_t {ds es : List PyData} {cs : Sto} {R : RK} : qAddL (.d (.tuple ds)) (.d (.tuple es)) cs R = (ds.length + es.length ≤ sizeLine ∧ R (.d (.tuple (ds ++ es))) cs) := propext ⟨fun ⟨_, e, q⟩ => by cases e; exact q, fun q => ⟨_, rfl, q⟩⟩
theorem addl_l {ds es : List PyData} {cs : Sto} {R : RK} : qAddL (.d (.list ds)) (.d (.list es)) cs R = (ds.length + es.length ≤ sizeLine ∧ R (.d (.list (ds ++ es))) cs) := propext ⟨fun ⟨_, e, q⟩ => by cases e; exact q, fun q => ⟨_, rfl, q⟩⟩
/-- one statement, the rest as it stands -/
theorem stp {t u : TSD} {d : EndsD} {ρ : Ev} {cs : Sto} (h : ∀ T : TSD, T = u → t { d with nx := T d } ρ cs) : dSeq t u d ρ cs := h u rfl
end
end FL

set_option Elab.async false
set_option linter.all false
set_option maxRecDepth 100000
set_option maxHeartbeats 1000000
namespace FL
open PySem L2
/-! loops and comprehensions by what holds at each turn -/
section
variable {α : Type} {ok : Sto → Prop} {g : TGD} {tb : TSD} {tt : TTD} {te : TD} {d : EndsD} {ρ ρ0 : Ev} {cs : Sto} {k : List S → Sto → Prop}
theorem for_all (en : α → S) (I : List α → Ev → Sto → Prop) (hok : ∀ as ρ cs, I as ρ cs → ok cs) (he : ∀ ρ cs, I [] ρ cs → d.nx ρ cs)
    (hs : ∀ a as ρ cs, I (a :: as) ρ cs → ∀ Z : Ev → Sto → Prop, (∀ ρ' cs', I as ρ' cs' → Z ρ' cs') → g (en a) ρ cs fun ρ1 cs1 => tb { nx := Z, ct := Z, bk := d.nx, rt := d.rt } ρ1 cs1) :
    ∀ (as : List α) (ρ : Ev) (cs : Sto), I as ρ cs → forR ok g tb d (as.map en) ρ cs
  | [], ρ, cs, h => ⟨hok _ _ _ h, he _ _ h⟩
  | a :: as, ρ, cs, h => by
    rw [List.map_cons, forR_cons]
    exact ⟨hok _ _ _ h, hs a as ρ cs h _ fun ρ' cs' h' => for_all en I hok he hs as ρ' cs' h'⟩
theorem for_rng_aux (n : Nat) (lo0 : Int) (I : Nat → Ev → Sto → Prop) (he : ∀ ρ cs, I n ρ cs → d.nx ρ cs)
    (hs : ∀ k ρ cs, k < n → I k ρ cs → ∀ Z : Ev → Sto → Prop, (∀ ρ' cs', I (k + 1) ρ' cs' → Z ρ' cs') → g (si (lo0 + (k : Nat))) ρ cs fun ρ1 cs1 => tb { nx := Z, ct := Z, bk := d.nx, rt := d.rt } ρ1 cs1) :
    ∀ (m k : Nat) (lo : Int) (ρ : Ev) (cs : Sto), k + m = n → lo = lo0 + (k : Nat) → I k ρ cs → forR okT g tb d (rgS lo m) ρ cs
  | 0, k, lo, ρ, cs, e, _, h => by
    have : k = n := by omega
    subst this
    exact ⟨trivial, he _ _ h⟩
  | m + 1, k, lo, ρ, cs, e, hl, h => by
    rw [rgS_succ, forR_cons, hl]
    exact ⟨trivial, hs k ρ cs (by omega) h _ fun ρ' cs' h' => for_rng_aux n lo0 I he hs m (k + 1) _ ρ' cs' (by omega) (by omega) h'⟩
theorem for_rng (n : Nat) (I : Nat → Ev → Sto → Prop) (he : ∀ ρ cs, I n ρ cs → d.nx ρ cs)
    (hs : ∀ k ρ cs, k < n → I k ρ cs → ∀ Z : Ev → Sto → Prop, (∀ ρ' cs', I (k + 1) ρ' cs' → Z ρ' cs') → g (si (k : Nat)) ρ cs fun ρ1 cs1 => tb { nx := Z, ct := Z, bk := d.nx, rt := d.rt } ρ1 cs1)
    (h : I 0 ρ cs) : forR okT g tb d (rgS 0 n) ρ cs :=
  for_rng_aux n 0 I he (fun k ρ cs hk h Z z => by rw [Int.zero_add]; exact hs k ρ cs hk h Z z) n 0 0 ρ cs (by omega) (by omega) h
/-- with a store that goes on -/
theorem comp_st (en : α → S) (I : List α → List S → Sto → Prop) (hok : ∀ as acc cs, I as acc cs → ok cs) (he : ∀ acc cs, I [] acc cs → k acc cs)
    (hs : ∀ a as acc cs, I (a :: as) acc cs → ∀ Z : List S → Sto → Prop, (∀ acc' cs', I as acc' cs' → Z acc' cs') → g (en a) ρ0 cs fun ρ1 cs1 => tt ρ1 cs1 fun b cs2 => (b = true → te ρ1 cs2 fun y cs3 => Z (acc ++ [y]) cs3) ∧ (b = false → Z acc cs2)) :
    ∀ (as : List α) (acc : List S) (cs : Sto), I as acc cs → compR ok g tt te ρ0 k (as.map en) acc cs
  | [], acc, cs, h => ⟨hok _ _ _ h, he _ _ h⟩
  | a :: as, acc, cs, h => ⟨hok _ _ _ h, hs a as acc cs h _ fun acc' cs' h' => comp_st en I hok he hs as acc' cs' h'⟩
theorem comp_map (en : α → S) (fn : α → S) (hok : ok cs) : ∀ (as : List α) (acc : List S)
    (h : ∀ a ∈ as, ∀ R : RK, R (fn a) cs → g (en a) ρ0 cs fun ρ1 cs1 => te ρ1 cs1 R) (hk : k (acc ++ as.map fn) cs), compR ok g dYes te ρ0 k (as.map en) acc cs
  | [], acc, _, hk => ⟨hok, by simpa using hk⟩
  | a :: as, acc, h, hk => by
    refine ⟨hok, ?_⟩
    have h1 := h a List.mem_cons_self (fun y cs3 => compR ok g dYes te ρ0 k (as.map en) (acc ++ [y]) cs3) (comp_map en fn hok as _ (fun b hb => h b (List.mem_cons_of_mem _ hb)) (by simpa using hk))
    simpa [dYes] using h1
theorem comp_flt (en : α → S) (p : α → Bool) (fn : α → S) (hok : ok cs) : ∀ (as : List α) (acc : List S)
    (h : ∀ a ∈ as, ∀ (Y : RK) (Nn : Sto → Prop), (p a = true → Y (fn a) cs) → (p a = false → Nn cs) → g (en a) ρ0 cs fun ρ1 cs1 => tt ρ1 cs1 fun b cs2 => (b = true → te ρ1 cs2 Y) ∧ (b = false → Nn cs2))
    (hk : k (acc ++ (as.filter p).map fn) cs), compR ok g tt te ρ0 k (as.map en) acc cs
  | [], acc, _, hk => ⟨hok, by simpa using hk⟩
  | a :: as, acc, h, hk => by
    refine ⟨hok, h a List.mem_cons_self _ _ (fun e => ?_) fun e => ?_⟩
    · refine comp_flt en p fn hok as _ (fun b hb => h b (List.mem_cons_of_mem _ hb)) ?_
      rw [List.filter_cons_of_pos e] at hk
      simpa using hk
    · refine comp_flt en p fn hok as _ (fun b hb => h b (List.mem_cons_of_mem _ hb)) ?_
      rw [List.filter_cons_of_neg (by simp [e])] at hk
      exact hk
theorem comp_rng_aux (fn : α → S) (as : List α) : ∀ (m j : Nat) (lo : Int) (acc : List S), j + m = as.length → lo = (j : Nat) →
    (∀ (i : Nat) (hi : i < as.length), ∀ R : RK, R (fn as[i]) cs → g (si (i : Nat)) ρ0 cs fun ρ1 cs1 => te ρ1 cs1 R) → k (acc ++ (as.drop j).map fn) cs → compR okT g dYes te ρ0 k (rgS lo m) acc cs
  | 0, j, lo, acc, e, _, _, hk => ⟨trivial, by
      have : as.drop j = [] := List.drop_eq_nil_of_le (by omega)
      rw [this] at hk; simpa using hk⟩
  | m + 1, j, lo, acc, e, hl, h, hk => by
    subst hl
    rw [rgS_succ]
    refine ⟨trivial, ?_⟩
    have hj : j < as.length := by omega
    have h1 := h j hj (fun y cs3 => compR okT g dYes te ρ0 k (rgS ((j : Nat) + 1) m) (acc ++ [y]) cs3) (comp_rng_aux fn as m (j + 1) _ _ (by omega) (by omega) h (by
      rw [List.drop_eq_getElem_cons hj, List.map_cons] at hk
      rw [List.append_assoc]
      exact hk))
    simpa [dYes] using h1
theorem comp_rng (fn : α → S) (as : List α) {n : Nat} (hn : n = as.length) (h : ∀ (i : Nat) (hi : i < as.length), ∀ R : RK, R (fn as[i]) cs → g (si (i : Nat)) ρ0 cs fun ρ1 cs1 => te ρ1 cs1 R) (hk : k (as.map fn) cs) :
    compR okT g dYes te ρ0 k (rgS 0 n) [] cs := comp_rng_aux fn as n 0 0 [] (by omega) (by omega) h (by simpa using hk)
theorem datas_fn (fn : α → PyData) (as : List α) : datas (as.map fun a => S.d (fn a)) = some (as.map fn) := by
  have := datas_map (as.map fn)
  rw [List.map_map] at this
  exact this
theorem map_d (fn : α → PyData) (as : List α) : (as.map fn).map S.d = as.map fun a => S.d (fn a) := by rw [List.map_map]; rfl
theorem zipD_fn {β : Type} (f : α → PyData) (h : β → PyData) (as : List α) (bs : List β) : zipD (as.map f) (bs.map h) = (as.zip bs).map fun p => S.d (.tuple [f p.1, h p.2]) := by
  unfold zipD
  rw [List.zip_map, List.map_map]
  rfl
theorem atI_map (f : α → PyData) {as : List α} {i : Nat} (hi : i < as.length) : atI (as.map f) (i : Int) = some (f as[i]) := atI_nat (by simp [hi])
theorem intsOf_fn (f : α → Int) (as : List α) : intsOf (as.map fun a => .int (f a)) = some (as.map f) := by
  have := intsOf_map (as.map f)
  rw [List.map_map] at this
  exact this
end
end FL

set_option Elab.async false
set_option linter.all false
set_option maxRecDepth 100000
set_option maxHeartbeats 1000000
namespace FL
open PySem L2
section
variable {X : Cx} {K : PySem.W.Frag} {a b c e tg : Expr} {es : List Expr} {ta tb tc te : TD} {t : TAD} {tt : TTD} {pos p : Pos} {x : Str}
/-! constants of the module -/
theorem glob_v {K : PySem.W.Frag} {mg : Str → Option Value} {h : Heap} {x : Str} {u : Value} {v : V} {d : PyData} (X : K.In h) (G : h.Ns mainGlobals mg) (e : PySem.W.nsIn K mainGlobals x = some (some u)) (r : RelV v u) (q : ∀ G, Dp K G v d) : GlobD K mg x d :=
  ⟨u, v, PySem.W.mg_of X G e, r, q⟩
theorem glob_str {K : PySem.W.Frag} {mg : Str → Option Value} {h : Heap} {x : Str} (z : Str) {tk : Tok} (X : K.In h) (G : h.Ns mainGlobals mg) (e : PySem.W.nsIn K mainGlobals x = some (some (.str z tk))) : GlobD K mg x (.str z) := glob_v (v := .str z) X G e ⟨tk, rfl⟩ fun _ => .str z
theorem glob_int {K : PySem.W.Frag} {mg : Str → Option Value} {h : Heap} {x : Str} (i : Int) {tk : Tok} (X : K.In h) (G : h.Ns mainGlobals mg) (e : PySem.W.nsIn K mainGlobals x = some (some (.int i tk))) : GlobD K mg x (.int i) := glob_v (v := .int i) X G e ⟨tk, rfl⟩ fun _ => .int i

/-! max(xs), min(xs) of a list -/
def maxL : List Int → Int
  | [] => 0
  | a :: r => r.foldl max a
def minL : List Int → Int
  | [] => 0
  | a :: r => r.foldl min a
theorem fmax_is : ∀ (r : List Int) (a : Int), r.foldl max a ∈ a :: r ∧ ∀ y ∈ a :: r, y ≤ r.foldl max a
  | [], a => ⟨by simp, fun y h => by simp at h; subst h; exact Int.le_refl _⟩
  | b :: r, a => by
    obtain ⟨h1, h2⟩ := fmax_is r (max a b)
    rw [List.foldl_cons]
    have h3 := h2 _ List.mem_cons_self
    refine ⟨?_, fun y hy => ?_⟩
    · rcases List.mem_cons.mp h1 with h | h
      · rw [h]
        rcases Int.le_total a b with q | q
        · rw [Int.max_eq_right q]; simp
        · rw [Int.max_eq_left q]; simp
      · simp [h]
    · rcases List.mem_cons.mp hy with rfl | hy
      · omega
      · rcases List.mem_cons.mp hy with rfl | hy
        · omega
        · exact h2 y (List.mem_cons_of_mem _ hy)
theorem fmin_is : ∀ (r : List Int) (a : Int), r.foldl min a ∈ a :: r ∧ ∀ y ∈ a :: r, r.foldl min a ≤ y
  | [], a => ⟨by simp, fun y h => by simp at h; subst h; exact Int.le_refl _⟩
  | b :: r, a => by
    obtain ⟨h1, h2⟩ := fmin_is r (min a b)
    rw [List.foldl_cons]
    have h3 := h2 _ List.mem_cons_self
    refine ⟨?_, fun y hy => ?_⟩
    · rcases List.mem_cons.mp h1 with h | h
      · rw [h]
        rcases Int.le_total a b with q | q
        · rw [Int.min_eq_left q]; simp
        · rw [Int.min_eq_right q]; simp
      · simp [h]
    · rcases List.mem_cons.mp hy with rfl | hy
      · omega
      · rcases List.mem_cons.mp hy with rfl | hy
        · omega
        · exact h2 y (List.mem_cons_of_mem _ hy)
theorem maxL_un {ns : List Int} {m : Int} (h : m ∈ ns) (hm : ∀ y, y ∈ ns → y ≤ m) : m = maxL ns := by
  cases ns with
  | nil => cases h
  | cons a r =>
    have q := fmax_is r a
    exact Int.le_antisymm (q.2 m h) (hm _ q.1)
theorem minL_un {ns : List Int} {m : Int} (h : m ∈ ns) (hm : ∀ y, y ∈ ns → m ≤ y) : m = minL ns := by
  cases ns with
  | nil => cases h
  | cons a r =>
    have q := fmin_is r a
    exact Int.le_antisymm (hm _ q.1) (q.2 m h)
def cExt (f : List Int → Int) : RDL
  | [.d (.list ds)], cs, R => ∃ ns, intsOf ds = some ns ∧ 0 < ns.length ∧ R (si (f ns)) cs
  | [.ref n], cs, R => ∃ ds ns, getC cs n = some (ds.map S.d) ∧ intsOf ds = some ns ∧ 0 < ns.length ∧ R (si (f ns)) cs
  | _, _, _ => False
abbrev cMax1 : RDL := cExt maxL
abbrev cMin1 : RDL := cExt minL
theorem ext_of {r : List V → Hp → VK → Prop} {f : List Int → Int} (hr : ∀ (a : Addr) (ns : List Int) H Q, SqL K H a (ns.map V.int) → 0 < ns.length → Q (.int (f ns)) H → r [V.ref a] H Q) : SimL K r (cExt f) := by
  intro G π cs H vs xs R Q A rl q k
  unfold cExt at q
  split at q
  · obtain ⟨ns, e, hl, q⟩ := q
    obtain ⟨v, rfl, r0⟩ := repL_one rl
    obtain ⟨p, vs, rfl, h, rr⟩ := rep_list A r0
    rw [intsOf_eq e] at rr
    rw [dp_ints rr] at h
    exact hr p ns H Q h hl (k _ _ _ _ _ _ .refl A (.d (.int _)) q)
  · obtain ⟨ds, ns, e, e3, hl, q⟩ := q
    obtain ⟨v, rfl, r0⟩ := repL_one rl
    obtain ⟨p, vs, rfl, _, h, rr⟩ := rep_ref A r0 e
    have rr := dpAll_of rr
    rw [intsOf_eq e3] at rr
    rw [dp_ints rr] at h
    exact hr p ns H Q (.of h) hl (k _ _ _ _ _ _ .refl A (.d (.int _)) q)
  · exact q.elim
theorem sim_max1 : SimL K (rMax K) cMax1 := ext_of fun a ns H Q h hl q => ⟨a, ns, rfl, h, hl, fun m h1 h2 => by rw [maxL_un h1 h2]; exact q⟩
theorem sim_min1 : SimL K (rMin K) cMin1 := ext_of fun a ns H Q h hl q => ⟨a, ns, rfl, h, hl, fun m h1 h2 => by rw [minL_un h1 h2]; exact q⟩
theorem ec_max1 (hc : X.calm = true) (hg : Gl X "max") (hm : X.mg "max" = none) (ha : PA X (e :: es) (upA X.K t)) (he : starEach (e :: es) X.env = (false, eval e X.env) :: starEach es X.env := by rfl) (hpl : (backTo pos (starEach es X.env)).any (·.1) = false := by rfl) :
    PE X (.Call (.Name "max" p) (e :: es) [] pos) (upE X.K (dCB cMax1 t)) := ee_callB sim_max1 (cr_max hc) hg hm (by decide +kernel) ha (by decide) (by decide) he hpl
theorem ec_min1 (hc : X.calm = true) (hg : Gl X "min") (hm : X.mg "min" = none) (ha : PA X (e :: es) (upA X.K t)) (he : starEach (e :: es) X.env = (false, eval e X.env) :: starEach es X.env := by rfl) (hpl : (backTo pos (starEach es X.env)).any (·.1) = false := by rfl) :
    PE X (.Call (.Name "min" p) (e :: es) [] pos) (upE X.K (dCB cMin1 t)) := ee_callB sim_min1 (cr_min hc) hg hm (by decide +kernel) ha (by decide) (by decide) he hpl
theorem mx1_l {ds : List PyData} {cs : Sto} {R : RK} {f : List Int → Int} : cExt f [.d (.list ds)] cs R = ∃ ns, intsOf ds = some ns ∧ 0 < ns.length ∧ R (si (f ns)) cs := rfl
theorem mx1_r {n : Nat} {cs : Sto} {R : RK} {f : List Int → Int} : cExt f [.ref n] cs R = ∃ ds ns, getC cs n = some (ds.map S.d) ∧ intsOf ds = some ns ∧ 0 < ns.length ∧ R (si (f ns)) cs := rfl

/-! [x, ..] * n -/
def dRep (t : TAD) (tb : TD) : TD := fun ρ cs R => t ρ cs fun xs cs1 => xs.length ≤ sizeLine ∧ tb ρ cs1 fun y cs2 => ∃ k ds, y = si k ∧ datas xs = some ds ∧ -(2 ^ 63) ≤ k ∧ k < 2 ^ 63 ∧ ds.length * k.toNat ≤ sizeLine ∧ R (.d (.list (List.replicate k.toNat ds).flatten)) cs2
theorem dpAll_rep {G : Hp} {vs : List V} {ds : List PyData} (h : DpAll K G vs ds) : ∀ n : Nat, DpAll K G (List.replicate n vs).flatten (List.replicate n ds).flatten
  | 0 => .nil
  | n + 1 => by
    rw [List.replicate_succ, List.replicate_succ, List.flatten_cons, List.flatten_cons]
    exact DpAll.app h (dpAll_rep h n)
theorem ee_rep (h : PA X es (upA X.K t)) (hb : PE X b (upE X.K tb)) {pos2 : Pos} : PE X (.BinOp (.List es pos2) .Mult b pos) (upE X.K (dRep t tb)) := by
  refine (pe_op op_rep (pe_lst h) hb).weak ?_
  rintro σ H Q ⟨G, π, ρ, cs, R, A, s, q, k⟩
  refine ⟨G, π, ρ, cs, _, A, s, q, fun vs H1 xs cs1 G1 π1 E1 A1 r1 q1 => ?_⟩
  refine ⟨by rw [r1.len]; exact q1.1, fun p hp => ?_⟩
  obtain ⟨A2, E2⟩ := A1.junk hp (.lst vs)
  refine ⟨G1, π1, ρ, cs1, _, A2, (s.ext E1).ext E2, q1.2, fun w H2 y cs2 G2 π2 E3 A3 r3 q3 => ?_⟩
  obtain ⟨kk, ds, rfl, e, h1, h2, h4, q3⟩ := q3
  have hv : H2 p = some (.lst vs) := E3.f p _ (A1.nin hp) upd_same
  rw [datas_eq e] at r1
  have hd := dpAll_mono E3.g (dpAll_mono E2.g (dpAll_of r1))
  rw [rep_int r3]
  refine ⟨p, kk, vs, rfl, rfl, hv, h1, h2, by rw [DpAll.len hd]; exact h4, fun p2 hp2 => ?_⟩
  obtain ⟨G4, A4, E4, r4⟩ := new_lst A3 (dpAll_rep hd kk.toNat) hp2
  exact k _ _ _ _ _ _ (E1.trans (E2.trans (E3.trans E4))) A4 r4 q3

/-! three and more names at once -/
/-- a, b, c, d = w, x, y, z: a tuple of its own, taken apart -/
def dParN (n : Nat) (t : TAD) (gs : TGsD) : TSD := fun d ρ cs => t ρ cs fun xs cs1 => xs.length = n ∧ n ≤ sizeLine ∧ gs xs ρ cs1 d.nx
theorem repL_three {G : Hp} {π : List Addr} {vs : List V} {x y z : S} (r : RepL K G π vs [x, y, z]) : ∃ v w u, vs = [v, w, u] ∧ RepS K G π v x ∧ RepS K G π w y ∧ RepS K G π u z := by
  cases r with
  | cons r rr => cases rr with
    | cons r' rr => cases rr with
      | cons r'' rr => cases rr; exact ⟨_, _, _, rfl, r, r', r''⟩
theorem es_par3 (i j l : Nat) {x y z : Str} {px py pz pt : Pos} {kt k2 pt2} (hc : X.calm = true) (hN : X.N.Nodup) (hi : X.N[i]? = some x) (hj : X.N[j]? = some y) (hl : X.N[l]? = some z) (hij : i ≠ j) (hil : i ≠ l) (hjl : j ≠ l)
    (hx : X.env.scope.names.lookup x = some .local) (hy : X.env.scope.names.lookup y = some .local) (hz : X.env.scope.names.lookup z = some .local) (ha : PA X [a, b, c] (upA X.K t))
    (hw : swappedStores [.Tuple [.Name x px, .Name y py, .Name z pz] kt pt] (.Tuple [a, b, c] k2 pt2) X.env = pure (some [x, y, z]))
    (hs : swapsWithSole [.Tuple [.Name x px, .Name y py, .Name z pz] kt pt] (.Tuple [a, b, c] k2 pt2) pos.line X.env = pure false := by rfl) :
    PS X (.Assign [.Tuple [.Name x px, .Name y py, .Name z pz] kt pt] (.Tuple [a, b, c] k2 pt2) pos) (upS X.K (dParN 3 t (dgCons (dgName i) (dgCons (dgName j) (dgCons (dgName l) dgNil))))) := (ps_par3 hc hN hi hj hl hij hil hjl hx hy hz ha hw hs).weak (by
  rintro D σ H ⟨G, π, ρ, cs, d, A, s, q, C⟩
  refine ⟨G, π, ρ, cs, _, A, s, q, fun vs H1 xs cs1 G1 π1 E1 A1 r1 q1 => ?_⟩
  match xs, q1 with
  | [x, y, z], ⟨_, _, q1⟩ =>
    obtain ⟨v1, v2, v3, rfl, r, r', r''⟩ := repL_three r1
    exact ⟨v1, v2, v3, rfl, C.nx _ _ _ _ _ _ E1 A1 ((((s.ext E1).set i r).set j r').set l r'') q1.2⟩)
theorem es_parN {ts : List Expr} {kt : Nat} {pt : Pos} {k2 : Nat} {pt2 : Pos} {gs : TGsD} {n : Nat} {is : List Nat} (hc : X.calm = true) (ha : PA X es (upA X.K t)) (hg : PGs X ts (upGs X.K is gs))
    (hn : (assignEach ts X.env).length = n := by rfl) (hst : (assignEach ts X.env).findIdx? (·.1) = none := by rfl)
    (hs : swapsWithSole [.Tuple ts kt pt] (.Tuple es k2 pt2) pos.line X.env = pure false := by rfl) (hw : swappedStores [.Tuple ts kt pt] (.Tuple es k2 pt2) X.env = pure none := by rfl)
    (h1 : (assignEach [.Tuple ts kt pt] X.env).map (·.2) = [assign (.Tuple ts kt pt) X.env] := by rfl) :
    PS X (.Assign [.Tuple ts kt pt] (.Tuple es k2 pt2) pos) (upS X.K (dParN n t gs)) := (ps_asg (pe_tup ha) (pg_tup hc hg hn hst) hs hw h1).weak (by
  rintro D σ H ⟨G, π, ρ, cs, d, A, s, q, C⟩
  refine ⟨G, π, ρ, cs, _, A, s, q, fun vs H1 xs cs1 G1 π1 E1 A1 r1 q1 => ?_⟩
  refine ⟨by rw [r1.len, q1.1]; exact q1.2.1, fun p hp => ?_⟩
  obtain ⟨A2, E2⟩ := A1.junk hp (.tup vs)
  refine ⟨p, vs, rfl, .of upd_same, by rw [r1.len]; exact q1.1, G1, π1, ρ, cs1, xs, _, A2, (s.ext E1).ext E2, RepL.ext E2 r1, q1.2.2, fun σ3 H3 ρ3 cs3 G3 π3 E3 A3 s3 _ q3 => ?_⟩
  exact C.nx _ _ _ _ _ _ (E1.trans (E2.trans E3)) A3 s3 q3)

/-! a cell == a datum -/
def cellL : S → Sto → Option PyData
  | .d d, _ => some d
  | .ref n, cs => match getC cs n with
    | some xs => (datas xs).map .list
    | none => none
def qEqC : RD2 := fun x y cs R => ∃ d e, cellL x cs = some d ∧ y = .d e ∧ eqOk d e ∧ R (sb (PyData.eqv d e)) cs
def qNeC : RD2 := fun x y cs R => ∃ d e, cellL x cs = some d ∧ y = .d e ∧ eqOk d e ∧ R (sb (!PyData.eqv d e)) cs
theorem cell_dp {G H : Hp} {π : List Addr} {cs : Sto} {v : V} {x : S} {d : PyData} (A : At K G π cs H) (r : RepS K G π v x) (h : cellL x cs = some d) : Dp K H v d := by
  cases r with
  | d r => cases h; exact dp_mono A.kn r
  | ref hp =>
    rename_i n a
    unfold cellL at h
    cases e : getC cs n with
    | none => simp [e] at h
    | some xs =>
      simp only [e] at h
      cases e2 : datas xs with
      | none => simp [e2] at h
      | some ds =>
        simp only [e2, Option.map_some, Option.some.injEq] at h
        subst h
        obtain ⟨_, vs, e3, rl⟩ := A.st _ _ _ hp (getC_eq e)
        rw [datas_eq e2] at rl
        exact .lst (.of e3) (dpAll_mono A.kn (dpAll_of rl))
theorem sim_EqC : Sim2 K (fun x y H Q => rEq x y H Q ∨ rEqD K x y H Q) qEqC := by
  rintro G π cs H v w x y R Q A rv rw ⟨d, e, hd, rfl, hc, q⟩ k
  have dv := cell_dp A rv hd
  have dw := cell_dp (cs := cs) A rw rfl
  have fin : ∀ b, b = PyData.eqv d e → Q (.bl b) H := fun b hb => k _ _ _ _ _ _ .refl A (.d (.bl b)) (hb ▸ q)
  have gen : SeqAt.shaped d = true ∧ SeqAt.shaped e = true → rEq v w H Q ∨ rEqD K v w H Q := fun h => .inr ⟨d, e, dv, dw, h.1, h.2, fin _ rfl⟩
  cases d <;> cases e <;> first
    | exact gen hc
    | (cases dv; cases dw; refine .inl ⟨rfl, fin _ ?_⟩; first | (rw [dec_int]; rfl) | (rw [dec_bl]; rfl) | (rw [L2.dec_str]; rfl))
theorem sim_NeC : Sim2 K (fun x y H Q => rNe x y H Q ∨ rNeD K x y H Q) qNeC := by
  rintro G π cs H v w x y R Q A rv rw ⟨d, e, hd, rfl, hc, q⟩ k
  have dv := cell_dp A rv hd
  have dw := cell_dp (cs := cs) A rw rfl
  have fin : ∀ b, b = (!PyData.eqv d e) → Q (.bl b) H := fun b hb => k _ _ _ _ _ _ .refl A (.d (.bl b)) (hb ▸ q)
  have gen : SeqAt.shaped d = true ∧ SeqAt.shaped e = true → rNe v w H Q ∨ rNeD K v w H Q := fun h => .inr ⟨d, e, dv, dw, h.1, h.2, fin _ rfl⟩
  cases d <;> cases e <;> first
    | exact gen hc
    | (cases dv; cases dw; refine .inl ⟨rfl, fin _ ?_⟩; first | (rw [dec_int]; rfl) | (rw [dec_bl]; rfl) | (rw [L2.dec_str]; rfl))
theorem ee_eqC (hu : X.A.units + 64 < cLine) (ha : PE X a (upE X.K ta)) (hb : PE X b (upE X.K tb)) : PE X (.Compare a [.Eq] [b] pos) (upE X.K (dOp qEqC ta tb)) := ee_cmp sim_EqC (op_eq.or (op_eqD hu)) ha hb (nomark _)
theorem ee_neC (hu : X.A.units + 64 < cLine) (ha : PE X a (upE X.K ta)) (hb : PE X b (upE X.K tb)) : PE X (.Compare a [.NotEq] [b] pos) (upE X.K (dOp qNeC ta tb)) := ee_cmp sim_NeC (op_ne.or (op_neD hu)) ha hb (nomark _)
theorem et_eqC (hu : X.A.units + 64 < cLine) (ha : PE X a (upE X.K ta)) (hb : PE X b (upE X.K tb)) : PT X (.Compare a [.Eq] [b] pos) (upT X.K (dTestR (dOp qEqC ta tb))) := et_cmp sim_EqC (op_eq.or (op_eqD hu)) ha hb (nomark _)
theorem et_neC (hu : X.A.units + 64 < cLine) (ha : PE X a (upE X.K ta)) (hb : PE X b (upE X.K tb)) : PT X (.Compare a [.NotEq] [b] pos) (upT X.K (dTestR (dOp qNeC ta tb))) := et_cmp sim_NeC (op_ne.or (op_neD hu)) ha hb (nomark _)
/-! lists added, cells or data -/
theorem cell_list {G H : Hp} {π : List Addr} {cs : Sto} {v : V} {x : S} {ds : List PyData} (A : At K G π cs H) (r : RepS K G π v x) (h : cellL x cs = some (.list ds)) : ∃ a vs, v = .ref a ∧ SqL K H a vs ∧ DpAll K G vs ds := by
  cases r with
  | d r =>
    cases h
    exact rep_list A (.d r)
  | ref hp =>
    rename_i n a
    unfold cellL at h
    cases e : getC cs n with
    | none => simp [e] at h
    | some xs =>
      simp only [e] at h
      cases e2 : datas xs with
      | none => simp [e2] at h
      | some ds' =>
        simp only [e2, Option.map_some, Option.some.injEq, PyData.list.injEq] at h
        subst h
        obtain ⟨_, vs, e3, rl⟩ := A.st _ _ _ hp (getC_eq e)
        rw [datas_eq e2] at rl
        exact ⟨_, vs, rfl, .of e3, dpAll_of rl⟩
def qAddC : RD2 := fun x y cs R => ∃ ds es, cellL x cs = some (.list ds) ∧ cellL y cs = some (.list es) ∧ ds.length + es.length ≤ sizeLine ∧ R (.d (.list (ds ++ es))) cs
theorem sim_addC : Sim2 K (rCatL K) qAddC := by
  rintro G π cs H v w x y R Q A rv rw ⟨ds, es, hd, he, hz, q⟩ k
  obtain ⟨a, vs, rfl, h, r⟩ := cell_list A rv hd
  obtain ⟨b, ws, rfl, h', r'⟩ := cell_list A rw he
  refine ⟨a, b, vs, ws, rfl, rfl, h, h', by rw [DpAll.len r, DpAll.len r']; exact hz, fun p hp => ?_⟩
  obtain ⟨G2, A2, E2, r2⟩ := new_lst A (DpAll.app r r') hp
  exact k _ _ _ _ _ _ E2 A2 r2 q
theorem ee_addC (ha : PE X a (upE X.K ta)) (hb : PE X b (upE X.K tb)) : PE X (.BinOp a .Add b pos) (upE X.K (dOp qAddC ta tb)) := ee_op sim_addC op_catL ha hb
theorem sd4 (x y z u : S) (n : Nat) : startD (n + 4) [x, y, z, u] = some x :: some y :: some z :: some u :: List.replicate n none := by simp [startD]
theorem sd5 (x y z u w : S) (n : Nat) : startD (n + 5) [x, y, z, u, w] = some x :: some y :: some z :: some u :: some w :: List.replicate n none := by simp [startD]
end
end FL

set_option Elab.async false
set_option linter.all false
set_option maxRecDepth 100000
set_option maxHeartbeats 1000000
namespace FL
open PySem L2 PySem.Spec PyProof.Rows
/-! enumerate(x), x a tuple -/
theorem enumB_meets {v : Value} {o : Obj} {H : Heap → Prop} (B : Begins v o H) :
    Meets (Builtin.«enumerate.__new__» ⟨[.type "enumerate", v], []⟩) (fun _ R s => H s.heap ∧
      R (.ok (.ret (.ref (s.heap.push o).objs.size))) { s with heap := (s.heap.push o).push { cls := .type "enumerate", data := .fields #[.none, .bool false, .ref s.heap.objs.size, rawInt 0, .none, .none] } }) :=
  .of_wp fun prog w A R s h => by
    obtain ⟨hp, g, d, tk, os⟩ := s
    obtain ⟨h1, h⟩ := h
    have sb := sub_enumerate
    have go : ∀ {A1 : Around} {E1 : Value → Shared → Prop} {Q1 : Value → Shared → Prop}, Q1 (.ref hp.objs.size) ⟨hp.push o, g, d, tk, os⟩ → wpAny (model prog w) A1 (pyIter v) Q1 E1 ⟨hp, g, d, tk, os⟩ := fun q => B.iter prog w _ _ ⟨hp, g, d, tk, os⟩ _ h1 q
    wp_walk using go
    refine wpAny_stack_any (fun _ => wpAny_pure ?_)
    split
    · rename_i c _ _ _ _ _
      cases (c == Value.type "enumerate") <;> (wp_walk using go; exact ⟨_, rfl, h⟩)
    · wp_walk using go
      exact ⟨_, rfl, h⟩
theorem enumB_call {prog : Program} {w : World} {A : Around} {E : Value → Shared → Prop} {s : Shared} {v : Value} {o : Obj} {H : Heap → Prop} {Q : Value → Shared → Prop} (B : Begins v o H) (h1 : H s.heap)
    (k : ∀ h', IsEnum h' (s.heap.objs.size + 1) s.heap.objs.size 0 .none → h'.get? s.heap.objs.size = some o → h'.objs.size = s.heap.objs.size + 2 → (∀ b u, s.heap.get? b = some u → h'.get? b = some u) → Q (.ref (s.heap.objs.size + 1)) { s with heap := h' }) :
    wpAny (model prog w) A (call (.type "enumerate") [v]) Q E s := by
  refine callType_new F.called_enumerate (by decide) (F.typeCall_enumerate_1 _) (F.newCall_enumerate_1 _) (fun ob => F.args_object_init_2 ob _) F.entry_enumerate_new (enumB_meets B) ⟨h1, ?_⟩
  have z1 : (s.heap.push o).objs.size = s.heap.objs.size + 1 := Heap.size_push ..
  show _ ∧ _
  rw [z1]
  have en : IsEnum ((s.heap.push o).push { cls := .type "enumerate", data := .fields #[.none, .bool false, .ref s.heap.objs.size, rawInt 0, .none, .none] }) (s.heap.objs.size + 1) s.heap.objs.size 0 .none := by
    have q := Heap.get?_push_size (s.heap.push o) (o := { cls := .type "enumerate", data := .fields #[.none, .bool false, .ref s.heap.objs.size, rawInt 0, .none, .none] }) rfl
    rw [z1] at q; exact q
  exact ⟨⟨_, en, rfl⟩, k _ en (Heap.get?_push_of_some _ (Heap.get?_push_size _ B.free)) (by rw [Heap.size_push, z1]) fun b u x => Heap.get?_push_of_some _ (Heap.get?_push_of_some _ x)⟩
/-- the tuple at a, each item in a new pair -/
def IteT (K : PySem.W.Frag) (a : Addr) : It :=
  ⟨fun i H => ∃ (xs : List V) (x : V), SqT K H a xs ∧ xs[i]? = some x, fun i H v H' => ∃ T x, v = .ref T ∧ H T = none ∧ H' = upd H T (.tup [.int (i : Nat), x]) ∧ ∀ xs, SqT K H a xs → xs[i]? = some x, fun i H => ∃ xs : List V, SqT K H a xs ∧ xs.length ≤ i⟩
theorem turn_enumT {P : Program} {w : World} {K : PySem.W.Frag} {elts : List Expr} {kk : Nat} {tpos : Pos} (a e it : Addr) :
    Turn P w K (.Tuple elts kk tpos) (IteT K a) [e, it] e (fun i h => (∃ old, IsEnum h e it ((i : Nat) : Int) old) ∧ h.IsTupleIter it a i ∧ e ≠ it) where
  mem := by simp
  obj := fun i h st b hb => by
    obtain ⟨⟨old, en⟩, ⟨o, ho, hc, hd⟩, _⟩ := st
    rcases (by simpa using hb : b = e ∨ b = it) with z | z
    · rw [z]; exact ⟨_, en, fun v q => nomatch q⟩
    · rw [z]; exact ⟨o, ho, fun v q => by rw [hd] at q; cases q⟩
  keep := fun i h h' st k => let ⟨⟨old, en⟩, hi, ne⟩ := st; ⟨⟨old, k e (by simp) _ en⟩, hi.at fun o q => k it (by simp) o q, ne⟩
  item := by
    intro X hP hw hK hc i pins s σ H E I hf st hg
    subst hP hw hK
    obtain ⟨⟨old, en⟩, ht, ne⟩ := st
    obtain ⟨xs, x, hq, hx⟩ := hg
    obtain ⟨its, rv, p, hz⟩ := I.tuple hq
    obtain ⟨u, hu, ru⟩ := rv.get hx
    have hel : e < s.heap.objs.size := Heap.lt_size en
    have hil : it < s.heap.objs.size := by obtain ⟨_, q, _⟩ := ht; exact Heap.lt_size q
    have pt : s.heap.IsTuple a its.toArray := p
    have nai : a ≠ it := fun z => by
      subst z
      obtain ⟨o1, e1, c1, _⟩ := ht
      obtain ⟨o2, e2, c2, _⟩ := pt
      rw [e1] at e2; cases e2; rw [c1] at c2; revert c2; decide
    have nea : e ≠ a := fun z => by
      subst z
      obtain ⟨o2, e2, c2, _⟩ := pt
      rw [show s.heap.get? e = _ from en] at e2; cases e2
      exact absurd (show Value.type "enumerate" = Value.type "tuple" from c2) (by decide)
    have li : i < its.toArray.size := by simpa using (List.getElem?_eq_some_iff.mp hu).1
    refine wpAny_pyNext_enum_itemD (Draws.tuple (A := X.A.in1) (I.ok.hd hc) it a nai its.toArray) en ⟨ht, pt⟩ li ne (by simp [ne, nea]) fun y h' tk hy ho hs hT hsz hk => ?_
    have ey : y = u := by
      have q : its[i]? = some y := by simpa using hy
      rw [hu] at q; cases q; rfl
    subst ey
    refine ⟨_, rfl, wpAny_letOwnedTupleGo_enum (s := { s with heap := h', toks := tk + 1 }) ho fun h2 en2 sb => ?_⟩
    have hT2 : h2.get? s.heap.objs.size = some { cls := .type "tuple", data := .seq #[.int i tk, y] } := (sb.2 _ (Nat.ne_of_gt hel)).trans hT
    have new : ObjOk X.prog X.w (upd H s.heap.objs.size (.tup [.int (i : Nat), x])) h2 s.heap.objs.size (.tup [.int (i : Nat), x]) :=
      ⟨by show 2 ≤ sizeLine; decide, [.int i tk, y], .cons ⟨_, rfl⟩ (.cons ru .nil), ⟨_, hT2, rfl, _, rfl⟩⟩
    have I1 : Inv X pins σ (upd H s.heap.objs.size (.tup [.int (i : Nat), x])) { s with heap := h2, toks := tk + 1 } :=
      I.turnedNew (ch := [e, it]) (fun b ob hb q => (sb.2 b (by rintro rfl; simp at hb)).trans (hk b ob (by rintro rfl; simp at hb) (by rintro rfl; simp at hb) q)) hf (Nat.le_refl _) new
    refine ⟨.ref s.heap.objs.size, _, I1, rfl, ⟨_, x, rfl, I.hok.fresh (Nat.le_refl _), rfl, fun ys hy => by rw [I.tuple_inj hy hq]; exact hx⟩, ⟨⟨y, ?_⟩, hs.1.at fun o q => (sb.2 it (Ne.symm ne)).trans q, ne⟩, fun b hb => ?_⟩
    · rw [show ((i + 1 : Nat) : Int) = (i : Int) + 1 by omega]; exact en2
    · have hb' : b < s.heap.objs.size := by
        rcases (by simpa using hb : b = e ∨ b = it) with z | z
        · rw [z]; exact hel
        · rw [z]; exact hil
      rw [upd_ne (Nat.ne_of_lt hb')]
      exact (hf b hb).1
  done := by
    intro X hP hw hK hc i pins s σ H E I hf st hg
    subst hP hw hK
    obtain ⟨⟨old, en⟩, ht, ne⟩ := st
    obtain ⟨xs, hq, hx⟩ := hg
    obtain ⟨its, rv, p, hz⟩ := I.tuple hq
    obtain ⟨f0, f1, f2, f3, f4, f5⟩ := hf it (by simp)
    have hl := rv.length
    have pt : s.heap.IsTuple a its.toArray := p
    have D : Draws X.prog X.w X.A.in1 it [it, a] i (fun _ _ => True) (fun j h => j = i ∧ h.IsTupleIter it a j ∧ h.IsTuple a its.toArray) :=
      { live := fun j h st => let ⟨o, ho, _⟩ := st.2.1; ⟨o, ho⟩
        frame := fun j h h' st hk => ⟨st.1, st.2.1.at fun o e => hk it (by simp) o e, st.2.2.at fun o e => hk a (by simp) o e⟩
        item := fun j s Q E hj st => absurd st.1 (Nat.ne_of_lt hj)
        done := fun s Q E st hE => wpAny_nextOf_tuple_end (I.ok.hd hc) st.2.1 st.2.2 (by simp; omega) hE }
    exact wpAny_pyNext_enum_endD D en ⟨rfl, ht, pt⟩ fun h' eb => ⟨rfl, I.turned (t' := s.toks) (fun b o hb q => eb b o hb q) f0 f1 f3 f4 f5⟩
  self := fun A i s Q E st h => let ⟨⟨_, en⟩, _⟩ := st; wpAny_pyIter_enum en h
def iEnumT (K : PySem.W.Frag) (ta : TA) : TI := fun σ H R => ta σ H fun vs H1 => ∃ a xs, vs = [.ref a] ∧ SqT K H1 a xs ∧ R (IteT K a) H1
theorem pi_enumT {X : Cx} {e : Expr} {ta : TA} {p pos tpos : Pos} {elts : List Expr} {kk : Nat} (hg : Gl X "enumerate") (hm : X.mg "enumerate" = none) (ha : PA X [e] ta) (hs : starEach [e] X.env = [(false, eval e X.env)] := by rfl) :
    PI X (.Tuple elts kk tpos) (.Call (.Name "enumerate" p) [e] [] pos) (iEnumT X.K ta) := by
  refine ⟨fun pins s σ H R I h => ?_⟩
  refine Call_ (ld_blt I hg hm boot_enumerate (PyProof.Rows.callWith_type1 (thn (ha.run pos pins s σ H _ I h) fun us s1 ⟨vs, H1, I1, r1, q1⟩ => ?_) hs rfl))
  obtain ⟨a, xs, rfl, hq, q⟩ := q1
  cases r1 with
  | cons r rr =>
    cases rr
    cases r
    obtain ⟨its, rv, p', hz⟩ := I1.tuple hq
    have pt : s1.heap.IsTuple a its.toArray := p'
    refine enumB_call (begins_tuple a its.toArray) pt fun h' en ht hsz hk => wpAny_pyIter_enum en ?_
    have I2 : Inv X pins σ H1 { s1 with heap := h' } := I1.kept (t' := s1.toks) hk
    refine ⟨s1.heap.objs.size + 1, [s1.heap.objs.size + 1, s1.heap.objs.size], _, _, H1, rfl, I2, turn_enumT a (s1.heap.objs.size + 1) s1.heap.objs.size, ⟨⟨.none, en⟩, ⟨_, ht, rfl, rfl⟩, Nat.succ_ne_self _⟩, fun b hb => ?_, q⟩
    rcases (by simpa using hb : b = s1.heap.objs.size + 1 ∨ b = s1.heap.objs.size) with z | z
    · subst z; exact I1.fpOk (Nat.le_succ _) (I1.hok.fresh (Nat.le_succ _))
    · subst z; exact I1.fpOk (Nat.le_refl _) (I1.hok.fresh (Nat.le_refl _))
end FL

set_option Elab.async false
set_option linter.all false
set_option maxRecDepth 100000
set_option maxHeartbeats 1000000
namespace FL
open PySem L2
section
variable {X : Cx} {K : PySem.W.Frag} {a : Expr} {t : TAD} {pos p : Pos}
theorem itr_enumT {G : Hp} {π : List Addr} {a : Addr} {ds : List PyData} {ok : Sto → Prop} (L : TupRep K G π a (ds.map S.d) ok) : ItRep K G π (IteT K a) ⟨enuD ds, ok⟩ where
  go := fun i x G1 π1 cs1 H1 e1 hp A o hx => by
    obtain ⟨vs, h, r⟩ := L.at_ G1 π1 cs1 H1 e1 hp A o
    unfold enuD at hx
    rw [List.getElem?_map, List.getElem?_zipIdx] at hx
    cases q : ds[i]? with
    | none => rw [q] at hx; cases hx
    | some d =>
      rw [q] at hx
      cases hx
      obtain ⟨v, hv, rv⟩ := r.get (by rw [List.getElem?_map, q]; rfl)
      refine ⟨⟨vs, v, h, hv⟩, fun u H2 y => ?_⟩
      obtain ⟨T, x, rfl, hT, rfl, y1⟩ := y
      have q1 := y1 vs h
      rw [hv] at q1; cases q1
      have := pair_new A (d := .int ((0 + i : Nat) : Int)) (.d (.int _)) rv hT
      rw [Nat.zero_add] at this ⊢
      exact this
  stop := fun i G1 π1 cs1 H1 e1 hp A o hl => by
    obtain ⟨vs, h, r⟩ := L.at_ G1 π1 cs1 H1 e1 hp A o
    have l1 := r.len
    unfold enuD at hl
    simp only [List.length_map, List.length_zipIdx] at hl l1
    exact ⟨vs, h, by omega⟩
/-- enumerate(x), x a tuple -/
def dEnumT (t : TAD) : TID := fun ρ cs R => t ρ cs fun xs cs1 => ∃ ds, xs = [.d (.tuple ds)] ∧ R ⟨enuD ds, okT⟩ cs1
theorem ei_enumT {elts : List Expr} {kk : Nat} {tpos : Pos} (hg : Gl X "enumerate") (hm : X.mg "enumerate" = none) (ha : PA X [a] (upA X.K t)) (hs : starEach [a] X.env = [(false, eval a X.env)] := by rfl) :
    PI X (.Tuple elts kk tpos) (.Call (.Name "enumerate" p) [a] [] pos) (upI X.K (dEnumT t)) := by
  refine (pi_enumT hg hm ha hs).weak ?_
  rintro σ H R0 ⟨G, π, ρ, cs, R, A, s, q, k⟩
  refine ⟨G, π, ρ, cs, _, A, s, q, fun vs H1 xs cs1 G1 π1 E1 A1 r1 q1 => ?_⟩
  obtain ⟨ds, rfl, q1⟩ := q1
  obtain ⟨v, rfl, r⟩ := repL_one r1
  obtain ⟨a, rfl, L⟩ := lrep_tup r
  obtain ⟨xs, h, _⟩ := L.at_ G1 π1 cs1 H1 (Same.refl _) ppr A1 trivial
  exact ⟨a, xs, rfl, h, k _ _ _ _ _ _ E1 A1 (itr_enumT L) q1⟩
end
end FL

set_option Elab.async false
set_option linter.all false
set_option maxRecDepth 100000
namespace K44
open PySem L2 FL FR
/-! what each def of the law does, over data -/
abbrev c_NOTHING : PyData := .tuple [.int 0, .int 1]
abbrev c_GIVEN : PyData := .str "given"
abbrev c_BROKEN : PyData := .str "broken"
abbrev c_WAY : PyData := .str "way"
abbrev c_EMPTY : PyData := .str "empty"
abbrev c_SPAN : PyData := .str "span"
abbrev c_NONE : PyData := .str "none"
abbrev c_MOST_PHASES : PyData := .int 1000
def T_greatest_divisor : DSp := fun xs cs R => ∃ p q : Int, xs = [si p, si q] ∧ 0 ≤ q ∧ R (si (Int.gcd p q : Nat)) cs
def T_compare : DSp := fun xs cs R => ∃ r t : Rat, xs = [sr r, sr t] ∧ RB 3000 r ∧ RB 3000 t ∧ R (si (cmpR r t)) cs
def low (p q : Int) : Bool := decide (1 ≤ q) && decide (Int.gcd p q = 1)
def T_is_ratio : DSp := fun xs cs R => ∃ p q : Int, xs = [.d (.tuple [.int p, .int q])] ∧ R (sb (low p q)) cs
/-- what was drawn -/
structure Deal (row : List Int) (total pos : Int) : Prop where
  len : row.length ≤ 2520
  lo : ∀ x ∈ row, 0 ≤ x
  t0 : 0 ≤ total
  t1 : total < 2 ^ 40
  p0 : 0 ≤ pos
  p1 : pos < 2 ^ 40
def DS (row : List Int) (total pos : Int) (gs : Sto) : Sto := none :: some [si pos] :: some [.d (.list (row.map PyData.int)), .ref 1, si total] :: gs
def T__law_deal : DSp := fun xs cs R => cs = [] ∧ ∃ ns : List Int, xs = [.d (.list (ns.map PyData.int))] ∧ ns.length ≤ 63 ∧ ∀ row total, Deal row total 0 → R (.ref 2) (DS row total 0 [])
def T__law_take : DSp := fun xs cs R => ∃ row total pos gs many, xs = [.ref 2, si many] ∧ cs = DS row total pos gs ∧ Deal row total pos ∧ 0 < many ∧ ∀ v, 0 ≤ v → v < many → R (si v) (DS row total (pos + 1) gs)
def T__law_pick : DSp := fun xs cs R => ∃ row total pos gs ds, xs = [.ref 2, .d (.list ds)] ∧ cs = DS row total pos gs ∧ Deal row total pos ∧ 0 < ds.length ∧ ∀ d, d ∈ ds → R (.d d) (DS row total (pos + 1) gs)
def T__law_sameN (n : Nat) : DSp := fun xs cs R => ∃ d y, xs = [.d d, y] ∧ cellL y cs = some d ∧ dOk n d = true ∧ R (sb true) cs
abbrev T__law_same : DSp := T__law_sameN 8
/-! boxes, tests, pilots -/
abbrev Tst := List Int × Int
abbrev Bx := List (Int × Int)
abbrev Tb := List (List Tst × Int)
def testD (t : Tst) : PyData := .tuple [.tuple (t.1.map PyData.int), .int t.2]
def spanD (w : Int × Int) : PyData := .tuple [.int w.1, .int w.2]
def bxD (b : Bx) : PyData := .tuple (b.map spanD)
def oD {α : Type} (f : α → PyData) : Option α → PyData
  | none => .none
  | some a => f a
def intsD (ns : List Int) : PyData := .tuple (ns.map PyData.int)
def rowD {α : Type} (f : α → PyData) (w : List α × Int) : PyData := .tuple [.tuple (w.1.map f), .int w.2]
def TOk (n : Nat) (t : Tst) : Prop := t.1.length = n ∧ ∀ v ∈ t.1, B 9000 v
def WOk (n : Nat) (ws : Bx) : Prop := ws.length = n ∧ ∀ w ∈ ws, True ∧ B 60 w.1 ∧ B 60 w.2
structure Pil where
  units : Bx
  offs : List (List (List (Option Bx)))
  reads : Bx
  tabs : List (List Tb)
  spans : List Bx
  firsts : List (Option Bx)
def wayD (t : List (Option Bx)) : PyData := .tuple (t.map (oD bxD))
def cmdD (r : List (List (Option Bx))) : PyData := .tuple (r.map wayD)
def offsD (o : List (List (List (Option Bx)))) : PyData := .tuple (o.map cmdD)
def tabD (t : Tb) : PyData := .tuple (t.map (rowD testD))
def phD (ph : List Tb) : PyData := .tuple (ph.map tabD)
def tabsD (t : List (List Tb)) : PyData := .tuple (t.map phD)
def pilD (P : Pil) : PyData := .tuple [bxD P.units, offsD P.offs, bxD P.reads, tabsD P.tabs, .tuple (P.spans.map bxD), .tuple (P.firsts.map (oD bxD))]
def EOk (n : Nat) (M : Int) (E : Bx) : Prop := E.length = n ∧ ∀ w ∈ E, -M ≤ w.1 ∧ w.1 ≤ M ∧ -M ≤ w.2 ∧ w.2 ≤ M
def isUnit (p : Int × Int) : Bool := low p.1 p.2 && decide (0 < p.1)
def WayOk (n m : Nat) (t : List (Option Bx)) : Prop := t.length = m ∧ ∀ o ∈ t, ∀ b, o = some b → EOk n 8 b
def CmdOk (n m c : Nat) (r : List (List (Option Bx))) : Prop := r.length = c ∧ ∀ t ∈ r, WayOk n m t
def RowOk (n c : Nat) (w : List Tst × Int) : Prop := w.1.length ≤ 4 ∧ (∀ x ∈ w.1, TOk n x) ∧ 0 ≤ w.2 ∧ w.2 < (c : Int)
def TabOk (n c : Nat) (t : Tb) : Prop := t.length ≤ 10 ∧ ∀ w ∈ t, RowOk n c w
def PhOk (n m c : Nat) (ph : List Tb) : Prop := ph.length = m ∧ ∀ t ∈ ph, TabOk n c t
def Rsn (E : Bx) : Prop := ∀ w ∈ E, w.1 ≤ w.2
def UnOk (u : Int × Int) : Prop := isUnit u = true ∧ B 100 u.1 ∧ B 100 u.2
structure POk (n m c p s : Nat) (E : Bx) (P : Pil) : Prop where
  n1 : 1 ≤ n
  n3 : n ≤ 3
  m1 : 1 ≤ m
  m4 : m ≤ 4
  c1 : 1 ≤ c
  c4 : c ≤ 4
  p1 : 1 ≤ p
  p4 : p ≤ 4
  ul : P.units.length = n
  uu : ∀ u ∈ P.units, UnOk u
  ol : P.offs.length = m
  oo : ∀ r ∈ P.offs, CmdOk n m c r
  re : EOk n 8 P.reads
  tl : P.tabs.length = p
  tt : ∀ ph ∈ P.tabs, PhOk n m c ph
  sl : P.spans.length = m
  ss : ∀ b ∈ P.spans, EOk n 100 b ∧ Rsn b
  s0 : s < m
  e0 : EOk n 20 E
  e1 : Rsn E
  fs : P.firsts = (List.range m).map fun q => if q = s then some E else none
structure St where
  ph : Nat
  md : Nat
  es : Bx
  cm : Option Int
def stD (st : St) : PyData := .tuple [.int (st.ph : Nat), .int (st.md : Nat), bxD st.es, oD PyData.int st.cm]
inductive Out where
  | brk (w : Str)
  | giv (c : Int) (st : St)
def outD : Out → PyData
  | .brk w => .tuple [.str "broken", .str w]
  | .giv c st => .tuple [.str "given", .int c, stD st]
def gone (E o : Bx) : Bx := List.zipWith (fun e a => (e.1 + a.1, e.2 + a.2)) E o
def readB (a : Bx) (rs : List Int) : Bx := List.zipWith (fun ab r => (r - ab.1, r + ab.2)) a rs
def met (E F : Bx) : Bx := List.zipWith (fun e f => (if f.1 > e.1 then f.1 else e.1, if f.2 < e.2 then f.2 else e.2)) E F
def emp (E : Bx) : Bool := E.any fun w => decide (w.1 > w.2)
def outOf (p : (Int × Int) × (Int × Int)) : Bool := decide (p.1.1 < p.2.1) || decide (p.1.2 > p.2.2)
def inside (E F : Bx) : Bool := !((E.zip F).any outOf)
def least (t : Tst) (ws : Bx) : Int := t.2 + (List.zipWith (fun f w => if f * w.2 < f * w.1 then f * w.2 else f * w.1) t.1 ws).sum
def holds (ws : Bx) (t : Tst) : Bool := decide (0 ≤ least t ws)
def firstI (ws : Bx) : Tb → Option Int
  | [] => none
  | w :: r => if w.1.all (holds ws) then some w.2 else firstI ws r
def off (P : Pil) (md : Nat) (c : Int) (now : Nat) : Option Bx := ((P.offs.getD md []).getD c.toNat []).getD now none
def estNow (P : Pil) (st : St) (now : Nat) : Option Bx := match st.cm with
  | none => if now = st.md then some st.es else none
  | some c => (off P st.md c now).map (gone st.es)
def spanAt (P : Pil) (now : Nat) : Bx := P.spans.getD now []
def tabAt (P : Pil) (ph now : Nat) : Tb := (P.tabs.getD ph []).getD now []
def outOfI (ph now : Nat) (E : Bx) : Option Int → Out
  | none => .brk "none"
  | some c => .giv c ⟨ph - 1, now, E, some c⟩
def tell (P : Pil) (ph now : Nat) (E : Bx) (rd : Bool) : Out :=
  if rd && emp E then .brk "empty" else if inside E (spanAt P now) then outOfI ph now E (firstI E (tabAt P ph now)) else .brk "span"
def seen (P : Pil) (E : Bx) : Option (List Int) → Bx
  | none => E
  | some r => met E (readB P.reads r)
def beatE (P : Pil) (st : St) (now : Nat) (rs : Option (List Int)) : Option Bx → Out
  | none => .brk "way"
  | some E => tell P st.ph now (seen P E rs) rs.isSome
def beat (P : Pil) (st : St) (now : Nat) (rs : Option (List Int)) : Out := beatE P st now rs (estNow P st now)
def drvO (f : St → List Out) : Out → List Out
  | .brk w => [.brk w]
  | .giv c st => .giv c st :: f st
def drv (P : Pil) : St → List (Nat × Option (List Int)) → List Out
  | _, [] => []
  | st, i :: r => drvO (fun st' => drv P st' r) (beat P st i.1 i.2)
def rdD (rs : Option (List Int)) : PyData := oD intsD rs
def inD (i : Nat × Option (List Int)) : PyData := .tuple [.int (i.1 : Nat), rdD i.2]
def SOk (n m c p : Nat) (M : Int) (st : St) : Prop := st.ph < p ∧ st.md < m ∧ EOk n M st.es ∧ ∀ k, st.cm = some k → 0 ≤ k ∧ k < (c : Int)
def ROk (n : Nat) (M : Int) (rs : Option (List Int)) : Prop := ∀ r, rs = some r → r.length = n ∧ ∀ v ∈ r, -M ≤ v ∧ v ≤ M
def st0 (p s : Nat) (E : Bx) : St := ⟨p - 1, s, E, none⟩
/-! the program's -/
def T_are_units : DSp := fun xs cs R => ∃ n, ∃ ps : List (Int × Int), xs = [si n, .d (.tuple (ps.map spanD))] ∧ (∀ p ∈ ps, B 100 p.1 ∧ B 100 p.2) ∧ ps.length ≤ 100 ∧ R (sb (decide ((ps.length : Int) = n) && ps.all isUnit)) cs
def T_is_inside : DSp := fun xs cs R => ∃ E F, xs = [.d (bxD E), .d (bxD F)] ∧ E.length ≤ 4 ∧ R (sb (inside E F)) cs
def T_read_box : DSp := fun xs cs R => ∃ a rs, xs = [.d (bxD a), .d (intsD rs)] ∧ a.length ≤ 4 ∧ R (.d (bxD (readB a rs))) cs
def T_gone_on : DSp := fun xs cs R => ∃ E o, xs = [.d (bxD E), .d (bxD o)] ∧ E.length ≤ 4 ∧ R (.d (bxD (gone E o))) cs
def T_met_boxes : DSp := fun xs cs R => ∃ E F, xs = [.d (bxD E), .d (bxD F)] ∧ E.length ≤ 4 ∧ R (.d (oD bxD (if emp (met E F) then none else some (met E F)))) cs
def T_is_number : DSp := fun xs cs R => ∃ i, xs = [si i] ∧ R (sb true) cs
def T_least_sum : DSp := fun xs cs R => ∃ t ws n, xs = [.d (testD t), .d (.tuple (ws.map spanD))] ∧ TOk n t ∧ WOk n ws ∧ n ≤ 4 ∧ R (si (least t ws)) cs
def T_holds_for : DSp := fun xs cs R => ∃ t ws n, xs = [.d (testD t), .d (.tuple (ws.map spanD))] ∧ TOk n t ∧ WOk n ws ∧ n ≤ 4 ∧ R (sb (holds ws t)) cs
def T_row_holds : DSp := fun xs cs R => ∃ n ws, ∃ w : List Tst × Int, xs = [.d (rowD testD w), .d (.tuple (ws.map spanD))] ∧ (∀ t ∈ w.1, TOk n t) ∧ WOk n ws ∧ n ≤ 4 ∧ R (sb (w.1.all (holds ws))) cs
def firstD (ws : Bx) (tb : Tb) : PyData := oD PyData.int (firstI ws tb)
def T_command_in : DSp := fun xs cs R => ∃ n ws, ∃ tb : Tb, xs = [.d (.tuple (tb.map (rowD testD))), .d (.tuple (ws.map spanD))] ∧ (∀ w ∈ tb, ∀ t ∈ w.1, TOk n t) ∧ WOk n ws ∧ n ≤ 4 ∧ R (.d (firstD ws tb)) cs
def T_first_state : DSp := fun xs cs R => ∃ n m c p s E P, xs = [.d (pilD P)] ∧ POk n m c p s E P ∧ R (.d (stD (st0 p s E))) cs
def T_estimate_now : DSp := fun xs cs R => ∃ n m c p s E P M st, ∃ now : Nat, xs = [.d (pilD P), .d (stD st), si (now : Int)] ∧ POk n m c p s E P ∧ now < m ∧ SOk n m c p M st ∧ R (.d (oD bxD (estNow P st now))) cs
def T_beat_of : DSp := fun xs cs R => ∃ n m c p s E P M st rs, ∃ now : Nat, xs = [.d (pilD P), .d (stD st), si (now : Int), .d (rdD rs)] ∧ POk n m c p s E P ∧ now < m ∧ SOk n m c p M st ∧ ROk n M rs ∧ 0 ≤ M ∧ M ≤ 1000000 ∧ R (.d (outD (beat P st now rs))) cs
def InsOk (n m : Nat) (ins : List (Nat × Option (List Int))) : Prop := ins.length ≤ 20 ∧ ∀ i ∈ ins, i.1 < m ∧ ROk n 100000 i.2
def T_driven : DSp := fun xs cs R => ∃ n m c p s E P y ins, xs = [.d (pilD P), y] ∧ cellL y cs = some (.list (ins.map inD)) ∧ POk n m c p s E P ∧ InsOk n m ins ∧ R (.d (.list ((drv P (st0 p s E) ins).map outD))) cs
def T_is_pair : DSp := fun xs cs R => ∃ w, xs = [.d (spanD w)] ∧ R (sb true) cs
def T_are_pairs : DSp := fun xs cs R => ∃ E, xs = [si (E.length : Nat), .d (bxD E)] ∧ E.length ≤ 4 ∧ R (sb true) cs
def T_are_risen : DSp := fun xs cs R => ∃ E, xs = [.d (bxD E)] ∧ E.length ≤ 4 ∧ Rsn E ∧ R (sb true) cs
def T_is_whole_test : DSp := fun xs cs R => ∃ t, xs = [si (t.1.length : Nat), .d (testD t)] ∧ t.1.length ≤ 4 ∧ R (sb true) cs
def T_is_whole_row : DSp := fun xs cs R => ∃ n c : Nat, ∃ w, xs = [si (n : Int), si (c : Int), .d (rowD testD w)] ∧ RowOk n c w ∧ n ≤ 4 ∧ R (sb true) cs
def T_are_phases : DSp := fun xs cs R => ∃ n m c : Nat, ∃ t, xs = [si (n : Int), si (m : Int), si (c : Int), .d (tabsD t)] ∧ (∀ ph ∈ t, PhOk n m c ph) ∧ n ≤ 4 ∧ 1 ≤ t.length ∧ t.length ≤ 4 ∧ R (sb true) cs
def T_are_offsets : DSp := fun xs cs R => ∃ n m c : Nat, ∃ t, xs = [si (n : Int), si (m : Int), si (c : Int), .d (offsD t)] ∧ (∀ r ∈ t, CmdOk n m c r) ∧ t.length = m ∧ n ≤ 4 ∧ m ≤ 4 ∧ R (sb true) cs
def T_are_boxes : DSp := fun xs cs R => ∃ n m : Nat, ∃ bs : List (Option Bx), ∃ b, xs = [si (n : Int), si (m : Int), .d (.tuple (bs.map (oD bxD))), sb b] ∧ n ≤ 4 ∧ bs.length = m ∧ (b = false → ∀ o ∈ bs, o ≠ none) ∧ (∀ o ∈ bs, ∀ E, o = some E → E.length = n ∧ Rsn E) ∧ R (sb true) cs
def T_are_unit_pairs : DSp := fun xs cs R => ∃ us, xs = [.d (bxD us)] ∧ 1 ≤ us.length ∧ us.length ≤ 3 ∧ (∀ u ∈ us, UnOk u) ∧ R (sb true) cs
def T_is_fixed_pilot : DSp := fun xs cs R => ∃ n m c p s E P, xs = [.d (pilD P)] ∧ POk n m c p s E P ∧ R (sb true) cs
/-! the law's own -/
def T__law_pair : DSp := fun xs cs R => ∃ row total pos gs lo many wide, xs = [.ref 2, si lo, si many, si wide] ∧ cs = DS row total pos gs ∧ Deal row total pos ∧ pos < 2 ^ 39 ∧ 0 < many ∧ 0 < wide ∧
  ∀ a b, lo ≤ a → a < lo + many → a ≤ b → b < a + wide → R (.d (spanD (a, b))) (DS row total (pos + 2) gs)
def T__law_row : DSp := fun xs cs R => ∃ row total pos gs, ∃ n c : Nat, xs = [.ref 2, si (n : Int), si (c : Int)] ∧ cs = DS row total pos gs ∧ Deal row total pos ∧ pos < 2 ^ 38 ∧ n ≤ 3 ∧ 0 < c ∧
  ∀ w p, RowOk n c w → pos ≤ p → p ≤ pos + 20 → R (.d (rowD testD w)) (DS row total p gs)
def T__law_offset : DSp := fun xs cs R => ∃ row total pos gs, ∃ n : Nat, xs = [.ref 2, si (n : Int)] ∧ cs = DS row total pos gs ∧ Deal row total pos ∧ pos < 2 ^ 38 ∧ n ≤ 3 ∧
  ∀ o p, (∀ b, o = some b → EOk n 8 b) → pos ≤ p → p ≤ pos + 10 → R (.d (oD bxD o)) (DS row total p gs)
def T__law_pilot : DSp := fun xs cs R => ∃ row total pos gs, ∃ n : Nat, xs = [.ref 2, si (n : Int)] ∧ cs = DS row total pos gs ∧ Deal row total pos ∧ pos < 2 ^ 20 ∧ 1 ≤ n ∧ n ≤ 3 ∧
  ∀ m c p s E P q, POk n m c p s E P → pos ≤ q → q ≤ pos + 5000 → R (.d (pilD P)) (DS row total q gs)
abbrev Src := Nat × Bx
def srcD (s : Src) : PyData := .tuple [.int (s.1 : Nat), bxD s.2]
def carry (s : Src) (sh : List Bx) : Bx := (sh.drop s.1).foldl gone s.2
def known (srcs : List Src) (sh : List Bx) (n : Nat) : Bx := (List.range n).map fun k => (maxL (srcs.map fun s => ((carry s sh).getD k (0, 0)).1), minL (srcs.map fun s => ((carry s sh).getD k (0, 0)).2))
def KOk (n : Nat) (srcs : List Src) (sh : List Bx) : Prop := srcs ≠ [] ∧ srcs.length ≤ 20 ∧ sh.length ≤ 20 ∧ (∀ s ∈ srcs, s.1 ≤ sh.length ∧ s.2.length = n) ∧ ∀ o ∈ sh, o.length = n
def T__law_known : DSp := fun xs cs R => ∃ a b, ∃ n : Nat, ∃ srcs sh, xs = [.ref a, .ref b, si (n : Int)] ∧ getC cs a = some (srcs.map fun s => S.d (srcD s)) ∧ getC cs b = some (sh.map fun s => S.d (bxD s)) ∧ KOk n srcs sh ∧ n ≤ 4 ∧ R (.d (bxD (known srcs sh n))) cs
def T__law_command : DSp := fun xs cs R => ∃ n ws tb, xs = [.d (tabD tb), .d (bxD ws)] ∧ (∀ w ∈ tb, ∀ t ∈ w.1, TOk n t) ∧ WOk n ws ∧ n ≤ 4 ∧ R (.d (firstD ws tb)) cs
def T__law_readings : DSp := fun xs cs R => ∃ row total pos gs n E x M, xs = [.ref 2, .d x, .d (bxD E)] ∧ cs = DS row total pos gs ∧ Deal row total pos ∧ pos < 2 ^ 38 ∧ EOk n M E ∧ 1 ≤ n ∧ n ≤ 3 ∧ 0 ≤ M ∧
  ∀ rs p, ROk n (M + 1100) rs → pos ≤ p → p ≤ pos + 20 → R (.d (rdD rs)) (DS row total p gs)
def T__law_told : DSp := fun xs cs R => ∃ n m c p s E0 P E rs, ∃ ph now : Nat, xs = [.d (pilD P), si (ph : Int), si (now : Int), .d (bxD E), .d (rdD rs)] ∧ POk n m c p s E0 P ∧ ph < p ∧ now < m ∧ EOk n 1000000 E ∧ R (.d (outD (tell P ph now E rs.isSome))) cs
def T__law_now : DSp := fun xs cs R => ∃ row total pos gs n m c p s E P, ∃ was : Nat, ∃ k : Int, xs = [.ref 2, .d (pilD P), si (was : Int), si k] ∧ cs = DS row total pos gs ∧ Deal row total pos ∧ pos < 2 ^ 38 ∧ POk n m c p s E P ∧ was < m ∧ 0 ≤ k ∧ k < (c : Int) ∧
  ∀ (now : Nat) p, now < m → pos ≤ p → p ≤ pos + 20 → R (si (now : Int)) (DS row total p gs)
def T_law : DSp := TLaw 63
end K44

set_option Elab.async false
set_option linter.all false
set_option maxRecDepth 100000
namespace K44
open PySem L2 FL FR
def rd_greatest_divisor_b1 : TSD := (dPar 0 1 (dCons (dVar 1) (dCons (dOp qMod (dVar 0) (dVar 1)) dNil)))
/-- slots of greatest_divisor: 0 p, 1 q -/
def rd_greatest_divisor : TSD := (dSeq (dWhile (dTestR (dOp qNe (dVar 1) (dC (.int 0))))
    rd_greatest_divisor_b1)
    (dRet (dCB cAbs (dCons (dVar 0) dNil))))
/-- slots of compare: 0 s, 1 t, 2 difference -/
def rd_compare : TSD := (dSeq (dAsg (dOp qSub (dOp qMul (dIxK 0 (dVar 0)) (dIxK 1 (dVar 1))) (dOp qMul (dIxK 0 (dVar 1)) (dIxK 1 (dVar 0)))) (dgName 2))
    (dSeq (dIfS (dTestR (dOp qLt (dVar 2) (dC (.int 0))))
    (dRet (dUn qNeg (dC (.int 1))))
    dNext)
    (dSeq (dIfS (dTestR (dOp qGt (dVar 2) (dC (.int 0))))
    (dRet (dC (.int 1)))
    dNext)
    (dRet (dC (.int 0))))))
/-- slots of is_ratio: 0 pair -/
def rd_is_ratio : TSD := (dRet (dAndV (dOp qGe (dIxK 1 (dVar 0)) (dC (.int 1))) (dOp qEq (dCall 2 T_greatest_divisor (dCons (dIxK 0 (dVar 0)) (dCons (dIxK 1 (dVar 0)) dNil))) (dC (.int 1)))))
def rd_are_units_e1 : TD := (dC (.int 1))
def rd_are_units_t1 : TTD := (dOr (dNot (dTru (dCall 1 T_is_ratio (dCons (dVar 2) dNil)))) (dTestR (dOp qLt (dCall 2 T_compare (dCons (dVar 2) (dCons (dC c_NOTHING) dNil))) (dC (.int 1)))))
/-- slots of are_units: 0 n, 1 datum, 2 unit -/
def rd_are_units : TSD := (dSeq (dIfS (dTestR (dOp qNe (dCB cLen (dCons (dVar 1) dNil)) (dVar 0)))
    (dRet (dC (.bool false)))
    dNext)
    (dRet (dOp qEq (dCB cLen (dCons (dLcG (dItems (dVar 1)) (dgName 2) rd_are_units_t1 rd_are_units_e1 [2] kFro) dNil)) (dC (.int 0)))))
def rd_is_inside_e1 : TD := (dC (.int 1))
def rd_is_inside_t1 : TTD := (dOr (dTestR (dOp qLt (dVar 2) (dVar 4))) (dTestR (dOp qGt (dVar 3) (dVar 5))))
/-- slots of is_inside: 0 one, 1 other, 2 a, 3 b, 4 c, 5 d -/
def rd_is_inside : TSD := (dRet (dOp qEq (dCB cLen (dCons (dLcG (dZip (dCons (dVar 0) (dCons (dVar 1) dNil))) (dgTup 2 (dgCons (dgTup 2 (dgCons (dgName 2) (dgCons (dgName 3) dgNil))) (dgCons (dgTup 2 (dgCons (dgName 4) (dgCons (dgName 5) dgNil))) dgNil))) rd_is_inside_t1 rd_is_inside_e1 [2, 3, 4, 5] kFro) dNil)) (dC (.int 0))))
def rd_read_box_e1 : TD := (dTup (dCons (dOp qSub (dVar 2) (dVar 3)) (dCons (dOp qAdd (dVar 2) (dVar 4)) dNil)))
/-- slots of read_box: 0 reads, 1 readings, 2 r, 3 a, 4 b -/
def rd_read_box : TSD := (dRet (dCB cTup (dCons (dLcG (dZip (dCons (dVar 0) (dCons (dVar 1) dNil))) (dgTup 2 (dgCons (dgTup 2 (dgCons (dgName 3) (dgCons (dgName 4) dgNil))) (dgCons (dgName 2) dgNil))) dYes rd_read_box_e1 [2, 3, 4] kFro) dNil)))
def rd_gone_on_e1 : TD := (dTup (dCons (dOp qAdd (dVar 2) (dVar 4)) (dCons (dOp qAdd (dVar 3) (dVar 5)) dNil)))
/-- slots of gone_on: 0 estimate, 1 offset, 2 lo, 3 hi, 4 a, 5 b -/
def rd_gone_on : TSD := (dRet (dCB cTup (dCons (dLcG (dZip (dCons (dVar 0) (dCons (dVar 1) dNil))) (dgTup 2 (dgCons (dgTup 2 (dgCons (dgName 2) (dgCons (dgName 3) dgNil))) (dgCons (dgTup 2 (dgCons (dgName 4) (dgCons (dgName 5) dgNil))) dgNil))) dYes rd_gone_on_e1 [2, 3, 4, 5] kFro) dNil)))
def rd_met_boxes_e1 : TD := (dTup (dCons (dCB cMax2 (dCons (dVar 3) (dCons (dVar 5) dNil))) (dCons (dCB cMin2 (dCons (dVar 4) (dCons (dVar 6) dNil))) dNil)))
def rd_met_boxes_e2 : TD := (dC (.int 1))
def rd_met_boxes_t1 : TTD := (dTestR (dOp qGt (dVar 7) (dVar 8)))
/-- slots of met_boxes: 0 one, 1 other, 2 found, 3 a, 4 b, 5 c, 6 d, 7 lo, 8 hi -/
def rd_met_boxes : TSD := (dSeq (dAsg (dCB cTup (dCons (dLcG (dZip (dCons (dVar 0) (dCons (dVar 1) dNil))) (dgTup 2 (dgCons (dgTup 2 (dgCons (dgName 3) (dgCons (dgName 4) dgNil))) (dgCons (dgTup 2 (dgCons (dgName 5) (dgCons (dgName 6) dgNil))) dgNil))) dYes rd_met_boxes_e1 [3, 4, 5, 6] kFro) dNil)) (dgName 2))
    (dRet (dIf (dTestR (dOp qGt (dCB cLen (dCons (dLcG (dItems (dVar 2)) (dgTup 2 (dgCons (dgName 7) (dgCons (dgName 8) dgNil))) rd_met_boxes_t1 rd_met_boxes_e2 [7, 8] kFro) dNil)) (dC (.int 0)))) (dC .none) (dVar 2))))
/-- slots of is_number: 0 datum -/
def rd_is_number : TSD := (dRet (dAndV (dIsi .int (dVar 0)) (dNotV (dIsi .bool (dVar 0)))))
def rd_least_sum_e1 : TD := (dCB cMin2 (dCons (dOp qMul (dVar 4) (dVar 5)) (dCons (dOp qMul (dVar 4) (dVar 6)) dNil)))
/-- slots of least_sum: 0 test, 1 whole, 2 factors, 3 number, 4 factor, 5 lo, 6 hi -/
def rd_least_sum : TSD := (dSeq (dAsg (dVar 0) (dgTup 2 (dgCons (dgName 2) (dgCons (dgName 3) dgNil))))
    (dRet (dOp qAdd (dVar 3) (dCB cSum (dCons (dLcG (dZip (dCons (dVar 2) (dCons (dVar 1) dNil))) (dgTup 2 (dgCons (dgName 4) (dgCons (dgTup 2 (dgCons (dgName 5) (dgCons (dgName 6) dgNil))) dgNil))) dYes rd_least_sum_e1 [4, 5, 6] kFro) dNil)))))
/-- slots of holds_for: 0 test, 1 whole -/
def rd_holds_for : TSD := (dRet (dOp qGe (dCall 2 T_least_sum (dCons (dVar 0) (dCons (dVar 1) dNil))) (dC (.int 0))))
def rd_row_holds_b1 : TSD := (dIfS (dNot (dTru (dCall 2 T_holds_for (dCons (dVar 2) (dCons (dVar 1) dNil)))))
    (dRet (dC (.bool false)))
    dNext)
/-- slots of row_holds: 0 row, 1 whole, 2 test -/
def rd_row_holds : TSD := (dSeq (dFor (dItems (dIxK 0 (dVar 0))) (dgName 2)
    rd_row_holds_b1)
    (dRet (dC (.bool true))))
def rd_command_in_b1 : TSD := (dIfS (dTru (dCall 2 T_row_holds (dCons (dVar 2) (dCons (dVar 1) dNil))))
    (dRet (dIxK 1 (dVar 2)))
    dNext)
/-- slots of command_in: 0 table, 1 whole, 2 row -/
def rd_command_in : TSD := (dSeq (dFor (dItems (dVar 0)) (dgName 2)
    rd_command_in_b1)
    (dRet (dC .none)))
def rd_first_state_e1 : TD := (dVar 3)
def rd_first_state_t1 : TTD := (dTestR (dOp qNotN (dVar 4) (dC .none)))
/-- slots of first_state: 0 pilot, 1 firsts, 2 mode, 3 index, 4 first -/
def rd_first_state : TSD := (dSeq (dAsg (dIxK 5 (dVar 0)) (dgName 1))
    (dSeq (dAsg (dIxK 0 (dLcG (dEnumT (dCons (dVar 1) dNil)) (dgTup 2 (dgCons (dgName 3) (dgCons (dgName 4) dgNil))) rd_first_state_t1 rd_first_state_e1 [3, 4] kFro)) (dgName 2))
    (dRet (dTup (dCons (dOp qSub (dCB cLen (dCons (dIxK 3 (dVar 0)) dNil)) (dC (.int 1))) (dCons (dVar 2) (dCons (dOp dIxR (dVar 1) (dVar 2)) (dCons (dC .none) dNil))))))))
/-- slots of estimate_now: 0 pilot, 1 state, 2 now, 3 _, 4 mode, 5 estimate, 6 command, 7 offset -/
def rd_estimate_now : TSD := (dSeq (dAsg (dVar 1) (dgTup 4 (dgCons (dgName 3) (dgCons (dgName 4) (dgCons (dgName 5) (dgCons (dgName 6) dgNil))))))
    (dSeq (dIfS (dTestR (dOp qIsN (dVar 6) (dC .none)))
    (dRet (dIf (dTestR (dOp qEq (dVar 2) (dVar 4))) (dVar 5) (dC .none)))
    dNext)
    (dSeq (dAsg (dOp dIxR (dOp dIxR (dOp dIxR (dIxK 1 (dVar 0)) (dVar 4)) (dVar 6)) (dVar 2)) (dgName 7))
    (dRet (dIf (dTestR (dOp qIsN (dVar 7) (dC .none))) (dC .none) (dCall 2 T_gone_on (dCons (dVar 5) (dCons (dVar 7) dNil))))))))
/-- slots of beat_of: 0 pilot, 1 state, 2 now, 3 readings, 4 estimate, 5 phase, 6 command -/
def rd_beat_of : TSD := (dSeq (dAsg (dCall 3 T_estimate_now (dCons (dVar 0) (dCons (dVar 1) (dCons (dVar 2) dNil)))) (dgName 4))
    (dSeq (dIfS (dTestR (dOp qIsN (dVar 4) (dC .none)))
    (dRet (dTup (dCons (dC c_BROKEN) (dCons (dC c_WAY) dNil))))
    dNext)
    (dSeq (dIfS (dTestR (dOp qNotN (dVar 3) (dC .none)))
    (dAsg (dCall 2 T_met_boxes (dCons (dVar 4) (dCons (dCall 2 T_read_box (dCons (dIxK 2 (dVar 0)) (dCons (dVar 3) dNil))) dNil))) (dgName 4))
    dNext)
    (dSeq (dIfS (dTestR (dOp qIsN (dVar 4) (dC .none)))
    (dRet (dTup (dCons (dC c_BROKEN) (dCons (dC c_EMPTY) dNil))))
    dNext)
    (dSeq (dIfS (dNot (dTru (dCall 2 T_is_inside (dCons (dVar 4) (dCons (dOp dIxR (dIxK 4 (dVar 0)) (dVar 2)) dNil)))))
    (dRet (dTup (dCons (dC c_BROKEN) (dCons (dC c_SPAN) dNil))))
    dNext)
    (dSeq (dAsg (dIxK 0 (dVar 1)) (dgName 5))
    (dSeq (dAsg (dCall 2 T_command_in (dCons (dOp dIxR (dOp dIxR (dIxK 3 (dVar 0)) (dVar 5)) (dVar 2)) (dCons (dVar 4) dNil))) (dgName 6))
    (dSeq (dIfS (dTestR (dOp qIsN (dVar 6) (dC .none)))
    (dRet (dTup (dCons (dC c_BROKEN) (dCons (dC c_NONE) dNil))))
    dNext)
    (dRet (dTup (dCons (dC c_GIVEN) (dCons (dVar 6) (dCons (dTup (dCons (dCB cMax2 (dCons (dOp qSub (dVar 5) (dC (.int 1))) (dCons (dC (.int 0)) dNil))) (dCons (dVar 2) (dCons (dVar 4) (dCons (dVar 6) dNil))))) dNil)))))))))))))
def rd_driven_b1 : TSD := (dSeq (dAsg (dCall 4 T_beat_of (dCons (dVar 0) (dCons (dVar 2) (dCons (dVar 4) (dCons (dVar 5) dNil))))) (dgName 6))
    (dSeq (dDrop (dApp (dVar 3) (dVar 6)))
    (dSeq (dIfS (dTestR (dOp qEq (dIxK 0 (dVar 6)) (dC c_BROKEN)))
    (dRet (dVarF 3))
    dNext)
    (dAsg (dIxK 2 (dVar 6)) (dgName 2)))))
/-- slots of driven: 0 pilot, 1 inputs, 2 state, 3 found, 4 now, 5 readings, 6 outcome -/
def rd_driven : TSD := (dSeq (dAsg (dCall 1 T_first_state (dCons (dVar 0) dNil)) (dgName 2))
    (dSeq (dAsg (dLstM dNil) (dgName 3))
    (dSeq (dFor (dItems (dVar 1)) (dgTup 2 (dgCons (dgName 4) (dgCons (dgName 5) dgNil)))
    rd_driven_b1)
    (dRet (dVarF 3)))))
/-- slots of is_pair: 0 datum -/
def rd_is_pair : TSD := (dRet (dAndV (dIsi .tuple (dVar 0)) (dAndV (dOp qEq (dCB cLen (dCons (dVar 0) dNil)) (dC (.int 2))) (dAndV (dCall 1 T_is_number (dCons (dIxK 0 (dVar 0)) dNil)) (dCall 1 T_is_number (dCons (dIxK 1 (dVar 0)) dNil))))))
def rd_are_pairs_e1 : TD := (dC (.int 1))
def rd_are_pairs_t1 : TTD := (dNot (dTru (dCall 1 T_is_pair (dCons (dVar 2) dNil))))
/-- slots of are_pairs: 0 n, 1 datum, 2 pair -/
def rd_are_pairs : TSD := (dSeq (dIfS (dOr (dNot (dTru (dIsi .tuple (dVar 1)))) (dTestR (dOp qNe (dCB cLen (dCons (dVar 1) dNil)) (dVar 0))))
    (dRet (dC (.bool false)))
    dNext)
    (dRet (dOp qEq (dCB cLen (dCons (dLcG (dItems (dVar 1)) (dgName 2) rd_are_pairs_t1 rd_are_pairs_e1 [2] kFro) dNil)) (dC (.int 0)))))
def rd_are_risen_e1 : TD := (dC (.int 1))
def rd_are_risen_t1 : TTD := (dTestR (dOp qGt (dVar 1) (dVar 2)))
/-- slots of are_risen: 0 datum, 1 lo, 2 hi -/
def rd_are_risen : TSD := (dRet (dOp qEq (dCB cLen (dCons (dLcG (dItems (dVar 0)) (dgTup 2 (dgCons (dgName 1) (dgCons (dgName 2) dgNil))) rd_are_risen_t1 rd_are_risen_e1 [1, 2] kFro) dNil)) (dC (.int 0))))
def rd_is_whole_test_e1 : TD := (dC (.int 1))
def rd_is_whole_test_t1 : TTD := (dNot (dTru (dCall 1 T_is_number (dCons (dVar 2) dNil))))
/-- slots of is_whole_test: 0 n, 1 datum, 2 factor -/
def rd_is_whole_test : TSD := (dSeq (dIfS (dOr (dNot (dTru (dIsi .tuple (dVar 1)))) (dOr (dTestR (dOp qNe (dCB cLen (dCons (dVar 1) dNil)) (dC (.int 2)))) (dOr (dNot (dTru (dIsi .tuple (dIxK 0 (dVar 1))))) (dTestR (dOp qNe (dCB cLen (dCons (dIxK 0 (dVar 1)) dNil)) (dVar 0))))))
    (dRet (dC (.bool false)))
    dNext)
    (dRet (dAndV (dCall 1 T_is_number (dCons (dIxK 1 (dVar 1)) dNil)) (dOp qEq (dCB cLen (dCons (dLcG (dItems (dIxK 0 (dVar 1))) (dgName 2) rd_is_whole_test_t1 rd_is_whole_test_e1 [2] kFro) dNil)) (dC (.int 0))))))
def rd_is_whole_row_e1 : TD := (dC (.int 1))
def rd_is_whole_row_t1 : TTD := (dNot (dTru (dCall 2 T_is_whole_test (dCons (dVar 0) (dCons (dVar 3) dNil)))))
/-- slots of is_whole_row: 0 n, 1 commands, 2 datum, 3 test -/
def rd_is_whole_row : TSD := (dSeq (dIfS (dOr (dNot (dTru (dIsi .tuple (dVar 2)))) (dOr (dTestR (dOp qNe (dCB cLen (dCons (dVar 2) dNil)) (dC (.int 2)))) (dNot (dTru (dIsi .tuple (dIxK 0 (dVar 2)))))))
    (dRet (dC (.bool false)))
    dNext)
    (dSeq (dIfS (dOr (dNot (dTru (dCall 1 T_is_number (dCons (dIxK 1 (dVar 2)) dNil)))) (dNot (dTestR (dChain qLe qLt (dC (.int 0)) (dIxK 1 (dVar 2)) (dVar 1)))))
    (dRet (dC (.bool false)))
    dNext)
    (dRet (dOp qEq (dCB cLen (dCons (dLcG (dItems (dIxK 0 (dVar 2))) (dgName 3) rd_is_whole_row_t1 rd_is_whole_row_e1 [3] kFro) dNil)) (dC (.int 0))))))
def rd_are_phases_e1 : TD := (dC (.int 1))
def rd_are_phases_t1 : TTD := (dNot (dTru (dCall 3 T_is_whole_row (dCons (dVar 0) (dCons (dVar 2) (dCons (dVar 6) dNil))))))
def rd_are_phases_b1 : TSD := (dIfS (dOr (dNot (dTru (dIsi .tuple (dVar 5)))) (dTestR (dOp qGt (dCB cLen (dCons (dLcG (dItems (dVar 5)) (dgName 6) rd_are_phases_t1 rd_are_phases_e1 [6] kFro) dNil)) (dC (.int 0)))))
    (dRet (dC (.bool false)))
    dNext)
def rd_are_phases_b2 : TSD := (dSeq (dIfS (dOr (dNot (dTru (dIsi .tuple (dVar 4)))) (dTestR (dOp qNe (dCB cLen (dCons (dVar 4) dNil)) (dVar 1))))
    (dRet (dC (.bool false)))
    dNext)
    (dFor (dItems (dVar 4)) (dgName 5)
    rd_are_phases_b1))
/-- slots of are_phases: 0 n, 1 modes, 2 commands, 3 datum, 4 phase, 5 table, 6 row -/
def rd_are_phases : TSD := (dSeq (dIfS (dOr (dNot (dTru (dIsi .tuple (dVar 3)))) (dNot (dTestR (dChain qLe qLe (dC (.int 1)) (dCB cLen (dCons (dVar 3) dNil)) (dC c_MOST_PHASES)))))
    (dRet (dC (.bool false)))
    dNext)
    (dSeq (dFor (dItems (dVar 3)) (dgName 4)
    rd_are_phases_b2)
    (dRet (dC (.bool true)))))
def rd_are_offsets_e1 : TD := (dC (.int 1))
def rd_are_offsets_t1 : TTD := (dAnd (dTestR (dOp qNotN (dVar 6) (dC .none))) (dNot (dTru (dCall 2 T_are_pairs (dCons (dVar 0) (dCons (dVar 6) dNil))))))
def rd_are_offsets_b1 : TSD := (dSeq (dIfS (dOr (dNot (dTru (dIsi .tuple (dVar 5)))) (dTestR (dOp qNe (dCB cLen (dCons (dVar 5) dNil)) (dVar 1))))
    (dRet (dC (.bool false)))
    dNext)
    (dIfS (dTestR (dOp qGt (dCB cLen (dCons (dLcG (dItems (dVar 5)) (dgName 6) rd_are_offsets_t1 rd_are_offsets_e1 [6] kFro) dNil)) (dC (.int 0))))
    (dRet (dC (.bool false)))
    dNext))
def rd_are_offsets_b2 : TSD := (dSeq (dIfS (dOr (dNot (dTru (dIsi .tuple (dVar 4)))) (dTestR (dOp qNe (dCB cLen (dCons (dVar 4) dNil)) (dVar 2))))
    (dRet (dC (.bool false)))
    dNext)
    (dFor (dItems (dVar 4)) (dgName 5)
    rd_are_offsets_b1))
/-- slots of are_offsets: 0 n, 1 modes, 2 commands, 3 datum, 4 row, 5 told, 6 offset -/
def rd_are_offsets : TSD := (dSeq (dIfS (dOr (dNot (dTru (dIsi .tuple (dVar 3)))) (dTestR (dOp qNe (dCB cLen (dCons (dVar 3) dNil)) (dVar 1))))
    (dRet (dC (.bool false)))
    dNext)
    (dSeq (dFor (dItems (dVar 3)) (dgName 4)
    rd_are_offsets_b2)
    (dRet (dC (.bool true)))))
def rd_are_boxes_b1 : TSD := (dIfS (dTestR (dOp qIsN (dVar 4) (dC .none)))
    (dIfS (dNot (dTru (dVar 3)))
    (dRet (dC (.bool false)))
    dNext)
    (dIfS (dOr (dNot (dTru (dCall 2 T_are_pairs (dCons (dVar 0) (dCons (dVar 4) dNil))))) (dNot (dTru (dCall 1 T_are_risen (dCons (dVar 4) dNil)))))
    (dRet (dC (.bool false)))
    dNext))
/-- slots of are_boxes: 0 n, 1 modes, 2 datum, 3 may_be_none, 4 box -/
def rd_are_boxes : TSD := (dSeq (dIfS (dOr (dNot (dTru (dIsi .tuple (dVar 2)))) (dTestR (dOp qNe (dCB cLen (dCons (dVar 2) dNil)) (dVar 1))))
    (dRet (dC (.bool false)))
    dNext)
    (dSeq (dFor (dItems (dVar 2)) (dgName 4)
    rd_are_boxes_b1)
    (dRet (dC (.bool true)))))
def rd_are_unit_pairs_e1 : TD := (dC (.int 1))
def rd_are_unit_pairs_t1 : TTD := (dNot (dTru (dCall 1 T_is_pair (dCons (dVar 1) dNil))))
/-- slots of are_unit_pairs: 0 datum, 1 unit -/
def rd_are_unit_pairs : TSD := (dSeq (dIfS (dOr (dNot (dTru (dIsi .tuple (dVar 0)))) (dOr (dNot (dTestR (dChain qLe qLe (dC (.int 1)) (dCB cLen (dCons (dVar 0) dNil)) (dC (.int 3))))) (dTestR (dOp qGt (dCB cLen (dCons (dLcG (dItems (dVar 0)) (dgName 1) rd_are_unit_pairs_t1 rd_are_unit_pairs_e1 [1] kFro) dNil)) (dC (.int 0))))))
    (dRet (dC (.bool false)))
    dNext)
    (dRet (dCall 2 T_are_units (dCons (dCB cLen (dCons (dVar 0) dNil)) (dCons (dVar 0) dNil)))))
def rd_is_fixed_pilot_e1 : TD := (dC (.int 1))
def rd_is_fixed_pilot_t1 : TTD := (dTestR (dOp qNotN (dVar 5) (dC .none)))
/-- slots of is_fixed_pilot: 0 datum, 1 n, 2 offsets, 3 modes, 4 commands, 5 first -/
def rd_is_fixed_pilot : TSD := (dSeq (dIfS (dOr (dNot (dTru (dIsi .tuple (dVar 0)))) (dOr (dTestR (dOp qNe (dCB cLen (dCons (dVar 0) dNil)) (dC (.int 6)))) (dNot (dTru (dCall 1 T_are_unit_pairs (dCons (dIxK 0 (dVar 0)) dNil))))))
    (dRet (dC (.bool false)))
    dNext)
    (dSeq (dAsg (dCB cLen (dCons (dIxK 0 (dVar 0)) dNil)) (dgName 1))
    (dSeq (dAsg (dIxK 1 (dVar 0)) (dgName 2))
    (dSeq (dIfS (dOr (dNot (dTru (dIsi .tuple (dVar 2)))) (dOr (dNot (dTestR (dChain qLe qLe (dC (.int 1)) (dCB cLen (dCons (dVar 2) dNil)) (dC (.int 4))))) (dNot (dTru (dIsi .tuple (dIxK 0 (dVar 2)))))))
    (dRet (dC (.bool false)))
    dNext)
    (dSeq (dAsg (dCB cLen (dCons (dVar 2) dNil)) (dgName 3))
    (dSeq (dAsg (dCB cLen (dCons (dIxK 0 (dVar 2)) dNil)) (dgName 4))
    (dSeq (dIfS (dOr (dNot (dTestR (dChain qLe qLe (dC (.int 1)) (dVar 4) (dC (.int 4))))) (dOr (dNot (dTru (dCall 4 T_are_offsets (dCons (dVar 1) (dCons (dVar 3) (dCons (dVar 4) (dCons (dVar 2) dNil))))))) (dNot (dTru (dCall 2 T_are_pairs (dCons (dVar 1) (dCons (dIxK 2 (dVar 0)) dNil)))))))
    (dRet (dC (.bool false)))
    dNext)
    (dSeq (dIfS (dOr (dNot (dTru (dCall 4 T_are_phases (dCons (dVar 1) (dCons (dVar 3) (dCons (dVar 4) (dCons (dIxK 3 (dVar 0)) dNil))))))) (dNot (dTru (dCall 4 T_are_boxes (dCons (dVar 1) (dCons (dVar 3) (dCons (dIxK 4 (dVar 0)) (dCons (dC (.bool false)) dNil))))))))
    (dRet (dC (.bool false)))
    dNext)
    (dRet (dAndV (dCall 4 T_are_boxes (dCons (dVar 1) (dCons (dVar 3) (dCons (dIxK 5 (dVar 0)) (dCons (dC (.bool true)) dNil))))) (dOp qEq (dCB cLen (dCons (dLcG (dItems (dIxK 5 (dVar 0))) (dgName 5) rd_is_fixed_pilot_t1 rd_is_fixed_pilot_e1 [5] kFro) dNil)) (dC (.int 1)))))))))))))
def rd__law_deal_b1 : TSD := (dIfS (dTestR (dOp qGt (dVar 3) (dC (.int 0))))
    (dSeq (dDrop (dApp (dVar 1) (dOp qMod (dVar 3) (dC (.int 1009)))))
    (dAsg (dOp qDiv (dVar 3) (dC (.int 1009))) (dgName 3)))
    dNext)
def rd__law_deal_b2 : TSD := (dSeq (dAsg (dOp qMod (dOp qAdd (dOp qAdd (dOp qMul (dVar 3) (dC (.int 16807))) (dC (.int 12345))) (dVar 4)) (dC (.int 2147483647))) (dgName 3))
    (dDrop (dApp (dVar 1) (dOp qMod (dOp qDiv (dVar 3) (dC (.int 7))) (dC (.int 1009))))))
def rd__law_deal_b3 : TSD := (dSeq (dAsg (dCB cAbs (dCons (dCB cInt (dCons (dOp dIxR (dVar 0) (dVar 2)) dNil)) dNil)) (dgName 3))
    (dIfS (dTestR (dOp qGe (dVar 3) (dOp qPow (dC (.int 10)) (dC (.int 18)))))
    (dFor (dRg1 (dCons (dC (.int 40)) dNil)) (dgName 4)
    rd__law_deal_b1)
    (dSeq (dAsg (dOp qAdd (dOp qAdd (dOp qMul (dOp qMod (dVar 3) (dC (.int 2147483629))) (dC (.int 48271))) (dOp qMul (dVar 2) (dC (.int 69621)))) (dC (.int 11))) (dgName 3))
    (dFor (dRg1 (dCons (dC (.int 5)) dNil)) (dgName 4)
    rd__law_deal_b2))))
/-- slots of _law_deal: 0 script, 1 row, 2 k, 3 cell, 4 turn, 5 total -/
def rd__law_deal : TSD := (dSeq (dAsg (dLstM dNil) (dgName 1))
    (dSeq (dFor (dRg1 (dCons (dCB cMin2 (dCons (dCB cLen (dCons (dVar 0) dNil)) (dCons (dC (.int 63)) dNil))) dNil)) (dgName 2)
    rd__law_deal_b3)
    (dSeq (dAsg (dOp qAdd (dCB cSum (dCons (dVar 1) dNil)) (dCB cLen (dCons (dVar 0) dNil))) (dgName 5))
    (dRet (dLstM (dCons (dVarF 1) (dCons (dLstM (dCons (dC (.int 0)) dNil)) (dCons (dVar 5) dNil))))))))
/-- slots of _law_take: 0 deal, 1 many, 2 at -/
def rd__law_take : TSD := (dSeq (dAsg (dIxK 0 (dIxK 1 (dVar 0))) (dgName 2))
    (dSeq (dAsg (dOp qAdd (dVar 2) (dC (.int 1))) (dgSub (dIxK 1 (dVar 0)) (dC (.int 0))))
    (dSeq (dIfS (dTestR (dOp qLt (dVar 2) (dCB cLen (dCons (dIxK 0 (dVar 0)) dNil))))
    (dRet (dOp qMod (dOp dIxR (dIxK 0 (dVar 0)) (dVar 2)) (dVar 1)))
    dNext)
    (dRet (dOp qMod (dOp qDiv (dOp qAdd (dOp qAdd (dOp qMul (dVar 2) (dC (.int 7919))) (dOp qMul (dIxK 2 (dVar 0)) (dC (.int 31)))) (dOp qMul (dOp qMul (dVar 2) (dVar 2)) (dC (.int 17)))) (dC (.int 3))) (dVar 1))))))
/-- slots of _law_pick: 0 deal, 1 things -/
def rd__law_pick : TSD := (dRet (dOp dIxR (dVar 1) (dCall 2 T__law_take (dCons (dVar 0) (dCons (dCB cLen (dCons (dVar 1) dNil)) dNil)))))
def rd__law_same_b1 (Tself : DSp) : TSD := (dIfS (dNot (dTru (dCall 2 Tself (dCons (dOp dIxR (dVar 0) (dVar 2)) (dCons (dOp dIxR (dVar 1) (dVar 2)) dNil)))))
    (dRet (dC (.bool false)))
    dNext)
/-- slots of _law_same: 0 a, 1 b, 2 k -/
def rd__law_same (Tself : DSp) : TSD := (dSeq (dIfS (dOr (dTru (dIsi .tuple (dVar 1))) (dTru (dIsi .list (dVar 1))))
    (dSeq (dIfS (dOr (dAnd (dTru (dIsi .tuple (dVar 1))) (dNot (dTru (dIsi .tuple (dVar 0))))) (dAnd (dTru (dIsi .list (dVar 1))) (dNot (dTru (dIsi .list (dVar 0))))))
    (dRet (dC (.bool false)))
    dNext)
    (dSeq (dIfS (dTestR (dOp qNe (dCB cLen (dCons (dVar 0) dNil)) (dCB cLen (dCons (dVar 1) dNil))))
    (dRet (dC (.bool false)))
    dNext)
    (dSeq (dFor (dRg1 (dCons (dCB cLen (dCons (dVar 1) dNil)) dNil)) (dgName 2)
    (rd__law_same_b1 Tself))
    (dRet (dC (.bool true))))))
    dNext)
    (dSeq (dIfS (dOr (dTru (dIsi .bool (dVar 0))) (dTru (dIsi .bool (dVar 1))))
    (dRet (dAndV (dIsi .bool (dVar 0)) (dAndV (dIsi .bool (dVar 1)) (dOp qEq (dVar 0) (dVar 1)))))
    dNext)
    (dSeq (dIfS (dTru (dIsi .int (dVar 1)))
    (dRet (dAndV (dIsi .int (dVar 0)) (dOp qEq (dVar 0) (dVar 1))))
    dNext)
    (dSeq (dIfS (dTru (dIsi .str (dVar 1)))
    (dRet (dAndV (dIsi .str (dVar 0)) (dOp qEq (dVar 0) (dVar 1))))
    dNext)
    (dRet (dAndV (dOp qIsN (dVar 0) (dC .none)) (dOp qIsN (dVar 1) (dC .none))))))))
/-- slots of _law_pair: 0 deal, 1 low, 2 many, 3 wide, 4 lo -/
def rd__law_pair : TSD := (dSeq (dAsg (dOp qAdd (dVar 1) (dCall 2 T__law_take (dCons (dVar 0) (dCons (dVar 2) dNil)))) (dgName 4))
    (dRet (dTup (dCons (dVar 4) (dCons (dOp qAdd (dVar 4) (dCall 2 T__law_take (dCons (dVar 0) (dCons (dVar 3) dNil)))) dNil)))))
def rd__law_row_e1 : TD := (dOp qSub (dCall 2 T__law_take (dCons (dVar 0) (dCons (dC (.int 5)) dNil))) (dC (.int 2)))
def rd__law_row_b1 : TSD := (dSeq (dAsg (dCB cTup (dCons (dLcG (dRg1 (dCons (dVar 1) dNil)) (dgName 6) dYes rd__law_row_e1 [6] kFro) dNil)) (dgName 5))
    (dDrop (dApp (dVar 3) (dTup (dCons (dVar 5) (dCons (dOp qSub (dCall 2 T__law_take (dCons (dVar 0) (dCons (dC (.int 25)) dNil))) (dC (.int 4))) dNil))))))
/-- slots of _law_row: 0 deal, 1 n, 2 commands, 3 tests, 4 turn, 5 factors, 6 k -/
def rd__law_row : TSD := (dSeq (dAsg (dLstM dNil) (dgName 3))
    (dSeq (dFor (dRg1 (dCons (dCall 2 T__law_take (dCons (dVar 0) (dCons (dC (.int 3)) dNil))) dNil)) (dgName 4)
    rd__law_row_b1)
    (dRet (dTup (dCons (dCB cTup (dCons (dVar 3) dNil)) (dCons (dCall 2 T__law_take (dCons (dVar 0) (dCons (dVar 2) dNil))) dNil))))))
def rd__law_offset_e1 : TD := (dCall 4 T__law_pair (dCons (dVar 0) (dCons (dUn qNeg (dC (.int 4))) (dCons (dC (.int 7)) (dCons (dC (.int 4)) dNil)))))
/-- slots of _law_offset: 0 deal, 1 n, 2 k -/
def rd__law_offset : TSD := (dSeq (dIfS (dTestR (dOp qEq (dCall 2 T__law_take (dCons (dVar 0) (dCons (dC (.int 6)) dNil))) (dC (.int 0))))
    (dRet (dC .none))
    dNext)
    (dRet (dCB cTup (dCons (dLcG (dRg1 (dCons (dVar 1) dNil)) (dgName 2) dYes rd__law_offset_e1 [2] kFro) dNil))))
def rd__law_pilot_e1 : TD := (dCall 2 T__law_pick (dCons (dVar 0) (dCons (dLst (dCons (dTup (dCons (dC (.int 1)) (dCons (dC (.int 1)) dNil))) (dCons (dTup (dCons (dC (.int 1)) (dCons (dC (.int 2)) dNil))) (dCons (dTup (dCons (dC (.int 3)) (dCons (dC (.int 4)) dNil))) dNil)))) dNil)))
def rd__law_pilot_e2 : TD := (dCall 2 T__law_offset (dCons (dVar 0) (dCons (dVar 1) dNil)))
def rd__law_pilot_e3 : TD := (dCB cTup (dCons (dLcG (dRg1 (dCons (dVar 2) dNil)) (dgName 19) dYes rd__law_pilot_e2 [19] kFro) dNil))
def rd__law_pilot_b1 : TSD := (dSeq (dAsg (dLcG (dRg1 (dCons (dVar 3) dNil)) (dgName 18) dYes rd__law_pilot_e3 [18] kFro) (dgName 8))
    (dDrop (dApp (dVar 6) (dCB cTup (dCons (dVar 8) dNil)))))
def rd__law_pilot_e4 : TD := (dTup (dCons (dCall 2 T__law_take (dCons (dVar 0) (dCons (dC (.int 3)) dNil))) (dCons (dOp qAdd (dC (.int 1)) (dCall 2 T__law_take (dCons (dVar 0) (dCons (dC (.int 4)) dNil)))) dNil)))
def rd__law_pilot_e5 : TD := (dCall 3 T__law_row (dCons (dVar 0) (dCons (dVar 1) (dCons (dVar 3) dNil))))
def rd__law_pilot_b2 : TSD := (dSeq (dAsg (dLcG (dRg1 (dCons (dCall 2 T__law_take (dCons (dVar 0) (dCons (dC (.int 3)) dNil))) dNil)) (dgName 20) dYes rd__law_pilot_e5 [20] kMut) (dgName 13))
    (dSeq (dIfS (dTestR (dOp qGt (dCall 2 T__law_take (dCons (dVar 0) (dCons (dC (.int 5)) dNil))) (dC (.int 0))))
    (dDrop (dApp (dVar 13) (dTup (dCons (dTup dNil) (dCons (dCall 2 T__law_take (dCons (dVar 0) (dCons (dVar 3) dNil))) dNil)))))
    dNext)
    (dDrop (dApp (dVar 12) (dCB cTup (dCons (dVar 13) dNil))))))
def rd__law_pilot_b3 : TSD := (dSeq (dAsg (dLstM dNil) (dgName 12))
    (dSeq (dFor (dRg1 (dCons (dVar 2) dNil)) (dgName 7)
    rd__law_pilot_b2)
    (dDrop (dApp (dVar 10) (dCB cTup (dCons (dVar 12) dNil))))))
def rd__law_pilot_e6 : TD := (dCall 4 T__law_pair (dCons (dVar 0) (dCons (dUn qNeg (dC (.int 30))) (dCons (dC (.int 15)) (dCons (dC (.int 1)) dNil)))))
def rd__law_pilot_e7 : TD := (dCB cTup (dCons (dLcG (dRg1 (dCons (dVar 1) dNil)) (dgName 17) dYes rd__law_pilot_e6 [17] kFro) dNil))
def rd__law_pilot_e8 : TD := (dTup (dCons (dVar 22) (dCons (dOp qAdd (dC (.int 12)) (dCall 2 T__law_take (dCons (dVar 0) (dCons (dC (.int 20)) dNil)))) dNil)))
def rd__law_pilot_e9 : TD := (dCB cTup (dCons (dLcG (dItems (dVar 21)) (dgTup 2 (dgCons (dgName 22) (dgCons (dgName 23) dgNil))) dYes rd__law_pilot_e8 [22, 23] kFro) dNil))
def rd__law_pilot_e10 : TD := (dCall 4 T__law_pair (dCons (dVar 0) (dCons (dUn qNeg (dC (.int 5))) (dCons (dC (.int 8)) (dCons (dC (.int 7)) dNil)))))
def rd__law_pilot_e11 : TD := (dIf (dTestR (dOp qEq (dVar 7) (dVar 15))) (dVar 16) (dC .none))
/-- slots of _law_pilot: 0 deal, 1 n, 2 modes, 3 commands, 4 phases, 5 units, 6 offsets, 7 q, 8 row, 9 reads, 10 tables, 11 j, 12 phase, 13 rows, 14 spans, 15 start, 16 first, 17 k, 18 c, 19 r, 20 turn, 21 span, 22 lo, 23 hi -/
def rd__law_pilot : TSD := (dSeq (dParN 3 (dCons (dOp qAdd (dC (.int 1)) (dCall 2 T__law_take (dCons (dVar 0) (dCons (dC (.int 4)) dNil)))) (dCons (dOp qAdd (dC (.int 1)) (dCall 2 T__law_take (dCons (dVar 0) (dCons (dC (.int 4)) dNil)))) (dCons (dOp qAdd (dC (.int 1)) (dCall 2 T__law_take (dCons (dVar 0) (dCons (dC (.int 4)) dNil)))) dNil))) (dgCons (dgName 2) (dgCons (dgName 3) (dgCons (dgName 4) dgNil))))
    (dSeq (dAsg (dCB cTup (dCons (dLcG (dRg1 (dCons (dVar 1) dNil)) (dgName 17) dYes rd__law_pilot_e1 [17] kFro) dNil)) (dgName 5))
    (dSeq (dAsg (dLstM dNil) (dgName 6))
    (dSeq (dFor (dRg1 (dCons (dVar 2) dNil)) (dgName 7)
    rd__law_pilot_b1)
    (dSeq (dAsg (dCB cTup (dCons (dLcG (dRg1 (dCons (dVar 1) dNil)) (dgName 17) dYes rd__law_pilot_e4 [17] kFro) dNil)) (dgName 9))
    (dSeq (dAsg (dLstM dNil) (dgName 10))
    (dSeq (dFor (dRg1 (dCons (dVar 4) dNil)) (dgName 11)
    rd__law_pilot_b3)
    (dSeq (dAsg (dCB cTup (dCons (dLcG (dRg1 (dCons (dVar 2) dNil)) (dgName 7) dYes rd__law_pilot_e7 [7] kFro) dNil)) (dgName 14))
    (dSeq (dAsg (dCB cTup (dCons (dLcG (dItems (dVar 14)) (dgName 21) dYes rd__law_pilot_e9 [21] kFro) dNil)) (dgName 14))
    (dSeq (dAsg (dCall 2 T__law_take (dCons (dVar 0) (dCons (dVar 2) dNil))) (dgName 15))
    (dSeq (dAsg (dCB cTup (dCons (dLcG (dRg1 (dCons (dVar 1) dNil)) (dgName 17) dYes rd__law_pilot_e10 [17] kFro) dNil)) (dgName 16))
    (dRet (dTup (dCons (dVar 5) (dCons (dCB cTup (dCons (dVar 6) dNil)) (dCons (dVar 9) (dCons (dCB cTup (dCons (dVar 10) dNil)) (dCons (dVar 14) (dCons (dCB cTup (dCons (dLcG (dRg1 (dCons (dVar 2) dNil)) (dgName 7) dYes rd__law_pilot_e11 [7] kFro) dNil)) dNil)))))))))))))))))))
def rd__law_known_b1 : TSD := (dSeq (dAsg (dOp qAdd (dVar 9) (dIxK 0 (dOp dIxR (dVar 11) (dVar 4)))) (dgName 9))
    (dAsg (dOp qAdd (dVar 10) (dIxK 1 (dOp dIxR (dVar 11) (dVar 4)))) (dgName 10)))
def rd__law_known_b2 : TSD := (dSeq (dAsg (dOp dIxR (dVar 8) (dVar 4)) (dgTup 2 (dgCons (dgName 9) (dgCons (dgName 10) dgNil))))
    (dSeq (dFor (dItems (dSl (dVar 1) (dPart (dVar 7)) dNoPart)) (dgName 11)
    rd__law_known_b1)
    (dSeq (dDrop (dApp (dVar 5) (dVar 9)))
    (dDrop (dApp (dVar 6) (dVar 10))))))
def rd__law_known_b3 : TSD := (dSeq (dPar 5 6 (dCons (dLstM dNil) (dCons (dLstM dNil) dNil)))
    (dSeq (dFor (dItems (dVar 0)) (dgTup 2 (dgCons (dgName 7) (dgCons (dgName 8) dgNil)))
    rd__law_known_b2)
    (dDrop (dApp (dVar 3) (dTup (dCons (dCB cMax1 (dCons (dVar 5) dNil)) (dCons (dCB cMin1 (dCons (dVar 6) dNil)) dNil)))))))
/-- slots of _law_known: 0 sources, 1 shifts, 2 n, 3 found, 4 k, 5 lows, 6 highs, 7 time, 8 box, 9 low, 10 high, 11 shift -/
def rd__law_known : TSD := (dSeq (dAsg (dLstM dNil) (dgName 3))
    (dSeq (dFor (dRg1 (dCons (dVar 2) dNil)) (dgName 4)
    rd__law_known_b3)
    (dRet (dCB cTup (dCons (dVar 3) dNil)))))
def rd__law_command_b1 : TSD := (dAsg (dOp qAdd (dVar 7) (dCB cMin2 (dCons (dOp qMul (dOp dIxR (dVar 5) (dVar 8)) (dIxK 0 (dOp dIxR (dVar 1) (dVar 8)))) (dCons (dOp qMul (dOp dIxR (dVar 5) (dVar 8)) (dIxK 1 (dOp dIxR (dVar 1) (dVar 8)))) dNil)))) (dgName 7))
def rd__law_command_b2 : TSD := (dSeq (dAsg (dVar 6) (dgName 7))
    (dSeq (dFor (dRg1 (dCons (dCB cLen (dCons (dVar 1) dNil)) dNil)) (dgName 8)
    rd__law_command_b1)
    (dAsg (dOp qAdd (dVar 4) (dCB cInt (dCons (dOp qLt (dVar 7) (dC (.int 0))) dNil))) (dgName 4))))
def rd__law_command_b3 : TSD := (dSeq (dAsg (dC (.int 0)) (dgName 4))
    (dSeq (dFor (dItems (dVar 2)) (dgTup 2 (dgCons (dgName 5) (dgCons (dgName 6) dgNil)))
    rd__law_command_b2)
    (dIfS (dTestR (dOp qEq (dVar 4) (dC (.int 0))))
    (dRet (dVar 3))
    dNext)))
/-- slots of _law_command: 0 table, 1 known, 2 tests, 3 command, 4 failed, 5 factors, 6 rest, 7 least, 8 k -/
def rd__law_command : TSD := (dSeq (dFor (dItems (dVar 0)) (dgTup 2 (dgCons (dgName 2) (dgCons (dgName 3) dgNil)))
    rd__law_command_b3)
    (dRet (dC .none)))
def rd__law_readings_b1 : TSD := (dDrop (dApp (dVar 4) (dOp qAdd (dOp qSub (dVar 5) (dC (.int 1))) (dCall 2 T__law_take (dCons (dVar 0) (dCons (dCB cMax2 (dCons (dC (.int 1)) (dCons (dCB cMin2 (dCons (dC (.int 1009)) (dCons (dOp qAdd (dOp qSub (dVar 6) (dVar 5)) (dC (.int 3))) dNil))) dNil))) dNil))))))
/-- slots of _law_readings: 0 deal, 1 pilot, 2 known, 3 way, 4 found, 5 lo, 6 hi -/
def rd__law_readings : TSD := (dSeq (dAsg (dCall 2 T__law_take (dCons (dVar 0) (dCons (dC (.int 8)) dNil))) (dgName 3))
    (dSeq (dIfS (dTestR (dOp qLt (dVar 3) (dC (.int 3))))
    (dRet (dC .none))
    dNext)
    (dSeq (dAsg (dLstM dNil) (dgName 4))
    (dSeq (dFor (dItems (dVar 2)) (dgTup 2 (dgCons (dgName 5) (dgCons (dgName 6) dgNil)))
    rd__law_readings_b1)
    (dSeq (dIfS (dTestR (dOp qEq (dVar 3) (dC (.int 3))))
    (dAsg (dCall 2 T__law_pick (dCons (dVar 0) (dCons (dLst (dCons (dC (.int 90)) (dCons (dUn qNeg (dC (.int 90))) dNil))) dNil))) (dgSub (dVar 4) (dCall 2 T__law_take (dCons (dVar 0) (dCons (dCB cLen (dCons (dVar 4) dNil)) dNil)))))
    dNext)
    (dRet (dCB cTup (dCons (dVar 4) dNil))))))))
def rd__law_told_e1 : TD := (dC (.int 1))
def rd__law_told_t1 : TTD := (dTestR (dOp qGt (dVar 7) (dVar 8)))
def rd__law_told_b1 : TSD := (dIfS (dOr (dTestR (dOp qLt (dIxK 0 (dOp dIxR (dVar 3) (dVar 5))) (dIxK 0 (dOp dIxR (dOp dIxR (dIxK 4 (dVar 0)) (dVar 2)) (dVar 5))))) (dTestR (dOp qGt (dIxK 1 (dOp dIxR (dVar 3) (dVar 5))) (dIxK 1 (dOp dIxR (dOp dIxR (dIxK 4 (dVar 0)) (dVar 2)) (dVar 5))))))
    (dRet (dTup (dCons (dC (.str "broken")) (dCons (dC (.str "span")) dNil))))
    dNext)
/-- slots of _law_told: 0 pilot, 1 phase, 2 now, 3 known, 4 readings, 5 k, 6 command, 7 lo, 8 hi -/
def rd__law_told : TSD := (dSeq (dIfS (dAnd (dTestR (dOp qNotN (dVar 4) (dC .none))) (dTestR (dOp qGt (dCB cLen (dCons (dLcG (dItems (dVar 3)) (dgTup 2 (dgCons (dgName 7) (dgCons (dgName 8) dgNil))) rd__law_told_t1 rd__law_told_e1 [7, 8] kFro) dNil)) (dC (.int 0)))))
    (dRet (dTup (dCons (dC (.str "broken")) (dCons (dC (.str "empty")) dNil))))
    dNext)
    (dSeq (dFor (dRg1 (dCons (dCB cLen (dCons (dVar 3) dNil)) dNil)) (dgName 5)
    rd__law_told_b1)
    (dSeq (dAsg (dCall 2 T__law_command (dCons (dOp dIxR (dOp dIxR (dIxK 3 (dVar 0)) (dVar 1)) (dVar 2)) (dCons (dVar 3) dNil))) (dgName 6))
    (dSeq (dIfS (dTestR (dOp qIsN (dVar 6) (dC .none)))
    (dRet (dTup (dCons (dC (.str "broken")) (dCons (dC (.str "none")) dNil))))
    dNext)
    (dRet (dTup (dCons (dC (.str "given")) (dCons (dVar 6) (dCons (dTup (dCons (dCB cMax2 (dCons (dOp qSub (dVar 1) (dC (.int 1))) (dCons (dC (.int 0)) dNil))) (dCons (dVar 2) (dCons (dVar 3) (dCons (dVar 6) dNil))))) dNil)))))))))
def rd__law_now_b1 : TSD := (dIfS (dTestR (dOp qIsN (dOp dIxR (dOp dIxR (dOp dIxR (dIxK 1 (dVar 1)) (dVar 2)) (dVar 3)) (dVar 4)) (dC .none)))
    (dAsg (dCall 2 T__law_take (dCons (dVar 0) (dCons (dCB cLen (dCons (dIxK 1 (dVar 1)) dNil)) dNil))) (dgName 4))
    dNext)
/-- slots of _law_now: 0 deal, 1 pilot, 2 was, 3 command, 4 now, 5 turn -/
def rd__law_now : TSD := (dSeq (dAsg (dCall 2 T__law_take (dCons (dVar 0) (dCons (dCB cLen (dCons (dIxK 1 (dVar 1)) dNil)) dNil))) (dgName 4))
    (dSeq (dFor (dRg1 (dCons (dC (.int 3)) dNil)) (dgName 5)
    rd__law_now_b1)
    (dRet (dVar 4))))
def rd_law_e1 : TD := (dVar 19)
def rd_law_t1 : TTD := (dTestR (dOp qNotN (dOp dIxR (dIxK 5 (dVar 3)) (dVar 19)) (dC .none)))
def rd_law_e2 : TD := (dTup (dCons (dOp qSub (dOp dIxR (dVar 16) (dVar 20)) (dIxK 0 (dOp dIxR (dIxK 2 (dVar 3)) (dVar 20)))) (dCons (dOp qAdd (dOp dIxR (dVar 16) (dVar 20)) (dIxK 1 (dOp dIxR (dIxK 2 (dVar 3)) (dVar 20)))) dNil)))
def rd_law_b1 : TSD := (dSeq (dIfS (dAnd (dTestR (dOp qNeC (dVar 11) (dLst dNil))) (dTestR (dOp qEq (dIxK 0 (dOp dIxR (dVar 11) (dUn qNeg (dC (.int 1))))) (dC (.str "broken")))))
    dBreak
    dNext)
    (dSeq (dIfS (dTestR (dOp qEq (dVar 12) (dC (.int 0))))
    (dSeq (dAsg (dIf (dTestR (dOp qGt (dCall 2 T__law_take (dCons (dVar 1) (dCons (dC (.int 12)) dNil))) (dC (.int 0)))) (dVar 5) (dCall 2 T__law_take (dCons (dVar 1) (dCons (dVar 4) dNil)))) (dgName 13))
    (dAsg (dIf (dTestR (dOp qNe (dVar 13) (dVar 5))) (dTup (dCons (dC (.str "broken")) (dCons (dC (.str "way")) dNil))) (dC .none)) (dgName 14)))
    (dSeq (dAsg (dCall 4 T__law_now (dCons (dVar 1) (dCons (dVar 3) (dCons (dIxK 1 (dVar 7)) (dCons (dIxK 3 (dVar 7)) dNil))))) (dgName 13))
    (dSeq (dAsg (dOp dIxR (dOp dIxR (dOp dIxR (dIxK 1 (dVar 3)) (dIxK 1 (dVar 7))) (dIxK 3 (dVar 7))) (dVar 13)) (dgName 15))
    (dSeq (dAsg (dIf (dTestR (dOp qIsN (dVar 15) (dC .none))) (dTup (dCons (dC (.str "broken")) (dCons (dC (.str "way")) dNil))) (dC .none)) (dgName 14))
    (dIfS (dTestR (dOp qNotN (dVar 15) (dC .none)))
    (dDrop (dApp (dVar 9) (dVar 15)))
    dNext)))))
    (dSeq (dAsg (dCall 3 T__law_readings (dCons (dVar 1) (dCons (dVar 3) (dCons (dCall 3 T__law_known (dCons (dVar 8) (dCons (dVar 9) (dCons (dVar 2) dNil)))) dNil)))) (dgName 16))
    (dSeq (dIfS (dTestR (dOp qIsN (dVar 14) (dC .none)))
    (dSeq (dIfS (dTestR (dOp qNotN (dVar 16) (dC .none)))
    (dSeq (dAsg (dCB cTup (dCons (dLcG (dRg1 (dCons (dVar 2) dNil)) (dgName 20) dYes rd_law_e2 [20] kFro) dNil)) (dgName 17))
    (dDrop (dApp (dVar 8) (dTup (dCons (dVar 12) (dCons (dVar 17) dNil))))))
    dNext)
    (dAsg (dCall 5 T__law_told (dCons (dVar 3) (dCons (dIxK 0 (dVar 7)) (dCons (dVar 13) (dCons (dCall 3 T__law_known (dCons (dVar 8) (dCons (dVar 9) (dCons (dVar 2) dNil)))) (dCons (dVar 16) dNil)))))) (dgName 14)))
    dNext)
    (dSeq (dIfS (dNot (dTru (dCall 2 T__law_same (dCons (dCall 4 T_beat_of (dCons (dVar 3) (dCons (dVar 7) (dCons (dVar 13) (dCons (dVar 16) dNil))))) (dCons (dVar 14) dNil)))))
    (dRet (dC (.bool false)))
    dNext)
    (dSeq (dDrop (dApp (dVar 10) (dTup (dCons (dVar 13) (dCons (dVar 16) dNil)))))
    (dSeq (dDrop (dApp (dVar 11) (dVar 14)))
    (dIfS (dTestR (dOp qEq (dIxK 0 (dVar 14)) (dC (.str "given"))))
    (dAsg (dIxK 2 (dVar 14)) (dgName 7))
    dNext))))))))
/-- slots of law: 0 script, 1 deal, 2 n, 3 pilot, 4 modes, 5 start, 6 phase, 7 state, 8 sources, 9 shifts, 10 inputs, 11 told, 12 turn, 13 now, 14 due, 15 shift, 16 readings, 17 box, 18 more, 19 q, 20 k -/
def rd_law : TSD := (dSeq (dAsg (dCall 1 T__law_deal (dCons (dVar 0) dNil)) (dgName 1))
    (dSeq (dAsg (dCall 2 T__law_pick (dCons (dVar 1) (dCons (dLst (dCons (dC (.int 3)) (dCons (dC (.int 2)) (dCons (dC (.int 1)) (dCons (dC (.int 3)) dNil))))) dNil))) (dgName 2))
    (dSeq (dAsg (dCall 2 T__law_pilot (dCons (dVar 1) (dCons (dVar 2) dNil))) (dgName 3))
    (dSeq (dAsg (dCB cLen (dCons (dIxK 1 (dVar 3)) dNil)) (dgName 4))
    (dSeq (dIfS (dTestR (dOp qNotB (dCall 1 T_is_fixed_pilot (dCons (dVar 3) dNil)) (dC (.bool true))))
    (dRet (dC (.bool false)))
    dNext)
    (dSeq (dAsg (dIxK 0 (dLcG (dRg1 (dCons (dVar 4) dNil)) (dgName 19) rd_law_t1 rd_law_e1 [19] kFro)) (dgName 5))
    (dSeq (dAsg (dOp qSub (dCB cLen (dCons (dIxK 3 (dVar 3)) dNil)) (dC (.int 1))) (dgName 6))
    (dSeq (dAsg (dTup (dCons (dVar 6) (dCons (dVar 5) (dCons (dOp dIxR (dIxK 5 (dVar 3)) (dVar 5)) (dCons (dC .none) dNil))))) (dgName 7))
    (dSeq (dIfS (dNot (dTru (dCall 2 T__law_same (dCons (dCall 1 T_first_state (dCons (dVar 3) dNil)) (dCons (dVar 7) dNil)))))
    (dRet (dC (.bool false)))
    dNext)
    (dSeq (dParN 4 (dCons (dLstM (dCons (dTup (dCons (dC (.int 0)) (dCons (dOp dIxR (dIxK 5 (dVar 3)) (dVar 5)) dNil))) dNil)) (dCons (dLstM dNil) (dCons (dLstM dNil) (dCons (dLstM dNil) dNil)))) (dgCons (dgName 8) (dgCons (dgName 9) (dgCons (dgName 10) (dgCons (dgName 11) dgNil)))))
    (dSeq (dFor (dRg1 (dCons (dC (.int 9)) dNil)) (dgName 12)
    rd_law_b1)
    (dSeq (dAsg (dLst (dCons (dTup (dCons (dC (.int 0)) (dCons (dC .none) dNil))) (dCons (dTup (dCons (dOp qSub (dVar 4) (dC (.int 1))) (dCons (dCB cTup (dCons (dRep (dCons (dC (.int 0)) dNil) (dVar 2)) dNil)) dNil))) dNil))) (dgName 18))
    (dRet (dAndV (dCall 2 T__law_same (dCons (dCall 2 T_driven (dCons (dVar 3) (dCons (dVar 10) dNil))) (dCons (dVar 11) dNil))) (dOrV (dOp qEq (dIxK 0 (dOp dIxR (dVar 11) (dUn qNeg (dC (.int 1))))) (dC (.str "given"))) (dCall 2 T__law_same (dCons (dCall 2 T_driven (dCons (dVar 3) (dCons (dOp qAddC (dVar 10) (dVar 18)) dNil))) (dCons (dVar 11) dNil))))))))))))))))))
end K44

set_option Elab.async false
set_option linter.all false
set_option maxRecDepth 100000
set_option maxHeartbeats 2000000
namespace K44
open PySem L2 FL FR
local macro_rules | `(tactic| walk_at "fl") => `(tactic| simp only [dSeq, dAsg, dgName, dVar, dC, dOp, dUn, dIxK, ixkR, itemsR, dTup, dLst, dCons, dNil, dCall, dCB, dIfS, dIf, dTestR, dTru, dTruR, dRet, dRetN, dNext, dDrop, dAnd, dOr, dNot, dAndV, dOrV, dNotV, dPar, dFor, dRg1, dRg2, dItems, dgTup, dgCons, dgNil, dZip, dZipR, dIsi, isTy, tgOf, tab, dApp, dgSub, dLstM, dVarF, dBreak, dCont, dSl, dSlR, dPart, dNoPart, dLcG, dChain, dAug, dEnum,
  qI, qI0, qNeg, qEq, qNe, qIsN, qNotN, isNone, eqOk, dIxR, cAbs, cInt, cLen, cSum, cMax2, cMin2, cTup, cList, cListM, eqv_ii, eqv_bb, kFro, kMut,
  endsD, sd1, sd2, sd3, getS, getC, datas, List.length_cons, List.length_nil, List.map_cons, List.map_nil, Option.map_some, List.set_cons_zero, List.set_cons_succ, List.replicate_succ, List.replicate_zero, List.getElem?_cons_zero, List.getElem?_cons_succ, List.cons_append, List.nil_append,
  Option.some.injEq, S.d.injEq, S.ref.injEq, PyData.int.injEq, PyData.bool.injEq, PyData.list.injEq, PyData.tuple.injEq, List.cons.injEq, and_true, true_and, exists_eq_left, exists_eq_left', exists_eq_right, exists_and_left, exists_and_right, exists_const, forall_const, imp_self, reduceCtorEq, false_and, and_false, decide_eq_true_eq, decide_eq_false_iff_not, Bool.not_eq_true', Bool.not_eq_false', ne_eq, Classical.not_not, Bool.true_eq_false, Bool.false_eq_true, Nat.reduceAdd, false_implies, true_implies, implies_true, sizeLine_eq, Nat.reduceLeDiff, decide_true, decide_false, Bool.not_true, Bool.not_false, decide_not])
local macro_rules | `(tactic| walk_at "fm") => `(tactic| simp only [rgS_len, wip, dSeq, ixk_l, ixk_t, ixk_r, ixr_l, ixr_t, ixr_s, ixr_r, tru_n, tru_b, tru_i, tru_l, tru_t, tru_s, tru_r, its_l, its_t, its_r, gtup_t, eqk_i, eqk_b, eqk_s, eqk_t, eqk_l, len_l, len_t, len_s, len_r, int_i, int_b, sum_l, sum_r, tup_l, tup_t, tup_r, lis_l, lis_t, lis_r, lim_l, lim_t, lim_r, zip_t, zip_l, sl_l, sl_t, sl_r, dAsg, dgName, dVar, dC, dOp, dUn, dIxK, dTup, dLst, dCons, dNil, dCall, dCB, dIfS, dIf, dTestR, dTru, dRet, dRetN, dNext, dDrop, dAnd, dOr, dNot, dAndV, dOrV, dNotV, dPar, dFor, dRg1, dRg2, dItems, dgCons, dgNil, dZip, dIsi, isTy, tgOf, tab, dApp, dgSub, dLstM, dVarF, dBreak, dCont, dSl, dPart, dNoPart, dLcG, dChain, dAug, dEnum,
  qI, qI0, qNeg, qEq, qNe, qIsN, qNotN, isNone, qIsB, qNotB, isB, addl_i, addl_t, addl_l, cAbs, cMax2, cMin2, eqv_ii, eqv_bb, kFro, kMut,
  endsD, sd1, sd2, sd3, sd4, sd5, dParN, dRep, dEnumT, mx1_l, mx1_r, qEqC, qNeC, qAddC, getS, getC, datas, List.length_cons, List.length_nil, List.map_cons, List.map_nil, Option.map_some, List.set_cons_zero, List.set_cons_succ, List.replicate_succ, List.replicate_zero, List.getElem?_cons_zero, List.getElem?_cons_succ, List.cons_append, List.nil_append,
  Option.some.injEq, S.d.injEq, S.ref.injEq, PyData.int.injEq, PyData.bool.injEq, PyData.list.injEq, PyData.tuple.injEq, List.cons.injEq, and_true, true_and, exists_eq_left, exists_eq_left', exists_eq_right, exists_and_left, exists_and_right, exists_const, exists_eq', exists_eq, ixk_enc0, ixk_enc1, not_true_eq_false, not_false_eq_true, and_self, enc_eq, dOk_enc, dOk_int, eqv_enc, datas_si, datas_map, intsOf_map, and_assoc, List.length_map, List.length_append, forall_const, imp_self, reduceCtorEq, false_and, and_false, decide_eq_true_eq, decide_eq_false_iff_not, Bool.not_eq_true', Bool.not_eq_false', ne_eq, Classical.not_not, Bool.true_eq_false, Bool.false_eq_true, Nat.reduceAdd, false_implies, true_implies, implies_true, sizeLine_eq, Nat.reduceLeDiff, decide_true, decide_false, Bool.not_true, Bool.not_false, decide_not])
theorem gd_turns {d : EndsD} {cs : Sto} : ∀ (n : Nat) (p q : Int), 0 ≤ q → q.toNat < n → (∀ g : Int, (if g < 0 then -g else g) = (Int.gcd p q : Nat) → d.nx [some (si g), some (si 0)] cs) →
    whileR (dTestR (dOp qNe (dVar 1) (dC (.int 0)))) rd_greatest_divisor_b1 d n [some (si p), some (si q)] cs
  | 0, p, q, _, h, _ => absurd h (Nat.not_lt_zero _)
  | n + 1, p, q, hq, h, k => by
    unfold whileR rd_greatest_divisor_b1
    walk_at "fl"
    refine ⟨fun hne => ⟨by omega, ?_⟩, fun e => ?_⟩
    · have h0 : 0 < q := by omega
      have h1 := Int.emod_nonneg p (show q ≠ 0 by omega)
      have h2 := Int.emod_lt_of_pos p h0
      exact gd_turns n q (p % q) h1 (by omega) fun g hg => k g (by rw [hg, gcd_turn])
    · subst e
      refine k p ?_
      rw [Int.gcd_zero_right]
      split <;> omega
theorem m_greatest_divisor : ∀ xs cs R, xs.length = 2 → Okc cs.length cs → T_greatest_divisor xs cs R → rd_greatest_divisor (endsD cs.length R) (startD 2 xs) cs := by
  rintro xs cs R hl hc ⟨p, q, rfl, hq, h⟩
  unfold rd_greatest_divisor
  walk_at "fl"
  refine ⟨q.toNat + 1, gd_turns _ p q hq (by omega) fun g hg => ?_⟩
  walk_at "fl"
  rw [hg]
  exact rt_l h
theorem cmp_is {r t : Rat} : cmpR r t = if r.num * t.den - t.num * r.den < 0 then -1 else if r.num * t.den - t.num * r.den > 0 then 1 else 0 := by
  unfold cmpR
  simp only [Rat.lt_iff]
  split <;> split <;> (try split) <;> omega
theorem m_compare : ∀ xs cs R, xs.length = 2 → Okc cs.length cs → T_compare xs cs R → rd_compare (endsD cs.length R) (startD 3 xs) cs := by
  rintro xs cs R hl hc ⟨r, t, rfl, hr, ht, h⟩
  rw [cmp_is] at h
  unfold rd_compare sr encR
  walk_at "fl"
  refine ⟨hr.n.cm ht.d, ht.n.cm hr.d, fun h1 => rt_l ?_, fun h1 => ⟨fun h2 => rt_l ?_, fun h2 => rt_l ?_⟩⟩
  · rw [if_pos h1] at h; exact h
  · rw [if_neg h1, if_pos h2] at h; exact h
  · rw [if_neg h1, if_neg (by omega)] at h; exact h
theorem m_is_ratio : ∀ xs cs R, xs.length = 1 → Okc cs.length cs → T_is_ratio xs cs R → rd_is_ratio (endsD cs.length R) (startD 1 xs) cs := by
  rintro xs cs R hl hc ⟨p, q, rfl, h⟩
  unfold rd_is_ratio T_greatest_divisor
  unfold low at h
  walk_at "fl"
  refine ⟨fun h1 => ⟨p, q, ⟨rfl, rfl⟩, by omega, rt_l ?_⟩, fun h1 => rt_l ?_⟩
  · rw [decide_eq_true h1, Bool.true_and] at h
    have e : decide (((Int.gcd p q : Nat) : Int) = 1) = decide (Int.gcd p q = 1) := by
      congr 1
      exact propext ⟨fun z => by omega, fun z => by omega⟩
    rw [e]
    exact h
  · rw [decide_eq_false h1, Bool.false_and] at h
    exact h
theorem m__law_take : ∀ xs cs R, xs.length = 2 → Okc cs.length cs → T__law_take xs cs R → rd__law_take (endsD cs.length R) (startD 3 xs) cs := by
  rintro xs cs R hl hc ⟨row, total, pos, gs, many, rfl, rfl, D, hm, h⟩
  have h' : ∀ v, 0 ≤ v → v < many → R (si v) (none :: some [si (pos + 1)] :: some [.d (.list (row.map PyData.int)), .ref 1, si total] :: gs) := h
  have p0 := D.p0
  have p1 := D.p1
  have t0 := D.t0
  have t1 := D.t1
  have bp : B 41 pos := by unfold B; omega
  have bt : B 41 total := by unfold B; omega
  unfold rd__law_take DS
  walk_at "fl"
  refine ⟨0, rfl, fun hlt => ?_, fun hge => ⟨bp.cm (m := 13) (by unfold B; decide), bt.cm (m := 5) (by unfold B; decide), bp.cm bp, (bp.mul bp).cm (m := 5) (by unfold B; decide), cdiv_ok (n := 2) _ (by decide) (by unfold B; decide), hm, rt_l ?_⟩⟩
  · obtain ⟨x, hx, e⟩ := atI_of p0 hlt
    obtain ⟨v, hv, rfl⟩ := List.mem_map.mp hx
    exact ⟨_, e, v, rfl, hm, rt_l (h' _ (Int.emod_nonneg _ (by omega)) (Int.emod_lt_of_pos _ hm))⟩
  · exact h' _ (Int.emod_nonneg _ (by omega)) (Int.emod_lt_of_pos _ hm)
theorem m__law_pick : ∀ xs cs R, xs.length = 2 → Okc cs.length cs → T__law_pick xs cs R → rd__law_pick (endsD cs.length R) (startD 2 xs) cs := by
  rintro xs cs R hl hc ⟨row, total, pos, gs, ds, rfl, rfl, D, hd, h⟩
  unfold rd__law_pick T__law_take
  walk_at "fl"
  refine ⟨row, total, pos, gs, rfl, D, by omega, fun v h0 h1 => ?_⟩
  obtain ⟨x, hx, e⟩ := atI_of h0 h1
  exact ⟨x, e, rt_l (h x hx)⟩
theorem Deal.next {row : List Int} {total pos : Int} (D : Deal row total pos) {p : Int} (h0 : pos ≤ p) (h1 : p < 2 ^ 40) : Deal row total p := ⟨D.len, D.lo, D.t0, D.t1, by have := D.p0; omega, h1⟩
def Rows (row : List Int) : Prop := ∀ x ∈ row, 0 ≤ x ∧ x < 1009
theorem Rows.app {row : List Int} (h : Rows row) {x : Int} (h0 : 0 ≤ x) (h1 : x < 1009) : Rows (row ++ [x]) := fun y hy => by
  rcases List.mem_append.mp hy with z | z
  · exact h y z
  · have : y = x := by simpa using z
    subst this; exact ⟨h0, h1⟩
theorem sum_b : ∀ row : List Int, Rows row → 0 ≤ row.sum ∧ row.sum ≤ 1009 * row.length
  | [], _ => by simp
  | x :: row, h => by
    have h1 := h x List.mem_cons_self
    have h2 := sum_b row fun y hy => h y (List.mem_cons_of_mem _ hy)
    rw [List.sum_cons, List.length_cons]
    constructor <;> omega
theorem de1 {d : EndsD} {A K5 T : Option S} (n : Nat) : ∀ (lo : Int) (row : List Int) (cell : Int) (o : Option S), Rows row → row.length + n ≤ 10000 → 0 ≤ cell →
    (∀ row' cell' o, Rows row' → row'.length ≤ row.length + n → d.nx [A, some (.ref 0), K5, some (si cell'), o, T] [some (row'.map si)]) →
    forR okT (dgName 4) rd__law_deal_b1 d (rgS lo n) [A, some (.ref 0), K5, some (si cell), o, T] [some (row.map si)] := by
  induction n with
  | zero => intro lo row cell o hr hn h0 h; exact ⟨trivial, h row cell o hr (Nat.le_refl _)⟩
  | succ n ih =>
    intro lo row cell o hr hn h0 h
    rw [rgS_succ, forR_cons]
    refine ⟨trivial, ?_⟩
    unfold rd__law_deal_b1
    walk_at "fm"
    refine ⟨fun hp => ⟨by decide, by omega, cdiv_ok (n := 10) _ (by decide) (by unfold B; decide), ?_⟩, fun hp => ?_⟩
    · rw [map_app]
      refine ih _ _ _ _ (hr.app (Int.emod_nonneg _ (by decide)) (Int.emod_lt_of_pos _ (by decide))) (by simp; omega) (Int.ediv_nonneg h0 (by decide)) fun row' cell' o h1 h2 => h _ _ _ h1 ?_
      simp at h2
      omega
    · exact ih _ _ _ _ hr (by omega) h0 fun row' cell' o h1 h2 => h _ _ _ h1 (by omega)
theorem de2 {d : EndsD} {A K5 T : Option S} (n : Nat) : ∀ (lo : Int) (row : List Int) (cell : Int) (o : Option S), Rows row → row.length + n ≤ 10000 → B 60 cell →
    (∀ row' cell' o, Rows row' → row'.length ≤ row.length + n → d.nx [A, some (.ref 0), K5, some (si cell'), o, T] [some (row'.map si)]) →
    forR okT (dgName 4) rd__law_deal_b2 d (rgS lo n) [A, some (.ref 0), K5, some (si cell), o, T] [some (row.map si)] := by
  induction n with
  | zero => intro lo row cell o hr hn h0 h; exact ⟨trivial, h row cell o hr (Nat.le_refl _)⟩
  | succ n ih =>
    intro lo row cell o hr hn h0 h
    rw [rgS_succ, forR_cons]
    refine ⟨trivial, ?_⟩
    unfold rd__law_deal_b2
    walk_at "fm"
    refine ⟨h0.cm (m := 15) (by unfold B; decide), by decide, cdiv_ok (n := 3) _ (by decide) (by unfold B; decide), by decide, by omega, ?_⟩
    rw [map_app]
    have c0 := Int.emod_nonneg (cell * 16807 + 12345 + lo) (show (2147483647 : Int) ≠ 0 by decide)
    have c1 := Int.emod_lt_of_pos (cell * 16807 + 12345 + lo) (show (0 : Int) < 2147483647 by decide)
    refine ih _ _ _ _ (hr.app (Int.emod_nonneg _ (by decide)) (Int.emod_lt_of_pos _ (by decide))) (by simp; omega) (by unfold B; omega) fun row' cell' o h1 h2 => h _ _ _ h1 ?_
    simp at h2
    omega
theorem de3 {d : EndsD} {ns : List Int} {T : Option S} (n : Nat) : ∀ (lo : Nat) (row : List Int) (o2 o3 o4 : Option S), Rows row → row.length ≤ 40 * lo → lo + n ≤ 63 → lo + n ≤ ns.length →
    (∀ row' o2 o3 o4, Rows row' → row'.length ≤ 40 * (lo + n) → d.nx [some (.d (.list (ns.map PyData.int))), some (.ref 0), o2, o3, o4, T] [some (row'.map si)]) →
    forR okT (dgName 2) rd__law_deal_b3 d (rgS lo n) [some (.d (.list (ns.map PyData.int))), some (.ref 0), o2, o3, o4, T] [some (row.map si)] := by
  induction n with
  | zero => intro lo row o2 o3 o4 hr hl hn hs h; exact ⟨trivial, h row o2 o3 o4 hr (by omega)⟩
  | succ n ih =>
    intro lo row o2 o3 o4 hr hl hn hs h
    rw [rgS_succ, forR_cons]
    refine ⟨trivial, ?_⟩
    have hlt : lo < ns.length := by omega
    have next : ∀ row' o2 o3 o4, Rows row' → row'.length ≤ row.length + 40 → forR okT (dgName 2) rd__law_deal_b3 d (rgS ((lo : Int) + 1) n) [some (.d (.list (ns.map PyData.int))), some (.ref 0), o2, o3, o4, T] [some (row'.map si)] := fun row' o2 o3 o4 h1 h2 => by
      refine ih (lo + 1) row' o2 o3 o4 h1 (by omega) (by omega) (by omega) fun row' o2 o3 o4 h1 h2 => h _ _ _ _ h1 (by omega)
    generalize forR okT (dgName 2) rd__law_deal_b3 d (rgS ((lo : Int) + 1) n) = FR at next ⊢
    unfold rd__law_deal_b3
    walk_at "fm"
    refine ⟨.int ns[lo], atI_nat (by simp [hlt]), ?_⟩
    walk_at "fm"
    generalize ns[lo] = z
    have e : (if z < 0 then -z else z) = (z.natAbs : Int) := by split <;> omega
    rw [e]
    refine ⟨by unfold CPow; decide, fun hb => ⟨by decide, by decide, ?_⟩, fun hb => ?_⟩
    · refine de1 40 0 row _ _ hr (by omega) (by omega) fun row' cell' o h1 h2 => next _ _ _ _ h1 h2
    · have hb' : (z.natAbs : Int) < 10 ^ 18 := by
        have : (10 : Int) ^ Int.toNat 18 = 10 ^ 18 := rfl
        omega
      have bz : B 60 (z.natAbs : Int) := by unfold B; omega
      have c0 := Int.emod_nonneg (z.natAbs : Int) (show (2147483629 : Int) ≠ 0 by decide)
      have c1 := Int.emod_lt_of_pos (z.natAbs : Int) (show (0 : Int) < 2147483629 by decide)
      have bm : B 31 ((z.natAbs : Int) % 2147483629) := by unfold B; omega
      have bl : B 6 (lo : Int) := by unfold B; omega
      refine ⟨by decide, bm.cm (m := 16) (by unfold B; decide), bl.cm (m := 17) (by unfold B; decide), by decide, by decide, ?_⟩
      refine de2 5 0 row _ _ hr (by omega) ?_ fun row' cell' o h1 h2 => next _ _ _ _ h1 (by omega)
      unfold B
      omega
theorem m__law_deal : ∀ xs cs R, xs.length = 1 → Okc cs.length cs → T__law_deal xs cs R → rd__law_deal (endsD cs.length R) (startD 6 xs) cs := by
  rintro xs cs R hl hc ⟨rfl, ns, rfl, hn, h⟩
  unfold rd__law_deal
  walk_at "fm"
  rw [if_neg (show ¬ (63 : Int) < (ns.length : Int) by omega), Int.toNat_natCast]
  refine ⟨by omega, by omega, ?_⟩
  refine de3 ns.length 0 [] none none none (fun x hx => by simp at hx) (by simp) (by omega) (by omega) fun row o2 o3 o4 hr hl => ?_
  have hs := sum_b row hr
  walk_at "fm"
  refine ⟨row.map PyData.int, by simp, rt_l ?_⟩
  exact h row (row.sum + (ns.length : Int)) ⟨by omega, fun x hx => (hr x hx).1, by omega, by omega, by omega, by omega⟩
theorem sa_turns {d : EndsD} {cs : Sto} {ds : List PyData} {A Bq : S} {N : Nat} (hA : ∀ (i : Int) (R : RK), (∃ x, atI ds i = some x ∧ R (.d x) cs) → dIxR A (si i) cs R) (hB : ∀ (i : Int) (R : RK), (∃ x, atI ds i = some x ∧ R (.d x) cs) → dIxR Bq (si i) cs R)
    (hd : ∀ x ∈ ds, dOk N x = true) (n : Nat) : ∀ (lo : Nat) (o : Option S), lo + n = ds.length → (∀ o, d.nx [some A, some Bq, o] cs) →
    forR okT (dgName 2) (rd__law_same_b1 (T__law_sameN N)) d (rgS lo n) [some A, some Bq, o] cs := by
  induction n with
  | zero => intro lo o hl h; exact ⟨trivial, h o⟩
  | succ n ih =>
    intro lo o hl h
    rw [rgS_succ, forR_cons]
    refine ⟨trivial, ?_⟩
    have next := fun o => ih (lo + 1) o (by omega) h
    have el : ((lo + 1 : Nat) : Int) = (lo : Int) + 1 := by omega
    rw [el] at next
    generalize forR okT (dgName 2) (rd__law_same_b1 (T__law_sameN N)) d (rgS ((lo : Int) + 1) n) = FR at next ⊢
    have hlt : lo < ds.length := by omega
    have e : atI ds (lo : Int) = some ds[lo] := atI_nat (by simp [hlt])
    unfold rd__law_same_b1 T__law_sameN
    simp only [dIfS, dNot, dTru, dCall, dCons, dNil, dOp, dVar, getS, dgName, List.set_cons_succ, List.set_cons_zero, Option.some.injEq, exists_eq_left']
    refine hA _ _ ⟨_, e, hB _ _ ⟨_, e, ?_⟩⟩
    refine ⟨rfl, _, _, rfl, rfl, hd _ (List.getElem_mem hlt), ?_⟩
    walk_at "fm"
    exact next _
theorem cell_ref {n : Nat} {cs : Sto} {d : PyData} (h : cellL (.ref n) cs = some d) : ∃ ds, d = .list ds ∧ getC cs n = some (ds.map S.d) := by
  unfold cellL at h
  cases e : getC cs n with
  | none => simp [e] at h
  | some xs =>
    simp only [e] at h
    cases e2 : datas xs with
    | none => simp [e2] at h
    | some ds =>
      simp only [e2, Option.map_some, Option.some.injEq] at h
      exact ⟨ds, h.symm, by rw [datas_eq e2]⟩
theorem m__law_sameN (N : Nat) : ∀ xs cs R, xs.length = 2 → Okc cs.length cs → T__law_sameN (N + 1) xs cs R → rd__law_same (T__law_sameN N) (endsD cs.length R) (startD 3 xs) cs := by
  rintro xs cs R hl hc ⟨d, y, rfl, hy, hd, h⟩
  unfold rd__law_same
  cases y with
  | ref n =>
    obtain ⟨ds, rfl, e⟩ := cell_ref hy
    have hd' : ds.all (dOk N) = true ∧ ds.length ≤ 1000000 := by simpa [dOk] using hd
    have hx : ∃ xs, getC cs n = some xs := ⟨_, e⟩
    walk_at "fm"
    simp only [S.ref.injEq, forall_eq', hx, true_and, e, Option.some.injEq, exists_eq_left', List.length_map, forall_const]
    rw [Int.toNat_natCast]
    refine ⟨⟨_, rfl⟩, ⟨_, rfl⟩, ⟨_, rfl⟩, ⟨_, rfl⟩, fun z => absurd trivial z, by omega, by omega, ?_⟩
    refine sa_turns (A := .d (.list ds)) (Bq := .ref n) (ds := ds) (fun i R h => ?_) (fun i R h => ?_) (List.all_eq_true.mp hd'.1) ds.length 0 none (by omega) fun o => ?_
    · obtain ⟨x, e, q⟩ := h; exact ⟨i, x, rfl, e, q⟩
    · obtain ⟨x, e3, q⟩ := h
      refine ⟨i, _, .d x, rfl, e, ?_, q⟩
      unfold atI at e3 ⊢
      rw [List.length_map]
      cases e4 : ixN ds.length i with
      | none => rw [e4] at e3; cases e3
      | some j =>
        rw [e4] at e3
        have e5 : ds[j]? = some x := e3
        show (ds.map S.d)[j]? = some (.d x)
        rw [List.getElem?_map, e5]; rfl
    · walk_at "fm"
      exact rt_l h
  | d y =>
  cases hy
  cases d with
  | none => walk_at "fm"; exact rt_l h
  | bool b =>
    walk_at "fm"
    refine rt_l ?_
    simpa using h
  | int i => walk_at "fm"; exact rt_l h
  | str s => 
    walk_at "fm"
    refine rt_l ?_
    rw [eqv_ss]
    simpa using h
  | list ds =>
    have hd' : ds.all (dOk N) = true ∧ ds.length ≤ 1000000 := by simpa [dOk] using hd
    walk_at "fm"
    rw [Int.toNat_natCast]
    refine ⟨by omega, by omega, ?_⟩
    refine sa_turns (A := .d (.list ds)) (Bq := .d (.list ds)) (ds := ds) (fun i R h => ?_) (fun i R h => ?_) (List.all_eq_true.mp hd'.1) ds.length 0 none (by omega) fun o => ?_
    · obtain ⟨x, e, q⟩ := h; exact ⟨i, x, rfl, e, q⟩
    · obtain ⟨x, e, q⟩ := h; exact ⟨i, x, rfl, e, q⟩
    · walk_at "fm"
      exact rt_l h
  | tuple ds =>
    have hd' : ds.all (dOk N) = true ∧ ds.length ≤ 1000000 := by simpa [dOk] using hd
    walk_at "fm"
    rw [Int.toNat_natCast]
    refine ⟨by omega, by omega, ?_⟩
    refine sa_turns (A := .d (.tuple ds)) (Bq := .d (.tuple ds)) (ds := ds) (fun i R h => ?_) (fun i R h => ?_) (List.all_eq_true.mp hd'.1) ds.length 0 none (by omega) fun o => ?_
    · obtain ⟨x, e, q⟩ := h; exact ⟨i, x, rfl, e, q⟩
    · obtain ⟨x, e, q⟩ := h; exact ⟨i, x, rfl, e, q⟩
    · walk_at "fm"
      exact rt_l h
  | dict kvs => simp [dOk] at hd
theorem h__law_same0 : ∀ xs cs R, ¬ T__law_sameN 0 xs cs R := by
  rintro xs cs R ⟨d, y, _, _, h, _⟩
  cases h
end K44

set_option Elab.async false
set_option linter.all false
set_option maxRecDepth 100000
set_option maxHeartbeats 2000000
namespace K44
open PySem L2 FL FR
local macro_rules | `(tactic| walk_at "fl") => `(tactic| simp only [dSeq, dAsg, dgName, dVar, dC, dOp, dUn, dIxK, ixkR, itemsR, dTup, dLst, dCons, dNil, dCall, dCB, dIfS, dIf, dTestR, dTru, dTruR, dRet, dRetN, dNext, dDrop, dAnd, dOr, dNot, dAndV, dOrV, dNotV, dPar, dFor, dRg1, dRg2, dItems, dgTup, dgCons, dgNil, dZip, dZipR, dIsi, isTy, tgOf, tab, dApp, dgSub, dLstM, dVarF, dBreak, dCont, dSl, dSlR, dPart, dNoPart, dLcG, dChain, dAug, dEnum,
  qI, qI0, qNeg, qEq, qNe, qIsN, qNotN, isNone, eqOk, dIxR, cAbs, cInt, cLen, cSum, cMax2, cMin2, cTup, cList, cListM, eqv_ii, eqv_bb, kFro, kMut,
  endsD, sd1, sd2, sd3, getS, getC, datas, List.length_cons, List.length_nil, List.map_cons, List.map_nil, Option.map_some, List.set_cons_zero, List.set_cons_succ, List.replicate_succ, List.replicate_zero, List.getElem?_cons_zero, List.getElem?_cons_succ, List.cons_append, List.nil_append,
  Option.some.injEq, S.d.injEq, S.ref.injEq, PyData.int.injEq, PyData.bool.injEq, PyData.list.injEq, PyData.tuple.injEq, List.cons.injEq, and_true, true_and, exists_eq_left, exists_eq_left', exists_eq_right, exists_and_left, exists_and_right, exists_const, forall_const, imp_self, reduceCtorEq, false_and, and_false, decide_eq_true_eq, decide_eq_false_iff_not, Bool.not_eq_true', Bool.not_eq_false', ne_eq, Classical.not_not, Bool.true_eq_false, Bool.false_eq_true, Nat.reduceAdd, false_implies, true_implies, implies_true, sizeLine_eq, Nat.reduceLeDiff, decide_true, decide_false, Bool.not_true, Bool.not_false, decide_not])
local macro_rules | `(tactic| walk_at "fm") => `(tactic| simp only [rgS_len, wip, dSeq, ixk_l, ixk_t, ixk_r, ixr_l, ixr_t, ixr_s, ixr_r, tru_n, tru_b, tru_i, tru_l, tru_t, tru_s, tru_r, its_l, its_t, its_r, gtup_t, eqk_i, eqk_b, eqk_s, eqk_t, eqk_l, len_l, len_t, len_s, len_r, int_i, int_b, sum_l, sum_r, tup_l, tup_t, tup_r, lis_l, lis_t, lis_r, lim_l, lim_t, lim_r, zip_t, zip_l, sl_l, sl_t, sl_r, dAsg, dgName, dVar, dC, dOp, dUn, dIxK, dTup, dLst, dCons, dNil, dCall, dCB, dIfS, dIf, dTestR, dTru, dRet, dRetN, dNext, dDrop, dAnd, dOr, dNot, dAndV, dOrV, dNotV, dPar, dFor, dRg1, dRg2, dItems, dgCons, dgNil, dZip, dIsi, isTy, tgOf, tab, dApp, dgSub, dLstM, dVarF, dBreak, dCont, dSl, dPart, dNoPart, dLcG, dChain, dAug, dEnum,
  qI, qI0, qNeg, qEq, qNe, qIsN, qNotN, isNone, qIsB, qNotB, isB, addl_i, addl_t, addl_l, cAbs, cMax2, cMin2, eqv_ii, eqv_bb, kFro, kMut,
  endsD, sd1, sd2, sd3, sd4, sd5, dParN, dRep, dEnumT, mx1_l, mx1_r, qEqC, qNeC, qAddC, getS, getC, datas, List.length_cons, List.length_nil, List.map_cons, List.map_nil, Option.map_some, List.set_cons_zero, List.set_cons_succ, List.replicate_succ, List.replicate_zero, List.getElem?_cons_zero, List.getElem?_cons_succ, List.cons_append, List.nil_append,
  Option.some.injEq, S.d.injEq, S.ref.injEq, PyData.int.injEq, PyData.bool.injEq, PyData.list.injEq, PyData.tuple.injEq, List.cons.injEq, and_true, true_and, exists_eq_left, exists_eq_left', exists_eq_right, exists_and_left, exists_and_right, exists_const, exists_eq', exists_eq, ixk_enc0, ixk_enc1, not_true_eq_false, not_false_eq_true, and_self, enc_eq, dOk_enc, dOk_int, eqv_enc, datas_si, datas_map, intsOf_map, and_assoc, List.length_map, List.length_append, forall_const, imp_self, reduceCtorEq, false_and, and_false, decide_eq_true_eq, decide_eq_false_iff_not, Bool.not_eq_true', Bool.not_eq_false', ne_eq, Classical.not_not, Bool.true_eq_false, Bool.false_eq_true, Nat.reduceAdd, false_implies, true_implies, implies_true, sizeLine_eq, Nat.reduceLeDiff, decide_true, decide_false, Bool.not_true, Bool.not_false, decide_not])
theorem zw_map {α β γ : Type} (f : α → β → γ) : ∀ (as : List α) (bs : List β), List.zipWith f as bs = (as.zip bs).map fun p => f p.1 p.2
  | [], _ => by simp
  | _ :: _, [] => by simp
  | a :: as, b :: bs => by simp [zw_map f as bs]
theorem pair_low {p q : Int} (h : low p q = true) : PyData.tuple [.int p, .int q] = encR (Rat.divInt p q) ∧ 0 < q := by
  unfold low at h
  simp only [Bool.and_eq_true, decide_eq_true_eq] at h
  have hq : 0 < q := by omega
  refine ⟨?_, hq⟩
  unfold encR
  rw [← num_is hq, ← den_is hq, h.2]
  simp
theorem m_are_units : ∀ xs cs R, xs.length = 2 → Okc cs.length cs → T_are_units xs cs R → rd_are_units (endsD cs.length R) (startD 3 xs) cs := by
  rintro xs cs R hl hc ⟨n, ps, rfl, hb, hn, h⟩
  unfold rd_are_units
  walk_at "fm"
  refine ⟨fun hne => rt_l ?_, fun he => ?_⟩
  · rw [decide_eq_false hne, Bool.false_and] at h
    exact h
  · rw [map_d]
    refine ⟨Nat.le_trans hn (by decide), comp_flt _ (fun p => !isUnit p) (fun _ => si 1) trivial _ _ (fun p hp Y Nn hy hnn => ?_) ⟨_, datas_fn _ _, rt_l ?_⟩⟩
    · obtain ⟨a, b⟩ := p
      have hpb := hb _ hp
      unfold rd_are_units_t1 rd_are_units_e1 T_is_ratio T_compare spanD
      walk_at "fm"
      unfold isUnit at hy hnn
      simp only at hy hnn hpb
      by_cases hlw : low a b = true
      · obtain ⟨e, hq⟩ := pair_low hlw
        have rb : RB 3000 (Rat.divInt a b) := (divInt_b (by omega) hpb.1 hpb.2).mono (by decide)
        have enum : (Rat.divInt a b).num = a := by
          unfold low at hlw
          simp only [Bool.and_eq_true, decide_eq_true_eq] at hlw
          rw [← num_is hq, hlw.2]; simp
        have e0 : cmpR (Rat.divInt a b) 0 = if a < 0 then -1 else if 0 < a then 1 else 0 := by
          rw [cmp_is, enum]
          simp
        rw [hlw] at hy hnn ⊢
        rw [Bool.true_and] at hy hnn
        refine ⟨(fun z => by cases z), fun _ => ⟨_, e, 0, rfl, rb, RB.mono (n := 1) ⟨by decide, by decide⟩ (by decide), ?_, ?_⟩⟩
        · rw [e0]
          intro hlt
          refine hy ?_
          have : ¬ 0 < a := fun h0 => by
            rw [if_neg (by omega), if_pos h0] at hlt
            omega
          simp [this]
        · rw [e0]
          intro hlt
          refine hnn ?_
          have : 0 < a := by
            by_cases h1 : a < 0
            · rw [if_pos h1] at hlt; omega
            · by_cases h2 : 0 < a
              · exact h2
              · rw [if_neg h1, if_neg h2] at hlt; omega
          simp [this]
      · have hf : low a b = false := by simpa using hlw
        rw [hf] at hy ⊢
        exact ⟨fun _ => hy rfl, fun z => by cases z⟩
    · have e1 : decide ((((ps.filter fun p => !isUnit p).map fun _ => PyData.int 1).length : Int) = 0) = ps.all isUnit := by
        rw [List.length_map]
        by_cases ha : ps.all isUnit = true
        · have : ps.filter (fun p => !isUnit p) = [] := List.filter_eq_nil_iff.mpr fun p hp => by
            have := List.all_eq_true.mp ha p hp
            simp [this]
          rw [this, ha]; rfl
        · have : ps.filter (fun p => !isUnit p) ≠ [] := fun z => ha (List.all_eq_true.mpr fun p hp => by
            have := List.filter_eq_nil_iff.mp z p hp
            simpa using this)
          have hp := List.length_pos_iff.mpr this
          rw [show ps.all isUnit = false by simpa using ha]
          exact decide_eq_false (by omega)
      rw [decide_eq_true he, Bool.true_and] at h
      rw [e1]
      exact h
theorem flt0 {α : Type} (l : List α) : l.filter (fun _ => false) = [] := by simp
theorem len_flt {α β : Type} (l : List α) (p : α → Bool) (f : α → β) : decide ((((l.filter p).map f).length : Int) = 0) = !(l.any p) := by
  rw [List.length_map]
  by_cases h : l.any p = true
  · rw [h]
    obtain ⟨x, hx, e⟩ := List.any_eq_true.mp h
    have := List.length_pos_of_mem (List.mem_filter.mpr ⟨hx, e⟩)
    exact decide_eq_false (by omega)
  · have h' : l.any p = false := by simpa using h
    have : l.filter p = [] := List.filter_eq_nil_iff.mpr fun x hx e => h (List.any_eq_true.mpr ⟨x, hx, e⟩)
    rw [h', this]; rfl
theorem len_flt' {α β : Type} (l : List α) (p : α → Bool) (f : α → β) : (((l.filter p).map f).length : Int) > 0 ↔ l.any p = true := by
  have h := len_flt l p f
  cases hb : l.any p with
  | true =>
    rw [hb] at h
    have h0 : ¬ (((l.filter p).map f).length : Int) = 0 := of_decide_eq_false h
    exact ⟨fun _ => rfl, fun _ => by omega⟩
  | false =>
    rw [hb] at h
    have h0 : (((l.filter p).map f).length : Int) = 0 := of_decide_eq_true h
    exact ⟨fun z => absurd z (by omega), fun z => by cases z⟩
theorem gtup_span {w : Int × Int} {gs : TGsD} {ρ : Ev} {cs : Sto} {RG : Ev → Sto → Prop} : dgTup 2 gs (.d (spanD w)) ρ cs RG = gs [si w.1, si w.2] ρ cs RG := propext ⟨fun h => h.2, fun h => ⟨rfl, h⟩⟩
theorem m_is_inside : ∀ xs cs R, xs.length = 2 → Okc cs.length cs → T_is_inside xs cs R → rd_is_inside (endsD cs.length R) (startD 6 xs) cs := by
  rintro xs cs R hl hc ⟨E, F, rfl, hn, h⟩
  unfold rd_is_inside bxD
  walk_at "fm"
  rw [zipD_fn]
  have hz : (E.zip F).length ≤ 4 := by rw [List.length_zip]; omega
  refine ⟨by rw [List.length_map]; omega, comp_flt _ outOf (fun _ => si 1) trivial _ _ (fun p hp Y Nn hy hnn => ?_) ⟨_, datas_fn _ _, rt_l ?_⟩⟩
  · obtain ⟨⟨a, b⟩, ⟨c, e⟩⟩ := p
    unfold rd_is_inside_t1 rd_is_inside_e1 spanD
    unfold outOf at hy hnn
    walk_at "fm"
    simp only [Bool.or_eq_true, decide_eq_true_eq, Bool.or_eq_false_iff, decide_eq_false_iff_not] at hy hnn
    refine ⟨fun h1 => hy (.inl h1), fun h1 => ⟨fun h2 => hy (.inr h2), fun h2 => hnn ⟨h1, h2⟩⟩⟩
  · rw [List.length_map] at *
    have := len_flt (E.zip F) outOf (fun _ => PyData.int 1)
    rw [List.length_map] at this
    rw [this]
    exact h
theorem m_read_box : ∀ xs cs R, xs.length = 2 → Okc cs.length cs → T_read_box xs cs R → rd_read_box (endsD cs.length R) (startD 5 xs) cs := by
  rintro xs cs R hl hc ⟨a, rs, rfl, hn, h⟩
  unfold rd_read_box bxD intsD
  walk_at "fm"
  rw [zipD_fn]
  refine ⟨by rw [List.length_map, List.length_zip]; omega, comp_map _ (fun p => .d (spanD (p.2 - p.1.1, p.2 + p.1.2))) trivial _ _ (fun p hp R hR => ?_) ⟨_, datas_fn _ _, rt_l ?_⟩⟩
  · unfold rd_read_box_e1 spanD
    walk_at "fm"
    exact hR
  · unfold readB bxD at h
    rw [zw_map, List.map_map] at h
    exact h
theorem m_gone_on : ∀ xs cs R, xs.length = 2 → Okc cs.length cs → T_gone_on xs cs R → rd_gone_on (endsD cs.length R) (startD 6 xs) cs := by
  rintro xs cs R hl hc ⟨E, o, rfl, hn, h⟩
  unfold rd_gone_on bxD
  walk_at "fm"
  rw [zipD_fn]
  refine ⟨by rw [List.length_map, List.length_zip]; omega, comp_map _ (fun p => .d (spanD (p.1.1 + p.2.1, p.1.2 + p.2.2))) trivial _ _ (fun p hp R hR => ?_) ⟨_, datas_fn _ _, rt_l ?_⟩⟩
  · unfold rd_gone_on_e1 spanD
    walk_at "fm"
    exact hR
  · unfold gone bxD at h
    rw [zw_map, List.map_map] at h
    exact h
theorem m_met_boxes : ∀ xs cs R, xs.length = 2 → Okc cs.length cs → T_met_boxes xs cs R → rd_met_boxes (endsD cs.length R) (startD 9 xs) cs := by
  rintro xs cs R hl hc ⟨E, F, rfl, hn, h⟩
  unfold rd_met_boxes
  refine stp fun T hT => ?_
  unfold bxD
  walk_at "fm"
  rw [zipD_fn]
  have hz : (E.zip F).length ≤ 4 := by rw [List.length_zip]; omega
  refine ⟨by rw [List.length_map]; omega, comp_map _ (fun p => .d (spanD (if p.2.1 > p.1.1 then p.2.1 else p.1.1, if p.2.2 < p.1.2 then p.2.2 else p.1.2))) trivial _ _ (fun p hp R hR => ?_) ⟨_, datas_fn _ _, ?_⟩⟩
  · unfold rd_met_boxes_e1 spanD
    walk_at "fm"
    exact hR
  · have e : PyData.tuple ((E.zip F).map fun p => spanD (if p.2.1 > p.1.1 then p.2.1 else p.1.1, if p.2.2 < p.1.2 then p.2.2 else p.1.2)) = .tuple ((met E F).map spanD) := by
      unfold met
      rw [zw_map, List.map_map]; rfl
    rw [e, hT]
    have ml : (met E F).length ≤ 4 := by unfold met; rw [List.length_zipWith]; omega
    generalize met E F = M at *
    walk_at "fm"
    rw [map_d]
    refine ⟨by omega, comp_flt _ (fun w => decide (w.1 > w.2)) (fun _ => si 1) trivial _ _ (fun p hp Y Nn hy hnn => ?_) ⟨_, datas_fn _ _, fun q => rt_l ?_, fun q => rt_l ?_⟩⟩
    · unfold rd_met_boxes_t1 rd_met_boxes_e2
      rw [gtup_span]
      walk_at "fm"
      simp only [decide_eq_true_eq, decide_eq_false_iff_not] at hy hnn
      exact ⟨hy, hnn⟩
    · have := (len_flt' M _ _).mp q
      rw [if_pos (show emp M = true from this)] at h
      exact h
    · have : ¬ emp M = true := fun z => q ((len_flt' M _ _).mpr z)
      rw [if_neg this] at h
      exact h
theorem m_is_number : ∀ xs cs R, xs.length = 1 → Okc cs.length cs → T_is_number xs cs R → rd_is_number (endsD cs.length R) (startD 1 xs) cs := by
  rintro xs cs R hl hc ⟨i, rfl, h⟩
  unfold rd_is_number
  walk_at "fm"
  exact rt_l h
theorem m_is_pair : ∀ xs cs R, xs.length = 1 → Okc cs.length cs → T_is_pair xs cs R → rd_is_pair (endsD cs.length R) (startD 1 xs) cs := by
  rintro xs cs R hl hc ⟨w, rfl, h⟩
  unfold rd_is_pair spanD T_is_number
  walk_at "fm"
  exact ⟨fun _ => rt_l h, fun z => absurd rfl z⟩
theorem m_are_pairs : ∀ xs cs R, xs.length = 2 → Okc cs.length cs → T_are_pairs xs cs R → rd_are_pairs (endsD cs.length R) (startD 3 xs) cs := by
  rintro xs cs R hl hc ⟨E, rfl, hn, h⟩
  unfold rd_are_pairs bxD
  walk_at "fm"
  rw [map_d]
  refine ⟨by omega, comp_flt _ (fun _ => false) (fun _ => si 1) trivial _ _ (fun p hp Y Nn hy hnn => ?_) ?_⟩
  · unfold rd_are_pairs_t1 rd_are_pairs_e1 T_is_pair
    walk_at "fm"
    exact ⟨⟨p, rfl⟩, hnn rfl⟩
  · rw [flt0]; exact ⟨[], rfl, rt_l h⟩
theorem m_are_risen : ∀ xs cs R, xs.length = 1 → Okc cs.length cs → T_are_risen xs cs R → rd_are_risen (endsD cs.length R) (startD 3 xs) cs := by
  rintro xs cs R hl hc ⟨E, rfl, hn, hr, h⟩
  unfold rd_are_risen bxD
  walk_at "fm"
  rw [map_d]
  refine ⟨by omega, comp_flt _ (fun _ => false) (fun _ => si 1) trivial _ _ (fun p hp Y Nn hy hnn => ?_) ?_⟩
  · unfold rd_are_risen_t1 rd_are_risen_e1
    rw [gtup_span]
    walk_at "fm"
    have := hr p hp
    exact ⟨fun z => absurd z (by omega), fun _ => hnn rfl⟩
  · rw [flt0]; exact ⟨[], rfl, rt_l h⟩
theorem m_is_whole_test : ∀ xs cs R, xs.length = 2 → Okc cs.length cs → T_is_whole_test xs cs R → rd_is_whole_test (endsD cs.length R) (startD 3 xs) cs := by
  rintro xs cs R hl hc ⟨⟨fs, v⟩, rfl, hn, h⟩
  unfold rd_is_whole_test testD T_is_number
  simp only at hn
  walk_at "fm"
  rw [map_d]
  refine ⟨fun z => absurd rfl z, fun _ => ⟨by omega, comp_flt _ (fun _ => false) (fun _ => si 1) trivial _ _ (fun p hp Y Nn hy hnn => ?_) ?_⟩⟩
  · unfold rd_is_whole_test_t1 rd_is_whole_test_e1 T_is_number
    walk_at "fm"
    exact hnn rfl
  · rw [flt0]; exact ⟨[], rfl, rt_l h⟩
theorem m_is_whole_row : ∀ xs cs R, xs.length = 3 → Okc cs.length cs → T_is_whole_row xs cs R → rd_is_whole_row (endsD cs.length R) (startD 4 xs) cs := by
  rintro xs cs R hl hc ⟨n, c, ⟨ts, k⟩, rfl, ⟨h1, h2, h3, h4⟩, hn, h⟩
  unfold rd_is_whole_row rowD T_is_number
  simp only at h1 h2 h3 h4
  walk_at "fm"
  rw [map_d]
  refine ⟨fun z => absurd rfl z, fun _ => ⟨fun _ => ⟨fun z => absurd h4 z, fun _ => ⟨by omega, comp_flt _ (fun _ => false) (fun _ => si 1) trivial _ _ (fun p hp Y Nn hy hnn => ?_) ?_⟩⟩, fun z => absurd h3 z⟩⟩
  · unfold rd_is_whole_row_t1 rd_is_whole_row_e1 T_is_whole_test
    have := h2 p hp
    have e := this.1
    walk_at "fm"
    exact ⟨p, by rw [e], rfl, by omega, hnn rfl⟩
  · rw [flt0]; exact ⟨[], rfl, rt_l h⟩
end K44

set_option Elab.async false
set_option linter.all false
set_option maxRecDepth 100000
set_option maxHeartbeats 2000000
namespace K44
open PySem L2 FL FR
local macro_rules | `(tactic| walk_at "fl") => `(tactic| simp only [dSeq, dAsg, dgName, dVar, dC, dOp, dUn, dIxK, ixkR, itemsR, dTup, dLst, dCons, dNil, dCall, dCB, dIfS, dIf, dTestR, dTru, dTruR, dRet, dRetN, dNext, dDrop, dAnd, dOr, dNot, dAndV, dOrV, dNotV, dPar, dFor, dRg1, dRg2, dItems, dgTup, dgCons, dgNil, dZip, dZipR, dIsi, isTy, tgOf, tab, dApp, dgSub, dLstM, dVarF, dBreak, dCont, dSl, dSlR, dPart, dNoPart, dLcG, dChain, dAug, dEnum,
  qI, qI0, qNeg, qEq, qNe, qIsN, qNotN, isNone, eqOk, dIxR, cAbs, cInt, cLen, cSum, cMax2, cMin2, cTup, cList, cListM, eqv_ii, eqv_bb, kFro, kMut,
  endsD, sd1, sd2, sd3, getS, getC, datas, List.length_cons, List.length_nil, List.map_cons, List.map_nil, Option.map_some, List.set_cons_zero, List.set_cons_succ, List.replicate_succ, List.replicate_zero, List.getElem?_cons_zero, List.getElem?_cons_succ, List.cons_append, List.nil_append,
  Option.some.injEq, S.d.injEq, S.ref.injEq, PyData.int.injEq, PyData.bool.injEq, PyData.list.injEq, PyData.tuple.injEq, List.cons.injEq, and_true, true_and, exists_eq_left, exists_eq_left', exists_eq_right, exists_and_left, exists_and_right, exists_const, forall_const, imp_self, reduceCtorEq, false_and, and_false, decide_eq_true_eq, decide_eq_false_iff_not, Bool.not_eq_true', Bool.not_eq_false', ne_eq, Classical.not_not, Bool.true_eq_false, Bool.false_eq_true, Nat.reduceAdd, false_implies, true_implies, implies_true, sizeLine_eq, Nat.reduceLeDiff, decide_true, decide_false, Bool.not_true, Bool.not_false, decide_not])
local macro_rules | `(tactic| walk_at "fm") => `(tactic| simp only [rgS_len, wip, dSeq, ixk_l, ixk_t, ixk_r, ixr_l, ixr_t, ixr_s, ixr_r, tru_n, tru_b, tru_i, tru_l, tru_t, tru_s, tru_r, its_l, its_t, its_r, gtup_t, eqk_i, eqk_b, eqk_s, eqk_t, eqk_l, len_l, len_t, len_s, len_r, int_i, int_b, sum_l, sum_r, tup_l, tup_t, tup_r, lis_l, lis_t, lis_r, lim_l, lim_t, lim_r, zip_t, zip_l, sl_l, sl_t, sl_r, dAsg, dgName, dVar, dC, dOp, dUn, dIxK, dTup, dLst, dCons, dNil, dCall, dCB, dIfS, dIf, dTestR, dTru, dRet, dRetN, dNext, dDrop, dAnd, dOr, dNot, dAndV, dOrV, dNotV, dPar, dFor, dRg1, dRg2, dItems, dgCons, dgNil, dZip, dIsi, isTy, tgOf, tab, dApp, dgSub, dLstM, dVarF, dBreak, dCont, dSl, dPart, dNoPart, dLcG, dChain, dAug, dEnum,
  qI, qI0, qNeg, qEq, qNe, qIsN, qNotN, isNone, qIsB, qNotB, isB, addl_i, addl_t, addl_l, cAbs, cMax2, cMin2, eqv_ii, eqv_bb, kFro, kMut,
  endsD, sd1, sd2, sd3, sd4, sd5, dParN, dRep, dEnumT, mx1_l, mx1_r, qEqC, qNeC, qAddC, getS, getC, datas, List.length_cons, List.length_nil, List.map_cons, List.map_nil, Option.map_some, List.set_cons_zero, List.set_cons_succ, List.replicate_succ, List.replicate_zero, List.getElem?_cons_zero, List.getElem?_cons_succ, List.cons_append, List.nil_append,
  Option.some.injEq, S.d.injEq, S.ref.injEq, PyData.int.injEq, PyData.bool.injEq, PyData.list.injEq, PyData.tuple.injEq, List.cons.injEq, and_true, true_and, exists_eq_left, exists_eq_left', exists_eq_right, exists_and_left, exists_and_right, exists_const, exists_eq', exists_eq, ixk_enc0, ixk_enc1, not_true_eq_false, not_false_eq_true, and_self, enc_eq, dOk_enc, dOk_int, eqv_enc, datas_si, datas_map, intsOf_map, and_assoc, List.length_map, List.length_append, forall_const, imp_self, reduceCtorEq, false_and, and_false, decide_eq_true_eq, decide_eq_false_iff_not, Bool.not_eq_true', Bool.not_eq_false', ne_eq, Classical.not_not, Bool.true_eq_false, Bool.false_eq_true, Nat.reduceAdd, false_implies, true_implies, implies_true, sizeLine_eq, Nat.reduceLeDiff, decide_true, decide_false, Bool.not_true, Bool.not_false, decide_not])
theorem m_are_phases : ∀ xs cs R, xs.length = 4 → Okc cs.length cs → T_are_phases xs cs R → rd_are_phases (endsD cs.length R) (startD 7 xs) cs := by
  rintro xs cs R hl hc ⟨n, m, c, t, rfl, ht, hn, h1, h4, h⟩
  unfold rd_are_phases tabsD
  walk_at "fm"
  rw [map_d]
  refine ⟨fun _ => ⟨fun z => absurd (show (t.length : Int) ≤ 1000 by omega) z, fun _ => ?_⟩, fun z => absurd (show (1 : Int) ≤ t.length by omega) z⟩
  refine for_all (fun ph => S.d (phD ph)) (fun as ρ cs' => cs' = cs ∧ (∀ ph ∈ as, PhOk n m c ph) ∧ ∃ D o4 o5 o6, ρ = [some (si (n : Int)), some (si (m : Int)), some (si (c : Int)), D, o4, o5, o6]) (fun _ _ _ _ => trivial) ?_ ?_ t _ _ ⟨rfl, ht, _, _, _, _, rfl⟩
  · rintro ρ cs' ⟨rfl, _, D, o4, o5, o6, rfl⟩
    walk_at "fm"
    exact rt_l h
  · rintro ph as ρ cs' ⟨rfl, hp, D, o4, o5, o6, rfl⟩ Z hz
    have hph := hp ph List.mem_cons_self
    have hl := hph.1
    unfold rd_are_phases_b2 phD
    walk_at "fm"
    rw [map_d]
    refine ⟨fun z => absurd (by omega) z, fun _ => ?_⟩
    refine for_all (fun tb => S.d (tabD tb)) (fun as' ρ cs'' => cs'' = cs' ∧ (∀ tb ∈ as', TabOk n c tb) ∧ ∃ o4 o5 o6, ρ = [some (si (n : Int)), some (si (m : Int)), some (si (c : Int)), D, o4, o5, o6]) (fun _ _ _ _ => trivial) ?_ ?_ ph _ _ ⟨rfl, hph.2, _, _, _, rfl⟩
    · rintro ρ cs'' ⟨rfl, _, o4, o5, o6, rfl⟩
      exact hz _ _ ⟨rfl, fun x hx => hp x (List.mem_cons_of_mem _ hx), _, _, _, _, rfl⟩
    · rintro tb as' ρ cs'' ⟨rfl, ht, o4, o5, o6, rfl⟩ Z' hz'
      have htb := ht tb List.mem_cons_self
      have htl := htb.1
      unfold rd_are_phases_b1 tabD
      walk_at "fm"
      rw [map_d]
      refine ⟨by omega, comp_flt _ (fun _ => false) (fun _ => si 1) trivial _ _ (fun p hp Y Nn hy hnn => ?_) ?_⟩
      · unfold rd_are_phases_t1 rd_are_phases_e1 T_is_whole_row
        walk_at "fm"
        exact ⟨n, rfl, c, rfl, p, rfl, htb.2 p hp, hn, hnn rfl⟩
      · rw [flt0]
        exact ⟨[], rfl, fun z => absurd z (by simp), fun _ => hz' _ _ ⟨rfl, fun x hx => ht x (List.mem_cons_of_mem _ hx), _, _, _, rfl⟩⟩
theorem m_are_offsets : ∀ xs cs R, xs.length = 4 → Okc cs.length cs → T_are_offsets xs cs R → rd_are_offsets (endsD cs.length R) (startD 7 xs) cs := by
  rintro xs cs R hl hc ⟨n, m, c, t, rfl, ht, hm, hn, hm4, h⟩
  unfold rd_are_offsets offsD
  walk_at "fm"
  rw [map_d]
  refine ⟨fun z => absurd (by omega) z, fun _ => ?_⟩
  refine for_all (fun r => S.d (cmdD r)) (fun as ρ cs' => cs' = cs ∧ (∀ r ∈ as, CmdOk n m c r) ∧ ∃ D o4 o5 o6, ρ = [some (si (n : Int)), some (si (m : Int)), some (si (c : Int)), D, o4, o5, o6]) (fun _ _ _ _ => trivial) ?_ ?_ t _ _ ⟨rfl, ht, _, _, _, _, rfl⟩
  · rintro ρ cs' ⟨rfl, _, D, o4, o5, o6, rfl⟩
    walk_at "fm"
    exact rt_l h
  · rintro r as ρ cs' ⟨rfl, hp, D, o4, o5, o6, rfl⟩ Z hz
    have hph := hp r List.mem_cons_self
    have hl := hph.1
    unfold rd_are_offsets_b2 cmdD
    walk_at "fm"
    rw [map_d]
    refine ⟨fun z => absurd (by omega) z, fun _ => ?_⟩
    refine for_all (fun w => S.d (wayD w)) (fun as' ρ cs'' => cs'' = cs' ∧ (∀ w ∈ as', WayOk n m w) ∧ ∃ o4 o5 o6, ρ = [some (si (n : Int)), some (si (m : Int)), some (si (c : Int)), D, o4, o5, o6]) (fun _ _ _ _ => trivial) ?_ ?_ r _ _ ⟨rfl, hph.2, _, _, _, rfl⟩
    · rintro ρ cs'' ⟨rfl, _, o4, o5, o6, rfl⟩
      exact hz _ _ ⟨rfl, fun x hx => hp x (List.mem_cons_of_mem _ hx), _, _, _, _, rfl⟩
    · rintro w as' ρ cs'' ⟨rfl, ht, o4, o5, o6, rfl⟩ Z' hz'
      have htb := ht w List.mem_cons_self
      have htl := htb.1
      unfold rd_are_offsets_b1 wayD
      walk_at "fm"
      rw [map_d]
      refine ⟨fun z => absurd (by omega) z, fun _ => ⟨by omega, comp_flt _ (fun _ => false) (fun _ => si 1) trivial _ _ (fun p hp Y Nn hy hnn => ?_) ?_⟩⟩
      · unfold rd_are_offsets_t1 rd_are_offsets_e1 T_are_pairs
        cases p with
        | none =>
          unfold oD
          walk_at "fm"
          exact hnn rfl
        | some b =>
          have hb := (htb.2 _ hp b rfl).1
          unfold oD bxD
          walk_at "fm"
          exact ⟨b, by rw [hb], rfl, by omega, hnn rfl⟩
      · rw [flt0]
        exact ⟨[], rfl, fun z => absurd z (by simp), fun _ => hz' _ _ ⟨rfl, fun x hx => ht x (List.mem_cons_of_mem _ hx), _, _, _, rfl⟩⟩
theorem m_are_boxes : ∀ xs cs R, xs.length = 4 → Okc cs.length cs → T_are_boxes xs cs R → rd_are_boxes (endsD cs.length R) (startD 5 xs) cs := by
  rintro xs cs R hl hc ⟨n, m, bs, b, rfl, hn, hm, hb, ho, h⟩
  unfold rd_are_boxes
  walk_at "fm"
  rw [map_d]
  refine ⟨fun z => absurd (by omega) z, fun _ => ?_⟩
  refine for_all (fun o => S.d (oD bxD o)) (fun as ρ cs' => cs' = cs ∧ (∀ o ∈ as, o ∈ bs) ∧ ∃ D o4, ρ = [some (si (n : Int)), some (si (m : Int)), D, some (sb b), o4]) (fun _ _ _ _ => trivial) ?_ ?_ bs _ _ ⟨rfl, fun o h => h, _, _, rfl⟩
  · rintro ρ cs' ⟨rfl, _, D, o4, rfl⟩
    walk_at "fm"
    exact rt_l h
  · rintro o as ρ cs' ⟨rfl, hp, D, o4, rfl⟩ Z hz
    have hm := hp o List.mem_cons_self
    have nx := hz _ _ ⟨rfl, fun x hx => hp x (List.mem_cons_of_mem _ hx), D, some (S.d (oD bxD o)), rfl⟩
    unfold rd_are_boxes_b1 T_are_pairs T_are_risen
    cases o with
    | none =>
      unfold oD at nx ⊢
      walk_at "fm"
      cases b with
      | false => exact absurd rfl (hb rfl _ hm)
      | true => exact ⟨fun z => by simp at z, fun _ => nx⟩
    | some E =>
      obtain ⟨h1, h2⟩ := ho _ hm E rfl
      unfold oD bxD at *
      walk_at "fm"
      exact ⟨E, by rw [h1], rfl, by omega, E, rfl, by omega, h2, nx⟩
theorem m_are_unit_pairs : ∀ xs cs R, xs.length = 1 → Okc cs.length cs → T_are_unit_pairs xs cs R → rd_are_unit_pairs (endsD cs.length R) (startD 2 xs) cs := by
  rintro xs cs R hl hc ⟨us, rfl, h1, h3, hu, h⟩
  unfold rd_are_unit_pairs bxD
  refine stp fun T hT => ?_
  walk_at "fm"
  rw [map_d]
  refine ⟨fun _ => ⟨fun z => absurd (show (us.length : Int) ≤ 3 by omega) z, fun _ => ⟨by omega, comp_flt _ (fun _ => false) (fun _ => si 1) trivial _ _ (fun p hp Y Nn hy hnn => ?_) ?_⟩⟩, fun z => absurd (show (1 : Int) ≤ us.length by omega) z⟩
  · unfold rd_are_unit_pairs_t1 rd_are_unit_pairs_e1 T_is_pair
    walk_at "fm"
    exact ⟨⟨p, rfl⟩, hnn rfl⟩
  · rw [flt0]
    refine ⟨[], rfl, fun z => absurd z (by simp), fun _ => ?_⟩
    rw [hT]
    unfold T_are_units
    walk_at "fm"
    refine ⟨us, rfl, fun p hp => (hu p hp).2, by omega, rt_l ?_⟩
    have e : us.all isUnit = true := List.all_eq_true.mpr fun u hm => (hu u hm).1
    rw [e]
    simpa using h
theorem ms_cases {m s : Nat} (h : s < m) (h4 : m ≤ 4) : (m = 1 ∧ s = 0) ∨ (m = 2 ∧ s = 0) ∨ (m = 2 ∧ s = 1) ∨ (m = 3 ∧ s = 0) ∨ (m = 3 ∧ s = 1) ∨ (m = 3 ∧ s = 2) ∨ (m = 4 ∧ s = 0) ∨ (m = 4 ∧ s = 1) ∨ (m = 4 ∧ s = 2) ∨ (m = 4 ∧ s = 3) := by omega
theorem firsts_one {m s : Nat} (E : Bx) (h : s < m) (h4 : m ≤ 4) : (((List.range m).map fun q => if q = s then some E else none).filter Option.isSome).length = 1 := by
  rcases ms_cases h h4 with ⟨rfl, rfl⟩ | ⟨rfl, rfl⟩ | ⟨rfl, rfl⟩ | ⟨rfl, rfl⟩ | ⟨rfl, rfl⟩ | ⟨rfl, rfl⟩ | ⟨rfl, rfl⟩ | ⟨rfl, rfl⟩ | ⟨rfl, rfl⟩ | ⟨rfl, rfl⟩ <;> rfl
theorem m_is_fixed_pilot : ∀ xs cs R, xs.length = 1 → Okc cs.length cs → T_is_fixed_pilot xs cs R → rd_is_fixed_pilot (endsD cs.length R) (startD 6 xs) cs := by
  rintro xs cs R hl hc ⟨n, m, c, p, s, E, P, rfl, ok, h⟩
  unfold rd_is_fixed_pilot
  have hm1 := ok.m1
  have hn3 := ok.n3
  have hn1 := ok.n1
  have hm4 := ok.m4
  have hc1 := ok.c1
  have hc4 := ok.c4
  obtain ⟨r0, rs, eo⟩ : ∃ r0 rs, P.offs = r0 :: rs := by
    cases e : P.offs with
    | nil => have := ok.ol; rw [e] at this; simp at this; omega
    | cons a b => exact ⟨a, b, rfl⟩
  have hr0 := ok.oo r0 (by rw [eo]; exact List.mem_cons_self)
  have hrl : (rs.length : Int) + 1 = m := by
    have := ok.ol
    rw [eo, List.length_cons] at this
    omega
  refine stp fun T hT => ?_
  unfold pilD T_are_unit_pairs
  walk_at "fm"
  refine ⟨fun z => absurd rfl z, fun _ => ⟨P.units, rfl, by rw [ok.ul]; exact ok.n1, by rw [ok.ul]; exact ok.n3, ok.uu, ?_⟩⟩
  rw [hT]
  refine stp fun T hT => ?_
  unfold bxD
  walk_at "fm"
  rw [hT, ok.ul]
  refine stp fun T hT => ?_
  walk_at "fm"
  rw [hT]
  refine stp fun T hT => ?_
  unfold offsD
  rw [eo]
  unfold cmdD
  walk_at "fm"
  refine ⟨fun _ => ⟨fun z => absurd (show ((rs.length + 1 : Nat) : Int) ≤ 4 by omega) z, fun _ => ?_⟩, fun z => absurd (show (1 : Int) ≤ (rs.length + 1 : Nat) by omega) z⟩
  rw [hT]
  refine stp fun T hT => ?_
  walk_at "fm"
  rw [hT]
  refine stp fun T hT => ?_
  walk_at "fm"
  rw [hT, hr0.1]
  refine stp fun T hT => ?_
  unfold T_are_offsets T_are_pairs
  walk_at "fm"
  refine ⟨fun _ => ⟨fun z => absurd (show (c : Int) ≤ 4 by omega) z, fun _ => ⟨n, rfl, m, by omega, c, rfl, P.offs, by rw [eo]; rfl, ok.oo, ok.ol, by omega, by omega, P.reads, by rw [ok.re.1], rfl, by rw [ok.re.1]; omega, ?_⟩⟩, fun z => absurd (show (1 : Int) ≤ c by omega) z⟩
  rw [hT]
  refine stp fun T hT => ?_
  unfold T_are_phases T_are_boxes
  walk_at "fm"
  refine ⟨n, rfl, m, by omega, c, rfl, P.tabs, rfl, ok.tt, by omega, by rw [ok.tl]; exact ok.p1, by rw [ok.tl]; exact ok.p4, n, rfl, m, by omega, P.spans.map some, by rw [List.map_map]; rfl, by omega, by rw [List.length_map]; exact ok.sl, ?_, ?_, ?_⟩
  · rintro o ho
    obtain ⟨b, _, rfl⟩ := List.mem_map.mp ho
    simp
  · rintro o ho E' he
    obtain ⟨b, hb, rfl⟩ := List.mem_map.mp ho
    rw [← Option.some.inj he]
    exact ⟨(ok.ss b hb).1.1, (ok.ss b hb).2⟩
  rw [hT]
  unfold T_are_boxes
  walk_at "fm"
  have fl : P.firsts.length = m := by rw [ok.fs]; simp
  refine ⟨n, rfl, m, by omega, P.firsts, rfl, by omega, fl, ?_, ?_⟩
  · rintro o ho E' rfl
    rw [ok.fs] at ho
    obtain ⟨q, _, e⟩ := List.mem_map.mp ho
    split at e
    · cases e
      exact ⟨ok.e0.1, ok.e1⟩
    · cases e
  rw [map_d]
  refine ⟨by omega, comp_flt _ Option.isSome (fun _ => si 1) trivial _ _ (fun o hp Y Nn hy hnn => ?_) ⟨_, datas_fn _ _, rt_l ?_⟩⟩
  · unfold rd_is_fixed_pilot_t1 rd_is_fixed_pilot_e1
    cases o with
    | none =>
      unfold oD
      walk_at "fm"
      exact hnn rfl
    | some b =>
      unfold oD
      walk_at "fm"
      exact hy rfl
  · rw [List.length_map, ok.fs, firsts_one E ok.s0 ok.m4]
    exact h
end K44

set_option Elab.async false
set_option linter.all false
set_option maxRecDepth 100000
set_option maxHeartbeats 2000000
namespace K44
open PySem L2 FL FR
local macro_rules | `(tactic| walk_at "fl") => `(tactic| simp only [dSeq, dAsg, dgName, dVar, dC, dOp, dUn, dIxK, ixkR, itemsR, dTup, dLst, dCons, dNil, dCall, dCB, dIfS, dIf, dTestR, dTru, dTruR, dRet, dRetN, dNext, dDrop, dAnd, dOr, dNot, dAndV, dOrV, dNotV, dPar, dFor, dRg1, dRg2, dItems, dgTup, dgCons, dgNil, dZip, dZipR, dIsi, isTy, tgOf, tab, dApp, dgSub, dLstM, dVarF, dBreak, dCont, dSl, dSlR, dPart, dNoPart, dLcG, dChain, dAug, dEnum,
  qI, qI0, qNeg, qEq, qNe, qIsN, qNotN, isNone, eqOk, dIxR, cAbs, cInt, cLen, cSum, cMax2, cMin2, cTup, cList, cListM, eqv_ii, eqv_bb, kFro, kMut,
  endsD, sd1, sd2, sd3, getS, getC, datas, List.length_cons, List.length_nil, List.map_cons, List.map_nil, Option.map_some, List.set_cons_zero, List.set_cons_succ, List.replicate_succ, List.replicate_zero, List.getElem?_cons_zero, List.getElem?_cons_succ, List.cons_append, List.nil_append,
  Option.some.injEq, S.d.injEq, S.ref.injEq, PyData.int.injEq, PyData.bool.injEq, PyData.list.injEq, PyData.tuple.injEq, List.cons.injEq, and_true, true_and, exists_eq_left, exists_eq_left', exists_eq_right, exists_and_left, exists_and_right, exists_const, forall_const, imp_self, reduceCtorEq, false_and, and_false, decide_eq_true_eq, decide_eq_false_iff_not, Bool.not_eq_true', Bool.not_eq_false', ne_eq, Classical.not_not, Bool.true_eq_false, Bool.false_eq_true, Nat.reduceAdd, false_implies, true_implies, implies_true, sizeLine_eq, Nat.reduceLeDiff, decide_true, decide_false, Bool.not_true, Bool.not_false, decide_not])
local macro_rules | `(tactic| walk_at "fm") => `(tactic| simp only [rgS_len, wip, dSeq, ixk_l, ixk_t, ixk_r, ixr_l, ixr_t, ixr_s, ixr_r, tru_n, tru_b, tru_i, tru_l, tru_t, tru_s, tru_r, its_l, its_t, its_r, gtup_t, eqk_i, eqk_b, eqk_s, eqk_t, eqk_l, len_l, len_t, len_s, len_r, int_i, int_b, sum_l, sum_r, tup_l, tup_t, tup_r, lis_l, lis_t, lis_r, lim_l, lim_t, lim_r, zip_t, zip_l, sl_l, sl_t, sl_r, dAsg, dgName, dVar, dC, dOp, dUn, dIxK, dTup, dLst, dCons, dNil, dCall, dCB, dIfS, dIf, dTestR, dTru, dRet, dRetN, dNext, dDrop, dAnd, dOr, dNot, dAndV, dOrV, dNotV, dPar, dFor, dRg1, dRg2, dItems, dgCons, dgNil, dZip, dIsi, isTy, tgOf, tab, dApp, dgSub, dLstM, dVarF, dBreak, dCont, dSl, dPart, dNoPart, dLcG, dChain, dAug, dEnum,
  qI, qI0, qNeg, qEq, qNe, qIsN, qNotN, isNone, qIsB, qNotB, isB, addl_i, addl_t, addl_l, cAbs, cMax2, cMin2, eqv_ii, eqv_bb, kFro, kMut,
  endsD, sd1, sd2, sd3, sd4, sd5, dParN, dRep, dEnumT, mx1_l, mx1_r, qEqC, qNeC, qAddC, getS, getC, datas, List.length_cons, List.length_nil, List.map_cons, List.map_nil, Option.map_some, List.set_cons_zero, List.set_cons_succ, List.replicate_succ, List.replicate_zero, List.getElem?_cons_zero, List.getElem?_cons_succ, List.cons_append, List.nil_append,
  Option.some.injEq, S.d.injEq, S.ref.injEq, PyData.int.injEq, PyData.bool.injEq, PyData.list.injEq, PyData.tuple.injEq, List.cons.injEq, and_true, true_and, exists_eq_left, exists_eq_left', exists_eq_right, exists_and_left, exists_and_right, exists_const, exists_eq', exists_eq, ixk_enc0, ixk_enc1, not_true_eq_false, not_false_eq_true, and_self, enc_eq, dOk_enc, dOk_int, eqv_enc, datas_si, datas_map, intsOf_map, and_assoc, List.length_map, List.length_append, forall_const, imp_self, reduceCtorEq, false_and, and_false, decide_eq_true_eq, decide_eq_false_iff_not, Bool.not_eq_true', Bool.not_eq_false', ne_eq, Classical.not_not, Bool.true_eq_false, Bool.false_eq_true, Nat.reduceAdd, false_implies, true_implies, implies_true, sizeLine_eq, Nat.reduceLeDiff, decide_true, decide_false, Bool.not_true, Bool.not_false, decide_not])
theorem atI_getD {α : Type} (f : α → PyData) {as : List α} {i : Nat} (d : α) (h : i < as.length) : atI (as.map f) (i : Int) = some (f (as.getD i d)) := by
  rw [atI_map f h, List.getD_eq_getElem?_getD, List.getElem?_eq_getElem h]
  rfl
theorem getD_mem {α : Type} {as : List α} {i : Nat} (d : α) (h : i < as.length) : as.getD i d ∈ as := by
  rw [List.getD_eq_getElem?_getD, List.getElem?_eq_getElem h]
  exact List.getElem_mem h
theorem firsts_enum {m s : Nat} (E : Bx) (h : s < m) (h4 : m ≤ 4) : (((List.range m).map fun q => if q = s then some E else none).zipIdx.filter fun q => q.1.isSome) = [(some E, s)] := by
  rcases ms_cases h h4 with ⟨rfl, rfl⟩ | ⟨rfl, rfl⟩ | ⟨rfl, rfl⟩ | ⟨rfl, rfl⟩ | ⟨rfl, rfl⟩ | ⟨rfl, rfl⟩ | ⟨rfl, rfl⟩ | ⟨rfl, rfl⟩ | ⟨rfl, rfl⟩ | ⟨rfl, rfl⟩ <;> rfl
theorem enuD_map {α : Type} (f : α → PyData) (as : List α) : enuD (as.map f) = as.zipIdx.map fun p => S.d (.tuple [.int (p.2 : Nat), f p.1]) := by
  unfold enuD
  rw [List.zipIdx_map, List.map_map]
  rfl
theorem first_at {n m c p s : Nat} {E : Bx} {P : Pil} (ok : POk n m c p s E P) : P.firsts.getD s none = some E ∧ s < P.firsts.length := by
  have h := ok.s0
  rw [ok.fs]
  have hl : s < ((List.range m).map fun q => if q = s then some E else none).length := by simpa using h
  refine ⟨?_, hl⟩
  rw [List.getD_eq_getElem?_getD, List.getElem?_eq_getElem hl]
  simp
theorem m_first_state : ∀ xs cs R, xs.length = 1 → Okc cs.length cs → T_first_state xs cs R → rd_first_state (endsD cs.length R) (startD 5 xs) cs := by
  rintro xs cs R hl hc ⟨n, m, c, p, s, E, P, rfl, ok, h⟩
  unfold rd_first_state
  have hm4 := ok.m4
  have fl : P.firsts.length = m := by rw [ok.fs]; simp
  refine stp fun T hT => ?_
  unfold pilD
  walk_at "fm"
  rw [hT]
  refine stp fun T hT => ?_
  walk_at "fm"
  rw [enuD_map]
  refine ⟨by rw [List.length_map, List.length_zipIdx]; omega, comp_flt _ (fun q => q.1.isSome) (fun q => si (q.2 : Nat)) trivial _ _ (fun o hp Y Nn hy hnn => ?_) ⟨_, datas_fn _ _, ?_⟩⟩
  · obtain ⟨o, i⟩ := o
    unfold rd_first_state_t1 rd_first_state_e1
    cases o with
    | none =>
      unfold oD
      walk_at "fm"
      exact hnn rfl
    | some b =>
      unfold oD bxD
      walk_at "fm"
      exact hy rfl
  have e := firsts_enum E ok.s0 ok.m4
  rw [← ok.fs] at e
  rw [e]
  refine ⟨_, rfl, ?_⟩
  rw [hT]
  obtain ⟨e1, e2⟩ := first_at ok
  unfold tabsD
  walk_at "fm"
  refine ⟨_, atI_getD (oD bxD) none e2, rt_l ?_⟩
  rw [e1, ok.tl]
  have hp1 := ok.p1
  rw [show ((p : Int) - 1) = ((p - 1 : Nat) : Int) by omega]
  exact h
theorem off_at {n m c p s : Nat} {E : Bx} {P : Pil} (ok : POk n m c p s E P) {md now : Nat} {k : Int} (h1 : md < m) (h2 : now < m) (h3 : 0 ≤ k) (h4 : k < (c : Int)) :
    atI (P.offs.map cmdD) (md : Int) = some (cmdD (P.offs.getD md [])) ∧ atI ((P.offs.getD md []).map wayD) k = some (wayD ((P.offs.getD md []).getD k.toNat [])) ∧
    atI (((P.offs.getD md []).getD k.toNat []).map (oD bxD)) (now : Int) = some (oD bxD (off P md k now)) ∧ ∀ b, off P md k now = some b → EOk n 8 b := by
  have a1 : md < P.offs.length := by rw [ok.ol]; exact h1
  have q1 := ok.oo _ (getD_mem [] a1)
  have a2 : k.toNat < (P.offs.getD md []).length := by rw [q1.1]; omega
  have q2 := q1.2 _ (getD_mem [] a2)
  have a3 : now < ((P.offs.getD md []).getD k.toNat []).length := by rw [q2.1]; exact h2
  refine ⟨atI_getD cmdD [] a1, ?_, atI_getD (oD bxD) none a3, fun b hb => q2.2 _ (getD_mem none a3) b hb⟩
  have := atI_getD wayD [] a2
  rw [show ((k.toNat : Nat) : Int) = k by omega] at this
  exact this
theorem m_estimate_now : ∀ xs cs R, xs.length = 3 → Okc cs.length cs → T_estimate_now xs cs R → rd_estimate_now (endsD cs.length R) (startD 8 xs) cs := by
  rintro xs cs R hl hc ⟨n, m, c, p, s, E, P, M, ⟨ph, md, es, cm⟩, now, rfl, ok, hnow, ⟨s1, s2, s3, s4⟩, h⟩
  have hn3 := ok.n3
  simp only at s1 s2 s3 s4
  unfold rd_estimate_now pilD stD
  cases cm with
  | none =>
    unfold estNow at h
    simp only at h
    unfold oD
    walk_at "fm"
    refine ⟨fun e => rt_l ?_, fun e => rt_l ?_⟩
    · rw [if_pos (by omega)] at h
      exact h
    · rw [if_neg (by omega)] at h
      exact h
  | some k =>
    obtain ⟨h3, h4⟩ := s4 k rfl
    obtain ⟨o1, o2, o3, o4⟩ := off_at ok s2 hnow h3 h4
    unfold estNow at h
    simp only at h
    unfold oD
    refine stp fun T hT => ?_
    walk_at "fm"
    rw [hT]
    refine stp fun T hT => ?_
    walk_at "fm"
    rw [hT]
    refine stp fun T hT => ?_
    unfold offsD
    walk_at "fm"
    refine ⟨_, o1, ?_⟩
    unfold cmdD
    walk_at "fm"
    refine ⟨_, o2, ?_⟩
    unfold wayD
    walk_at "fm"
    refine ⟨_, o3, ?_⟩
    rw [hT]
    unfold T_gone_on
    cases ho : off P md k now with
    | none =>
      rw [ho] at h
      unfold oD
      walk_at "fm"
      exact rt_l h
    | some b =>
      rw [ho] at h
      unfold oD
      walk_at "fm"
      unfold bxD at h ⊢
      walk_at "fm"
      exact ⟨es, rfl, b, rfl, by rw [s3.1]; omega, rt_l h⟩
theorem firstD_c (ws : Bx) (w : List Tst × Int) (r : Tb) : firstD ws (w :: r) = if w.1.all (holds ws) then .int w.2 else firstD ws r := by
  unfold firstD
  rw [firstI]
  split <;> rfl
theorem m_least_sum : ∀ xs cs R, xs.length = 2 → Okc cs.length cs → T_least_sum xs cs R → rd_least_sum (endsD cs.length R) (startD 7 xs) cs := by
  rintro xs cs R hl hc ⟨⟨fs, m⟩, ws, n, rfl, ht, hw, hn, h⟩
  unfold rd_least_sum testD
  have l1 : fs.length = n := ht.1
  have hf : ∀ v ∈ fs, B 9000 v := ht.2
  have l2 : ws.length = n := hw.1
  walk_at "fm"
  rw [zipD_fn]
  refine ⟨by rw [List.length_map, List.length_zip]; omega, comp_map _ (fun p => si (if p.1 * p.2.2 < p.1 * p.2.1 then p.1 * p.2.2 else p.1 * p.2.1)) trivial _ _ (fun p hp R hR => ?_) ⟨_, datas_fn _ _, _, intsOf_fn _ _, rt_l ?_⟩⟩
  · obtain ⟨f, w⟩ := p
    have hf' := hf f (List.of_mem_zip hp).1
    have hw' := hw.2 w (List.of_mem_zip hp).2
    unfold rd_least_sum_e1 spanD
    walk_at "fm"
    exact ⟨hf'.cm hw'.2.1, hf'.cm hw'.2.2, hR⟩
  · unfold least at h
    rw [zw_map] at h
    exact h
theorem m_holds_for : ∀ xs cs R, xs.length = 2 → Okc cs.length cs → T_holds_for xs cs R → rd_holds_for (endsD cs.length R) (startD 2 xs) cs := by
  rintro xs cs R hl hc ⟨t, ws, n, rfl, ht, hw, hn, h⟩
  unfold rd_holds_for T_least_sum
  walk_at "fm"
  refine ⟨t, rfl, ws, rfl, n, ht, hw, hn, rt_l ?_⟩
  unfold holds at h
  exact h
theorem m_row_holds : ∀ xs cs R, xs.length = 2 → Okc cs.length cs → T_row_holds xs cs R → rd_row_holds (endsD cs.length R) (startD 3 xs) cs := by
  rintro xs cs R hl hc ⟨n, ws, ⟨ts, c⟩, rfl, ht, hw, hn, h⟩
  unfold rd_row_holds rowD
  walk_at "fm"
  rw [map_d]
  simp only at h ht
  refine for_all (fun t => S.d (testD t)) (fun as ρ cs' => cs' = cs ∧ as.all (holds ws) = ts.all (holds ws) ∧ (∀ t ∈ as, TOk n t) ∧ ∃ o0 o2, ρ = [o0, some (.d (.tuple (ws.map spanD))), o2]) (fun _ _ _ _ => trivial) ?_ ?_ ts _ _ ⟨rfl, rfl, ht, _, _, rfl⟩
  · rintro ρ cs' ⟨rfl, e, _, o0, o2, rfl⟩
    walk_at "fm"
    rw [← e] at h
    exact rt_l h
  · rintro t as ρ cs' ⟨rfl, e, ht, o0, o2, rfl⟩ Z hz
    unfold rd_row_holds_b1 T_holds_for
    walk_at "fm"
    refine ⟨t, rfl, ws, rfl, n, ht t List.mem_cons_self, hw, hn, fun hs => ?_, fun hs => hz _ _ ⟨rfl, ?_, fun x hx => ht x (List.mem_cons_of_mem _ hx), _, _, rfl⟩⟩
    · rw [List.all_cons, hs, Bool.false_and] at e
      rw [← e] at h
      exact rt_l h
    · rw [List.all_cons, hs, Bool.true_and] at e
      exact e
theorem m_command_in : ∀ xs cs R, xs.length = 2 → Okc cs.length cs → T_command_in xs cs R → rd_command_in (endsD cs.length R) (startD 3 xs) cs := by
  rintro xs cs R hl hc ⟨n, ws, tb, rfl, ht, hw, hn, h⟩
  unfold rd_command_in
  walk_at "fm"
  rw [map_d]
  refine for_all (fun w => S.d (rowD testD w)) (fun as ρ cs' => cs' = cs ∧ firstD ws as = firstD ws tb ∧ (∀ w ∈ as, ∀ t ∈ w.1, TOk n t) ∧ ∃ o0 o2, ρ = [o0, some (.d (.tuple (ws.map spanD))), o2]) (fun _ _ _ _ => trivial) ?_ ?_ tb _ _ ⟨rfl, rfl, ht, _, _, rfl⟩
  · rintro ρ cs' ⟨rfl, e, _, o0, o2, rfl⟩
    walk_at "fm"
    rw [← e] at h
    exact rt_l h
  · rintro t as ρ cs' ⟨rfl, e, ht, o0, o2, rfl⟩ Z hz
    unfold rd_command_in_b1 T_row_holds
    walk_at "fm"
    rw [firstD_c] at e
    refine ⟨n, ws, t, rfl, rfl, ht t List.mem_cons_self, hw, hn, fun hs => ?_, fun hs => hz _ _ ⟨rfl, ?_, fun x hx => ht x (List.mem_cons_of_mem _ hx), _, _, rfl⟩⟩
    · rw [if_pos hs] at e
      rw [← e] at h
      unfold rowD
      walk_at "fm"
      exact rt_l h
    · rw [if_neg (by rw [hs]; decide)] at e
      exact e
end K44

set_option Elab.async false
set_option linter.all false
set_option maxRecDepth 100000
set_option maxHeartbeats 2000000
namespace K44
open PySem L2 FL FR
local macro_rules | `(tactic| walk_at "fl") => `(tactic| simp only [dSeq, dAsg, dgName, dVar, dC, dOp, dUn, dIxK, ixkR, itemsR, dTup, dLst, dCons, dNil, dCall, dCB, dIfS, dIf, dTestR, dTru, dTruR, dRet, dRetN, dNext, dDrop, dAnd, dOr, dNot, dAndV, dOrV, dNotV, dPar, dFor, dRg1, dRg2, dItems, dgTup, dgCons, dgNil, dZip, dZipR, dIsi, isTy, tgOf, tab, dApp, dgSub, dLstM, dVarF, dBreak, dCont, dSl, dSlR, dPart, dNoPart, dLcG, dChain, dAug, dEnum,
  qI, qI0, qNeg, qEq, qNe, qIsN, qNotN, isNone, eqOk, dIxR, cAbs, cInt, cLen, cSum, cMax2, cMin2, cTup, cList, cListM, eqv_ii, eqv_bb, kFro, kMut,
  endsD, sd1, sd2, sd3, getS, getC, datas, List.length_cons, List.length_nil, List.map_cons, List.map_nil, Option.map_some, List.set_cons_zero, List.set_cons_succ, List.replicate_succ, List.replicate_zero, List.getElem?_cons_zero, List.getElem?_cons_succ, List.cons_append, List.nil_append,
  Option.some.injEq, S.d.injEq, S.ref.injEq, PyData.int.injEq, PyData.bool.injEq, PyData.list.injEq, PyData.tuple.injEq, List.cons.injEq, and_true, true_and, exists_eq_left, exists_eq_left', exists_eq_right, exists_and_left, exists_and_right, exists_const, forall_const, imp_self, reduceCtorEq, false_and, and_false, decide_eq_true_eq, decide_eq_false_iff_not, Bool.not_eq_true', Bool.not_eq_false', ne_eq, Classical.not_not, Bool.true_eq_false, Bool.false_eq_true, Nat.reduceAdd, false_implies, true_implies, implies_true, sizeLine_eq, Nat.reduceLeDiff, decide_true, decide_false, Bool.not_true, Bool.not_false, decide_not])
local macro_rules | `(tactic| walk_at "fm") => `(tactic| simp only [rgS_len, wip, dSeq, ixk_l, ixk_t, ixk_r, ixr_l, ixr_t, ixr_s, ixr_r, tru_n, tru_b, tru_i, tru_l, tru_t, tru_s, tru_r, its_l, its_t, its_r, gtup_t, eqk_i, eqk_b, eqk_s, eqk_t, eqk_l, len_l, len_t, len_s, len_r, int_i, int_b, sum_l, sum_r, tup_l, tup_t, tup_r, lis_l, lis_t, lis_r, lim_l, lim_t, lim_r, zip_t, zip_l, sl_l, sl_t, sl_r, dAsg, dgName, dVar, dC, dOp, dUn, dIxK, dTup, dLst, dCons, dNil, dCall, dCB, dIfS, dIf, dTestR, dTru, dRet, dRetN, dNext, dDrop, dAnd, dOr, dNot, dAndV, dOrV, dNotV, dPar, dFor, dRg1, dRg2, dItems, dgCons, dgNil, dZip, dIsi, isTy, tgOf, tab, dApp, dgSub, dLstM, dVarF, dBreak, dCont, dSl, dPart, dNoPart, dLcG, dChain, dAug, dEnum,
  qI, qI0, qNeg, qEq, qNe, qIsN, qNotN, isNone, qIsB, qNotB, isB, addl_i, addl_t, addl_l, cAbs, cMax2, cMin2, eqv_ii, eqv_bb, kFro, kMut,
  endsD, sd1, sd2, sd3, sd4, sd5, dParN, dRep, dEnumT, mx1_l, mx1_r, qEqC, qNeC, qAddC, getS, getC, datas, List.length_cons, List.length_nil, List.map_cons, List.map_nil, Option.map_some, List.set_cons_zero, List.set_cons_succ, List.replicate_succ, List.replicate_zero, List.getElem?_cons_zero, List.getElem?_cons_succ, List.cons_append, List.nil_append,
  Option.some.injEq, S.d.injEq, S.ref.injEq, PyData.int.injEq, PyData.bool.injEq, PyData.list.injEq, PyData.tuple.injEq, List.cons.injEq, and_true, true_and, exists_eq_left, exists_eq_left', exists_eq_right, exists_and_left, exists_and_right, exists_const, exists_eq', exists_eq, ixk_enc0, ixk_enc1, not_true_eq_false, not_false_eq_true, and_self, enc_eq, dOk_enc, dOk_int, eqv_enc, datas_si, datas_map, intsOf_map, and_assoc, List.length_map, List.length_append, forall_const, imp_self, reduceCtorEq, false_and, and_false, decide_eq_true_eq, decide_eq_false_iff_not, Bool.not_eq_true', Bool.not_eq_false', ne_eq, Classical.not_not, Bool.true_eq_false, Bool.false_eq_true, Nat.reduceAdd, false_implies, true_implies, implies_true, sizeLine_eq, Nat.reduceLeDiff, decide_true, decide_false, Bool.not_true, Bool.not_false, decide_not])
theorem EOk.mono {n : Nat} {M N : Int} {E : Bx} (h : EOk n M E) (hm : M ≤ N) : EOk n N E := ⟨h.1, fun w hw => by have := h.2 w hw; omega⟩
theorem EOk.w {n : Nat} {M : Int} {E : Bx} (h : EOk n M E) (hm : M ≤ 2000000) : WOk n E := ⟨h.1, fun w hw => by
  have := h.2 w hw
  refine ⟨trivial, ?_, ?_⟩ <;> (unfold B; omega)⟩
theorem mem_zw {α β γ : Type} {f : α → β → γ} {as : List α} {bs : List β} {z : γ} (h : z ∈ List.zipWith f as bs) : ∃ a b, a ∈ as ∧ b ∈ bs ∧ z = f a b := by
  rw [zw_map] at h
  obtain ⟨q, hq, rfl⟩ := List.mem_map.mp h
  exact ⟨q.1, q.2, (List.of_mem_zip (show (q.1, q.2) ∈ _ from hq)).1, (List.of_mem_zip (show (q.1, q.2) ∈ _ from hq)).2, rfl⟩
theorem gone_ok {n : Nat} {M N : Int} {E o : Bx} (h : EOk n M E) (ho : EOk n N o) : EOk n (M + N) (gone E o) := by
  refine ⟨by unfold gone; rw [List.length_zipWith, h.1, ho.1]; omega, fun w hw => ?_⟩
  obtain ⟨a, b, ha, hb, rfl⟩ := mem_zw hw
  have := h.2 a ha
  have := ho.2 b hb
  simp only
  omega
theorem readB_ok {n : Nat} {M N : Int} {a : Bx} {rs : List Int} (h : EOk n N a) (hl : rs.length = n) (hr : ∀ v ∈ rs, -M ≤ v ∧ v ≤ M) : EOk n (M + N) (readB a rs) := by
  refine ⟨by unfold readB; rw [List.length_zipWith, h.1, hl]; omega, fun w hw => ?_⟩
  obtain ⟨x, r, hx, hb, rfl⟩ := mem_zw hw
  have := h.2 x hx
  have := hr r hb
  simp only
  omega
theorem met_ok {n : Nat} {M : Int} {E F : Bx} (h : EOk n M E) (hf : EOk n M F) : EOk n M (met E F) := by
  refine ⟨by unfold met; rw [List.length_zipWith, h.1, hf.1]; omega, fun w hw => ?_⟩
  obtain ⟨x, r, hx, hb, rfl⟩ := mem_zw hw
  have := h.2 x hx
  have := hf.2 r hb
  simp only
  constructor
  · split <;> omega
  · constructor
    · split <;> omega
    · constructor <;> split <;> omega
theorem est_ok {n m c p s : Nat} {E0 : Bx} {P : Pil} {M : Int} {st : St} {now : Nat} (ok : POk n m c p s E0 P) (hnow : now < m) (hs : SOk n m c p M st) {E : Bx} (h : estNow P st now = some E) : EOk n (M + 8) E := by
  obtain ⟨ph, md, es, cm⟩ := st
  obtain ⟨s1, s2, s3, s4⟩ := hs
  unfold estNow at h
  cases cm with
  | none =>
    simp only at h s3
    split at h
    · cases h; exact s3.mono (by omega)
    · cases h
  | some k =>
    obtain ⟨h3, h4⟩ := s4 k rfl
    obtain ⟨_, _, _, o4⟩ := off_at ok s2 hnow h3 h4
    simp only at h s3
    cases ho : off P md k now with
    | none => rw [ho] at h; cases h
    | some b =>
      rw [ho] at h
      cases h
      exact gone_ok s3 (o4 b ho)
theorem seen_ok {n m c p s : Nat} {E0 E : Bx} {P : Pil} {M : Int} {rs : Option (List Int)} (ok : POk n m c p s E0 P) (h : EOk n (M + 8) E) (hr : ROk n M rs) : EOk n (M + 8) (seen P E rs) := by
  cases rs with
  | none => exact h
  | some r => exact met_ok h (readB_ok ok.re (hr r rfl).1 (hr r rfl).2)
theorem tell_giv {P : Pil} {ph now : Nat} {E : Bx} {rd : Bool} {k : Int} {st : St} (h : tell P ph now E rd = .giv k st) : st = ⟨ph - 1, now, E, some k⟩ ∧ firstI E (tabAt P ph now) = some k := by
  unfold tell at h
  split at h
  · cases h
  · split at h
    · cases e : firstI E (tabAt P ph now) with
      | none => rw [e] at h; cases h
      | some j => rw [e] at h; cases h; exact ⟨rfl, rfl⟩
    · cases h
theorem firstI_mem {E : Bx} : ∀ {tb : Tb} {k : Int}, firstI E tb = some k → ∃ w ∈ tb, w.2 = k
  | [], k, h => by cases h
  | w :: r, k, h => by
    unfold firstI at h
    split at h
    · cases h; exact ⟨w, List.mem_cons_self, rfl⟩
    · obtain ⟨x, hx, e⟩ := firstI_mem h
      exact ⟨x, List.mem_cons_of_mem _ hx, e⟩
theorem tab_at {n m c p s : Nat} {E : Bx} {P : Pil} (ok : POk n m c p s E P) {ph now : Nat} (h1 : ph < p) (h2 : now < m) :
    atI (P.tabs.map phD) (ph : Int) = some (phD (P.tabs.getD ph [])) ∧ atI ((P.tabs.getD ph []).map tabD) (now : Int) = some (tabD (tabAt P ph now)) ∧ TabOk n c (tabAt P ph now) := by
  have a1 : ph < P.tabs.length := by rw [ok.tl]; exact h1
  have q1 := ok.tt _ (getD_mem [] a1)
  have a2 : now < (P.tabs.getD ph []).length := by rw [q1.1]; exact h2
  exact ⟨atI_getD phD [] a1, atI_getD tabD [] a2, q1.2 _ (getD_mem [] a2)⟩
theorem span_at {n m c p s : Nat} {E : Bx} {P : Pil} (ok : POk n m c p s E P) {now : Nat} (h2 : now < m) : atI (P.spans.map bxD) (now : Int) = some (bxD (spanAt P now)) ∧ (spanAt P now).length = n := by
  have a1 : now < P.spans.length := by rw [ok.sl]; exact h2
  exact ⟨atI_getD bxD [] a1, (ok.ss _ (getD_mem [] a1)).1.1⟩
theorem beat_giv {n m c p s : Nat} {E0 : Bx} {P : Pil} {M : Int} {st st' : St} {now : Nat} {rs : Option (List Int)} {k : Int} (ok : POk n m c p s E0 P) (hnow : now < m) (hs : SOk n m c p M st) (hr : ROk n M rs) (h : beat P st now rs = .giv k st') :
    SOk n m c p (M + 8) st' ∧ st'.md = now ∧ st'.cm = some k := by
  unfold beat at h
  cases e : estNow P st now with
  | none => rw [e] at h; cases h
  | some E =>
    rw [e] at h
    obtain ⟨rfl, h1⟩ := tell_giv h
    have hE := seen_ok ok (est_ok ok hnow hs e) hr
    refine ⟨⟨?_, hnow, hE, ?_⟩, rfl, rfl⟩
    · have := hs.1
      have := ok.p1
      simp only
      omega
    · intro j hj
      cases hj
      obtain ⟨w, hw, rfl⟩ := firstI_mem h1
      have := ((tab_at ok hs.1 hnow).2.2).2 w hw
      exact ⟨this.2.2.1, this.2.2.2⟩
theorem m_beat_of : ∀ xs cs R, xs.length = 4 → Okc cs.length cs → T_beat_of xs cs R → rd_beat_of (endsD cs.length R) (startD 7 xs) cs := by
  rintro xs cs R hl hc ⟨n, m, c, p, s, E0, P, M, st, rs, now, rfl, ok, hnow, hs, hr, hM0, hM, h⟩
  have hn3 := ok.n3
  unfold rd_beat_of
  refine stp fun T hT => ?_
  unfold T_estimate_now
  walk_at "fm"
  refine ⟨n, m, c, p, s, E0, P, rfl, M, st, rfl, now, rfl, ok, hnow, hs, ?_⟩
  unfold beat at h
  have hest := fun E => est_ok (E := E) ok hnow hs
  rw [hT]
  refine stp fun T hT => ?_
  cases e : estNow P st now with
  | none =>
    rw [e] at h
    unfold oD
    walk_at "fm"
    exact rt_l h
  | some E =>
    have hE := hest E e
    have hS := seen_ok (rs := rs) ok hE hr
    rw [e] at h
    unfold beatE at h
    simp only at h
    unfold oD bxD
    walk_at "fm"
    rw [hT]
    refine stp fun T hT => ?_
    have fin : ∀ E2 : Bx, seen P E rs = E2 → (rs.isSome && emp E2) = false → T { nx := fun ρ' cs' => rtD cs.length R (.d .none) cs', rt := rtD cs.length R, bk := fun _ _ => False, ct := fun _ _ => False }
        [some (.d (pilD P)), some (.d (stD st)), some (si (now : Int)), some (.d (rdD rs)), some (.d (bxD E2)), none, none] cs := fun E2 e2 he => by
      rw [e2] at h hS
      unfold tell at h
      rw [if_neg (by rw [he]; decide)] at h
      obtain ⟨sp, spl⟩ := span_at ok hnow
      obtain ⟨t1, t2, t3⟩ := tab_at ok hs.1 hnow
      rw [hT]
      refine stp fun T hT => ?_
      unfold bxD
      walk_at "fm"
      rw [hT]
      refine stp fun T hT => ?_
      unfold T_is_inside pilD
      walk_at "fm"
      refine ⟨_, sp, E2, rfl, _, rfl, by rw [hS.1]; omega, fun hi => ?_, fun hi => ?_⟩
      · rw [if_neg (by rw [hi]; decide)] at h
        exact rt_l h
      rw [if_pos hi] at h
      rw [hT]
      refine stp fun T hT => ?_
      unfold stD
      walk_at "fm"
      rw [hT]
      refine stp fun T hT => ?_
      unfold T_command_in tabsD
      walk_at "fm"
      refine ⟨_, t1, ?_⟩
      unfold phD
      walk_at "fm"
      refine ⟨_, t2, n, E2, _, rfl, rfl, fun w hw t ht => ((t3.2 w hw).2.1 t ht), hS.w (by omega), by omega, ?_⟩
      rw [hT]
      refine stp fun T hT => ?_
      unfold firstD
      cases ef : firstI E2 (tabAt P st.ph now) with
      | none =>
        rw [ef] at h
        unfold oD
        walk_at "fm"
        exact rt_l h
      | some k =>
        rw [ef] at h
        unfold oD
        walk_at "fm"
        rw [hT]
        walk_at "fm"
        refine rt_l ?_
        have em : (if 0 > (st.ph : Int) - 1 then 0 else (st.ph : Int) - 1) = ((st.ph - 1 : Nat) : Int) := by split <;> omega
        rw [em]
        exact h
    cases rs with
    | none =>
      unfold rdD oD
      walk_at "fm"
      exact fin E rfl rfl
    | some r =>
      have rl := (hr r rfl).1
      unfold rdD oD T_met_boxes T_read_box
      unfold pilD intsD
      walk_at "fm"
      refine ⟨P.reads, rfl, r, rfl, by rw [ok.re.1]; omega, E, rfl, _, rfl, by rw [hE.1]; omega, ?_⟩
      by_cases he : emp (met E (readB P.reads r)) = true
      · rw [if_pos he]
        have h' : R (.d (outD (.brk "empty"))) cs := by
          unfold tell at h
          rw [if_pos (show ((some r).isSome && emp (seen P E (some r))) = true from he)] at h
          exact h
        unfold oD
        rw [hT]
        walk_at "fm"
        exact rt_l h'
      · rw [if_neg he]
        exact fin _ rfl (by simpa [seen] using he)
end K44

set_option Elab.async false
set_option linter.all false
set_option maxRecDepth 100000
set_option maxHeartbeats 2000000
namespace K44
open PySem L2 FL FR
local macro_rules | `(tactic| walk_at "fl") => `(tactic| simp only [dSeq, dAsg, dgName, dVar, dC, dOp, dUn, dIxK, ixkR, itemsR, dTup, dLst, dCons, dNil, dCall, dCB, dIfS, dIf, dTestR, dTru, dTruR, dRet, dRetN, dNext, dDrop, dAnd, dOr, dNot, dAndV, dOrV, dNotV, dPar, dFor, dRg1, dRg2, dItems, dgTup, dgCons, dgNil, dZip, dZipR, dIsi, isTy, tgOf, tab, dApp, dgSub, dLstM, dVarF, dBreak, dCont, dSl, dSlR, dPart, dNoPart, dLcG, dChain, dAug, dEnum,
  qI, qI0, qNeg, qEq, qNe, qIsN, qNotN, isNone, eqOk, dIxR, cAbs, cInt, cLen, cSum, cMax2, cMin2, cTup, cList, cListM, eqv_ii, eqv_bb, kFro, kMut,
  endsD, sd1, sd2, sd3, getS, getC, datas, List.length_cons, List.length_nil, List.map_cons, List.map_nil, Option.map_some, List.set_cons_zero, List.set_cons_succ, List.replicate_succ, List.replicate_zero, List.getElem?_cons_zero, List.getElem?_cons_succ, List.cons_append, List.nil_append,
  Option.some.injEq, S.d.injEq, S.ref.injEq, PyData.int.injEq, PyData.bool.injEq, PyData.list.injEq, PyData.tuple.injEq, List.cons.injEq, and_true, true_and, exists_eq_left, exists_eq_left', exists_eq_right, exists_and_left, exists_and_right, exists_const, forall_const, imp_self, reduceCtorEq, false_and, and_false, decide_eq_true_eq, decide_eq_false_iff_not, Bool.not_eq_true', Bool.not_eq_false', ne_eq, Classical.not_not, Bool.true_eq_false, Bool.false_eq_true, Nat.reduceAdd, false_implies, true_implies, implies_true, sizeLine_eq, Nat.reduceLeDiff, decide_true, decide_false, Bool.not_true, Bool.not_false, decide_not])
local macro_rules | `(tactic| walk_at "fm") => `(tactic| simp only [rgS_len, wip, dSeq, ixk_l, ixk_t, ixk_r, ixr_l, ixr_t, ixr_s, ixr_r, tru_n, tru_b, tru_i, tru_l, tru_t, tru_s, tru_r, its_l, its_t, its_r, gtup_t, eqk_i, eqk_b, eqk_s, eqk_t, eqk_l, len_l, len_t, len_s, len_r, int_i, int_b, sum_l, sum_r, tup_l, tup_t, tup_r, lis_l, lis_t, lis_r, lim_l, lim_t, lim_r, zip_t, zip_l, sl_l, sl_t, sl_r, dAsg, dgName, dVar, dC, dOp, dUn, dIxK, dTup, dLst, dCons, dNil, dCall, dCB, dIfS, dIf, dTestR, dTru, dRet, dRetN, dNext, dDrop, dAnd, dOr, dNot, dAndV, dOrV, dNotV, dPar, dFor, dRg1, dRg2, dItems, dgCons, dgNil, dZip, dIsi, isTy, tgOf, tab, dApp, dgSub, dLstM, dVarF, dBreak, dCont, dSl, dPart, dNoPart, dLcG, dChain, dAug, dEnum,
  qI, qI0, qNeg, qEq, qNe, qIsN, qNotN, isNone, qIsB, qNotB, isB, addl_i, addl_t, addl_l, cAbs, cMax2, cMin2, eqv_ii, eqv_bb, kFro, kMut,
  endsD, sd1, sd2, sd3, sd4, sd5, dParN, dRep, dEnumT, mx1_l, mx1_r, qEqC, qNeC, qAddC, getS, getC, datas, List.length_cons, List.length_nil, List.map_cons, List.map_nil, Option.map_some, List.set_cons_zero, List.set_cons_succ, List.replicate_succ, List.replicate_zero, List.getElem?_cons_zero, List.getElem?_cons_succ, List.cons_append, List.nil_append,
  Option.some.injEq, S.d.injEq, S.ref.injEq, PyData.int.injEq, PyData.bool.injEq, PyData.list.injEq, PyData.tuple.injEq, List.cons.injEq, and_true, true_and, exists_eq_left, exists_eq_left', exists_eq_right, exists_and_left, exists_and_right, exists_const, exists_eq', exists_eq, ixk_enc0, ixk_enc1, not_true_eq_false, not_false_eq_true, and_self, enc_eq, dOk_enc, dOk_int, eqv_enc, datas_si, datas_map, intsOf_map, and_assoc, List.length_map, List.length_append, forall_const, imp_self, reduceCtorEq, false_and, and_false, decide_eq_true_eq, decide_eq_false_iff_not, Bool.not_eq_true', Bool.not_eq_false', ne_eq, Classical.not_not, Bool.true_eq_false, Bool.false_eq_true, Nat.reduceAdd, false_implies, true_implies, implies_true, sizeLine_eq, Nat.reduceLeDiff, decide_true, decide_false, Bool.not_true, Bool.not_false, decide_not])
theorem getC_last : ∀ (gs : Sto) (x : Option (List S)), getC (gs ++ [x]) gs.length = x
  | [], _ => rfl
  | _ :: gs, x => getC_last gs x
theorem set_last (gs : Sto) (x y : Option (List S)) : (gs ++ [x]).set gs.length y = gs ++ [y] := by simp
theorem DS_len (row : List Int) (total pos : Int) (gs : Sto) : (DS row total pos gs).length = gs.length + 3 := rfl
theorem DS_app (row : List Int) (total pos : Int) (gs hs : Sto) : DS row total pos gs ++ hs = DS row total pos (gs ++ hs) := rfl
theorem DS_get (row : List Int) (total pos : Int) (gs : Sto) (n : Nat) : getC (DS row total pos gs) (n + 3) = getC gs n := rfl
theorem DS_set (row : List Int) (total pos : Int) (gs : Sto) (n : Nat) (x : Option (List S)) : (DS row total pos gs).set (n + 3) x = DS row total pos (gs.set n x) := rfl
theorem DS_get0 (row : List Int) (total pos : Int) (x : Option (List S)) (gs : Sto) : getC (DS row total pos (x :: gs)) 3 = x := rfl
theorem DS_get1 (row : List Int) (total pos : Int) (x y : Option (List S)) (gs : Sto) : getC (DS row total pos (x :: y :: gs)) 4 = y := rfl
theorem DS_set0 (row : List Int) (total pos : Int) (x z : Option (List S)) (gs : Sto) : (DS row total pos (x :: gs)).set 3 z = DS row total pos (z :: gs) := rfl
theorem DS_set1 (row : List Int) (total pos : Int) (x y z : Option (List S)) (gs : Sto) : (DS row total pos (x :: y :: gs)).set 4 z = DS row total pos (x :: z :: gs) := rfl
theorem okc_ds {n : Nat} {row : List Int} {total pos p : Int} {gs : Sto} (h : Okc n (DS row total pos gs)) : Okc n (DS row total p gs) := fun k xs e x hx => by
  match k, e with
  | 1, e =>
    cases e
    have : x = si p := by simpa using hx
    subst this; trivial
  | 2, e => exact h 2 xs e x hx
  | k + 3, e => exact h (k + 3) xs e x hx
theorem rt_ds {row : List Int} {total pos p : Int} {gs : Sto} {R : RK} {x : PyData} (hs : Sto) (hc : Okc (DS row total pos gs).length (DS row total pos gs)) (h : R (.d x) (DS row total p gs)) : rtD (DS row total pos gs).length R (.d x) (DS row total p (gs ++ hs)) :=
  .inr ⟨DS row total p gs, hs, rfl, rfl, okc_ds hc, trivial, h⟩
theorem items_cell {y : S} {cs : Sto} {L : List PyData} {gs : Sto} {RI : FL.Src → Sto → Prop} (h : cellL y cs = some (.list L)) (k : ∀ ok : Sto → Prop, (∀ hs, ok (cs ++ hs)) → RI ⟨L.map S.d, ok⟩ (cs ++ gs)) : itemsR y (cs ++ gs) RI := by
  have app : ∀ {cs : Sto} {n : Nat} {xs : List S} (hs : Sto), getC cs n = some xs → getC (cs ++ hs) n = some xs := fun {cs n xs} hs e => by
    have := getC_eq e
    refine getC_of ?_
    rw [List.getElem?_append_left (List.getElem?_eq_some_iff.mp this).1]
    exact this
  cases y with
  | d d =>
    cases h
    exact k okT fun _ => trivial
  | ref n =>
    obtain ⟨ds, e, hg⟩ := cell_ref h
    cases e
    exact ⟨_, app _ hg, k _ fun hs => app hs hg⟩
theorem drv_c (P : Pil) (st : St) (i : Nat × Option (List Int)) (r : List (Nat × Option (List Int))) : drv P st (i :: r) = drvO (fun st' => drv P st' r) (beat P st i.1 i.2) := rfl
theorem ROk.mono {n : Nat} {M N : Int} {rs : Option (List Int)} (h : ROk n M rs) (hm : M ≤ N) : ROk n N rs := fun r e => ⟨(h r e).1, fun v hv => by have := (h r e).2 v hv; omega⟩
theorem m_driven : ∀ xs cs R, xs.length = 2 → Okc cs.length cs → T_driven xs cs R → rd_driven (endsD cs.length R) (startD 7 xs) cs := by
  rintro xs cs R hl hc ⟨n, m, c, p, s, E, P, y, ins, rfl, hy, ok, ⟨hi20, hins⟩, h⟩
  unfold rd_driven
  refine stp fun T hT => ?_
  unfold T_first_state
  walk_at "fm"
  refine ⟨n, m, c, p, s, E, P, rfl, ok, ?_⟩
  rw [hT]
  refine stp fun T hT => ?_
  walk_at "fm"
  rw [hT]
  refine stp fun T hT => ?_
  walk_at "fm"
  refine items_cell hy fun okc hok => ?_
  simp only
  rw [map_d]
  have hp1 := ok.p1
  have z0 : SOk n m c p 100000 (st0 p s E) := ⟨by show p - 1 < p; omega, ok.s0, ok.e0.mono (by decide), fun k hk => by cases hk⟩
  refine for_all (fun i => S.d (inD i)) (fun as ρ cs' => ∃ st acc M o4 o5 o6, cs' = cs ++ [some (acc.map fun o => S.d (outD o))] ∧ drv P (st0 p s E) ins = acc ++ drv P st as ∧ SOk n m c p M st ∧ 100000 ≤ M ∧ M + 8 * (as.length : Nat) ≤ 200000 ∧ acc.length + as.length ≤ 20 ∧ (∀ i ∈ as, i.1 < m ∧ ROk n 100000 i.2) ∧
      ρ = [some (.d (pilD P)), some y, some (.d (stD st)), some (.ref cs.length), o4, o5, o6]) ?_ ?_ ?_ ins _ _ ⟨st0 p s E, [], 100000, _, _, _, rfl, rfl, z0, by omega, by omega, by simp; omega, hins, rfl⟩
  · rintro as ρ cs' ⟨st, acc, M, o4, o5, o6, rfl, _⟩
    exact hok _
  · rintro ρ cs' ⟨st, acc, M, o4, o5, o6, rfl, e, _, _, _, _, _, rfl⟩
    rw [hT]
    rw [e] at h
    have e2 : drv P st [] = [] := by unfold drv; rfl
    rw [e2, List.append_nil] at h
    walk_at "fm"
    refine ⟨acc.map outD, by rw [getC_last, List.map_map]; rfl, ?_⟩
    rw [set_last]
    exact rt_g _ hc h
  · rintro ⟨now, rs⟩ as ρ cs' ⟨st, acc, M, o4, o5, o6, rfl, e, hs, hM, hM2, hal, hin, rfl⟩ Z hz
    have hi := hin _ List.mem_cons_self
    simp only at hi
    rw [drv_c] at e
    rw [List.length_cons] at hM2 hal
    have hr := hi.2.mono hM
    have hbg := fun k st' => beat_giv (k := k) (st' := st') ok hi.1 hs hr
    unfold inD
    simp only at e
    walk_at "fm"
    unfold rd_driven_b1
    refine stp fun T hT => ?_
    unfold T_beat_of
    walk_at "fm"
    refine ⟨n, m, c, p, s, E, P, rfl, M, st, rfl, rs, now, rfl, rfl, ok, hi.1, hs, hr, by omega, by omega, ?_⟩
    rw [hT]
    refine stp fun T hT => ?_
    walk_at "fm"
    refine ⟨⟨_, getC_last _ _⟩, _, getC_last _ _, by rw [List.length_map]; omega, ?_⟩
    rw [set_last, hT]
    refine stp fun T hT => ?_
    have ea : ∀ o : Out, (acc.map fun o => S.d (outD o)) ++ [S.d (outD o)] = (acc ++ [o]).map fun o => S.d (outD o) := fun o => by rw [List.map_append]; rfl
    rw [ea]
    cases hb : beat P st now rs with
    | brk w =>
      rw [hb] at e
      unfold outD
      walk_at "fm"
      have q1 : (PyData.str "broken").eqv (PyData.str "broken") = true := by rw [eqv_ss]; simp
      rw [q1]
      refine ⟨fun _ => ?_, fun z => by cases z⟩
      refine ⟨(acc ++ [Out.brk w]).map outD, by rw [getC_last, List.map_map]; rfl, ?_⟩
      rw [set_last]
      refine rt_g _ hc ?_
      rw [e] at h
      exact h
    | giv k st' =>
      rw [hb] at e
      obtain ⟨hs', _, _⟩ := hbg k st' hb
      unfold outD
      walk_at "fm"
      have q1 : (PyData.str "given").eqv (PyData.str "broken") = false := by rw [eqv_ss]; decide
      rw [q1]
      refine ⟨fun z => (by cases z), fun _ => ?_⟩
      rw [hT]
      walk_at "fm"
      refine hz _ _ ⟨st', acc ++ [.giv k st'], M + 8, _, _, _, rfl, ?_, hs', by omega, by omega, by rw [List.length_append]; simp; omega, fun i hi => hin i (List.mem_cons_of_mem _ hi), rfl⟩
      rw [e]
      simp [drvO]
end K44

set_option Elab.async false
set_option linter.all false
set_option maxRecDepth 100000
set_option maxHeartbeats 2000000
namespace K44
open PySem L2 FL FR
local macro_rules | `(tactic| walk_at "fl") => `(tactic| simp only [dSeq, dAsg, dgName, dVar, dC, dOp, dUn, dIxK, ixkR, itemsR, dTup, dLst, dCons, dNil, dCall, dCB, dIfS, dIf, dTestR, dTru, dTruR, dRet, dRetN, dNext, dDrop, dAnd, dOr, dNot, dAndV, dOrV, dNotV, dPar, dFor, dRg1, dRg2, dItems, dgTup, dgCons, dgNil, dZip, dZipR, dIsi, isTy, tgOf, tab, dApp, dgSub, dLstM, dVarF, dBreak, dCont, dSl, dSlR, dPart, dNoPart, dLcG, dChain, dAug, dEnum,
  qI, qI0, qNeg, qEq, qNe, qIsN, qNotN, isNone, eqOk, dIxR, cAbs, cInt, cLen, cSum, cMax2, cMin2, cTup, cList, cListM, eqv_ii, eqv_bb, kFro, kMut,
  endsD, sd1, sd2, sd3, getS, getC, datas, List.length_cons, List.length_nil, List.map_cons, List.map_nil, Option.map_some, List.set_cons_zero, List.set_cons_succ, List.replicate_succ, List.replicate_zero, List.getElem?_cons_zero, List.getElem?_cons_succ, List.cons_append, List.nil_append,
  Option.some.injEq, S.d.injEq, S.ref.injEq, PyData.int.injEq, PyData.bool.injEq, PyData.list.injEq, PyData.tuple.injEq, List.cons.injEq, and_true, true_and, exists_eq_left, exists_eq_left', exists_eq_right, exists_and_left, exists_and_right, exists_const, forall_const, imp_self, reduceCtorEq, false_and, and_false, decide_eq_true_eq, decide_eq_false_iff_not, Bool.not_eq_true', Bool.not_eq_false', ne_eq, Classical.not_not, Bool.true_eq_false, Bool.false_eq_true, Nat.reduceAdd, false_implies, true_implies, implies_true, sizeLine_eq, Nat.reduceLeDiff, decide_true, decide_false, Bool.not_true, Bool.not_false, decide_not])
local macro_rules | `(tactic| walk_at "fm") => `(tactic| simp only [rgS_len, wip, dSeq, ixk_l, ixk_t, ixk_r, ixr_l, ixr_t, ixr_s, ixr_r, tru_n, tru_b, tru_i, tru_l, tru_t, tru_s, tru_r, its_l, its_t, its_r, gtup_t, eqk_i, eqk_b, eqk_s, eqk_t, eqk_l, len_l, len_t, len_s, len_r, int_i, int_b, sum_l, sum_r, tup_l, tup_t, tup_r, lis_l, lis_t, lis_r, lim_l, lim_t, lim_r, zip_t, zip_l, sl_l, sl_t, sl_r, dAsg, dgName, dVar, dC, dOp, dUn, dIxK, dTup, dLst, dCons, dNil, dCall, dCB, dIfS, dIf, dTestR, dTru, dRet, dRetN, dNext, dDrop, dAnd, dOr, dNot, dAndV, dOrV, dNotV, dPar, dFor, dRg1, dRg2, dItems, dgCons, dgNil, dZip, dIsi, isTy, tgOf, tab, dApp, dgSub, dLstM, dVarF, dBreak, dCont, dSl, dPart, dNoPart, dLcG, dChain, dAug, dEnum,
  qI, qI0, qNeg, qEq, qNe, qIsN, qNotN, isNone, qIsB, qNotB, isB, addl_i, addl_t, addl_l, cAbs, cMax2, cMin2, eqv_ii, eqv_bb, kFro, kMut,
  endsD, sd1, sd2, sd3, sd4, sd5, dParN, dRep, dEnumT, mx1_l, mx1_r, qEqC, qNeC, qAddC, getS, getC, datas, List.length_cons, List.length_nil, List.map_cons, List.map_nil, Option.map_some, List.set_cons_zero, List.set_cons_succ, List.replicate_succ, List.replicate_zero, List.getElem?_cons_zero, List.getElem?_cons_succ, List.cons_append, List.nil_append,
  Option.some.injEq, S.d.injEq, S.ref.injEq, PyData.int.injEq, PyData.bool.injEq, PyData.list.injEq, PyData.tuple.injEq, List.cons.injEq, and_true, true_and, exists_eq_left, exists_eq_left', exists_eq_right, exists_and_left, exists_and_right, exists_const, exists_eq', exists_eq, ixk_enc0, ixk_enc1, not_true_eq_false, not_false_eq_true, and_self, enc_eq, dOk_enc, dOk_int, eqv_enc, datas_si, datas_map, intsOf_map, and_assoc, List.length_map, List.length_append, forall_const, imp_self, reduceCtorEq, false_and, and_false, decide_eq_true_eq, decide_eq_false_iff_not, Bool.not_eq_true', Bool.not_eq_false', ne_eq, Classical.not_not, Bool.true_eq_false, Bool.false_eq_true, Nat.reduceAdd, false_implies, true_implies, implies_true, sizeLine_eq, Nat.reduceLeDiff, decide_true, decide_false, Bool.not_true, Bool.not_false, decide_not])
theorem take_at {row : List Int} {total pos p : Int} {gs : Sto} {many : Int} {cs : Sto} {R : RK} (D : Deal row total pos) (h0 : pos ≤ p) (h1 : p < 2 ^ 40) (hm : 0 < many) (hc : cs = DS row total p gs) (h : ∀ v, 0 ≤ v → v < many → R (si v) (DS row total (p + 1) gs)) : T__law_take [.ref 2, si many] cs R :=
  ⟨row, total, p, gs, many, rfl, hc, D.next h0 h1, hm, h⟩
theorem m__law_pair : ∀ xs cs R, xs.length = 4 → Okc cs.length cs → T__law_pair xs cs R → rd__law_pair (endsD cs.length R) (startD 5 xs) cs := by
  rintro xs cs R hl hc ⟨row, total, pos, gs, lo, many, wide, rfl, rfl, D, hp, hm, hw, h⟩
  have p0 := D.p0
  unfold rd__law_pair
  refine stp fun T hT => ?_
  unfold T__law_take
  walk_at "fm"
  refine ⟨row, total, pos, gs, rfl, D, hm, fun v v0 v1 => ?_⟩
  rw [hT]
  unfold T__law_take
  walk_at "fm"
  refine ⟨row, total, pos + 1, gs, rfl, D.next (by omega) (by omega), hw, fun w w0 w1 => ?_⟩
  have := h (lo + v) (lo + v + w) (by omega) (by omega) (by omega) (by omega)
  have e : pos + 1 + 1 = pos + 2 := by omega
  rw [e]
  have q := rt_ds (p := pos + 2) [] hc this
  rw [List.append_nil] at q
  exact q
/-- a comprehension that draws -/
theorem comp_drawL {row : List Int} {total p0 b : Int} {gs : Sto} {α β : Type} (en : α → S) (fn : β → S) (Q : β → Prop) {g : TGD} {te : TD} {ρ0 : Ev} {k : List S → Sto → Prop} (as : List α)
    (hs : ∀ a, a ∈ as → ∀ p, p0 ≤ p → p ≤ p0 + b * ((as.length : Nat) - 1 : Int) → ∀ R : RK, (∀ (x : β) (q : Int), Q x → p ≤ q → q ≤ p + b → R (fn x) (DS row total q gs)) → g (en a) ρ0 (DS row total p gs) fun ρ1 cs1 => te ρ1 cs1 R) (hb : 0 ≤ b)
    (he : ∀ (xs : List β) (q : Int), xs.length = as.length → (∀ x ∈ xs, Q x) → p0 ≤ q → q ≤ p0 + b * (as.length : Nat) → k (xs.map fn) (DS row total q gs)) : compR okT g dYes te ρ0 k (as.map en) [] (DS row total p0 gs) := by
  have go : ∀ (ls : List α) (xs : List β) (p : Int), (∀ a ∈ ls, a ∈ as) → xs.length + ls.length = as.length → (∀ x ∈ xs, Q x) → p0 ≤ p → p ≤ p0 + b * (xs.length : Nat) → compR okT g dYes te ρ0 k (ls.map en) (xs.map fn) (DS row total p gs) := by
    intro ls
    induction ls with
    | nil =>
      intro xs p _ hl hq h0 h1
      have hl' : xs.length = as.length := by simpa using hl
      exact ⟨trivial, he xs p hl' hq h0 (by rw [← hl']; exact h1)⟩
    | cons a ls ih =>
      intro xs p hm hl hq h0 h1
      rw [List.length_cons] at hl
      refine ⟨trivial, ?_⟩
      have hle : b * (xs.length : Nat) ≤ b * ((as.length : Nat) - 1 : Int) := Int.mul_le_mul_of_nonneg_left (by omega) hb
      have h := hs a (hm a List.mem_cons_self) p h0 (by omega) (fun y cs3 => compR okT g dYes te ρ0 k (ls.map en) (xs.map fn ++ [y]) cs3) fun x q hx g0 g1 => by
        have := ih (xs ++ [x]) q (fun c hc => hm c (List.mem_cons_of_mem _ hc)) (by simp; omega) (fun y hy => by
          rcases List.mem_append.mp hy with z | z
          · exact hq y z
          · have e : y = x := by simpa using z
            rw [e]; exact hx) (by omega) (by
            have : b * (((xs ++ [x]).length : Nat) : Int) = b * (xs.length : Nat) + b := by
              rw [show (((xs ++ [x]).length : Nat) : Int) = (xs.length : Int) + 1 by simp, Int.mul_add, Int.mul_one]
            omega)
        rw [List.map_append] at this
        exact this
      simpa [dYes] using h
  exact go as [] p0 (fun a h => h) (by simp) (fun x hx => by cases hx) (Int.le_refl _) (by simp)
theorem comp_draw {row : List Int} {total p0 b : Int} {gs : Sto} {β : Type} (fn : β → S) (Q : β → Prop) {g : TGD} {te : TD} {ρ0 : Ev} {k : List S → Sto → Prop} {n : Nat}
    (hs : ∀ (i : Nat) p, i < n → p0 ≤ p → p ≤ p0 + b * ((n : Nat) - 1 : Int) → ∀ R : RK, (∀ (x : β) (q : Int), Q x → p ≤ q → q ≤ p + b → R (fn x) (DS row total q gs)) → g (si (i : Nat)) ρ0 (DS row total p gs) fun ρ1 cs1 => te ρ1 cs1 R) (hb : 0 ≤ b)
    (he : ∀ (xs : List β) (q : Int), xs.length = n → (∀ x ∈ xs, Q x) → p0 ≤ q → q ≤ p0 + b * (n : Nat) → k (xs.map fn) (DS row total q gs)) : compR okT g dYes te ρ0 k (rgS 0 n) [] (DS row total p0 gs) := by
  have e : rgS 0 n = (List.range n).map fun i => si (i : Nat) := by
    unfold rgS
    refine List.map_congr_left fun i _ => ?_
    rw [Int.zero_add]
  rw [e]
  refine comp_drawL (fun i : Nat => si (i : Nat)) fn Q _ (fun a ha p h0 h1 R hR => ?_) hb fun xs q hl hq h0 h1 => ?_
  · rw [List.length_range] at h1
    exact hs a p (List.mem_range.mp ha) h0 h1 R hR
  · rw [List.length_range] at hl h1
    exact he xs q hl hq h0 h1
theorem m__law_offset : ∀ xs cs R, xs.length = 2 → Okc cs.length cs → T__law_offset xs cs R → rd__law_offset (endsD cs.length R) (startD 3 xs) cs := by
  rintro xs cs R hl hc ⟨row, total, pos, gs, n, rfl, rfl, D, hp, hn, h⟩
  have p0 := D.p0
  have fin : ∀ o q, (∀ b, o = some b → EOk n 8 b) → pos ≤ q → q ≤ pos + 10 → rtD (DS row total pos gs).length R (.d (oD bxD o)) (DS row total q gs) := fun o q ho g0 g1 => by
    have q := rt_ds (p := q) [] hc (h o q ho g0 g1)
    rw [List.append_nil] at q
    exact q
  unfold rd__law_offset
  refine stp fun T hT => ?_
  unfold T__law_take
  walk_at "fm"
  refine ⟨row, total, pos, gs, rfl, D, by decide, fun v v0 v1 => ⟨fun e => ?_, fun e => ?_⟩⟩
  · exact fin none _ (fun b hb => by cases hb) (by omega) (by omega)
  rw [hT]
  walk_at "fm"
  refine ⟨by omega, by omega, by omega, ?_⟩
  rw [Int.toNat_natCast]
  refine comp_draw (b := 2) (fun w : Int × Int => S.d (spanD w)) (fun w => -8 ≤ w.1 ∧ w.1 ≤ 8 ∧ -8 ≤ w.2 ∧ w.2 ≤ 8) (fun i p hi g0 g1 R hR => ?_) (by decide) fun xs q hl hq g0 g1 => ?_
  · unfold rd__law_offset_e1 T__law_pair
    walk_at "fm"
    exact ⟨row, total, p, gs, rfl, D.next (by omega) (by omega), by omega, by decide, by decide, fun a b h1 h2 h3 h4 => hR (a, b) _ ⟨by omega, by omega, by omega, by omega⟩ (by omega) (by omega)⟩
  · exact ⟨_, datas_fn _ _, fin (some xs) q (fun b hb => by cases hb; exact ⟨hl, hq⟩) (by omega) (by omega)⟩
theorem m__law_row : ∀ xs cs R, xs.length = 3 → Okc cs.length cs → T__law_row xs cs R → rd__law_row (endsD cs.length R) (startD 7 xs) cs := by
  rintro xs cs R hl hc ⟨row, total, pos, gs, n, c, rfl, rfl, D, hp, hn, hc0, h⟩
  have p0 := D.p0
  unfold rd__law_row
  refine stp fun T hT => ?_
  walk_at "fm"
  rw [hT]
  refine stp fun T hT => ?_
  unfold T__law_take
  walk_at "fm"
  simp only [DS_app, DS_len]
  refine ⟨row, total, pos, _, rfl, D, by decide, fun v v0 v1 => ⟨by omega, by omega, ?_⟩⟩
  obtain ⟨m, hm⟩ : ∃ m : Nat, m = v.toNat := ⟨_, rfl⟩
  rw [← hm]
  refine for_rng m (fun k ρ cs' => ∃ (ts : List Tst) (p : Int) (o4 o5 o6 : Option S), ts.length = k ∧ (∀ t ∈ ts, TOk n t) ∧ pos + 1 ≤ p ∧ p ≤ pos + 1 + 4 * (k : Nat) ∧ ρ = [some (.ref 2), some (si (n : Int)), some (si (c : Int)), some (.ref (gs.length + 3)), o4, o5, o6] ∧ cs' = DS row total p (gs ++ [some (ts.map fun t => S.d (testD t))])) ?_ ?_ ⟨[], pos + 1, _, _, _, rfl, by simp, by omega, by omega, rfl, rfl⟩
  · rintro ρ cs' ⟨ts, p, o4, o5, o6, hl, ht, h0, h1, rfl, rfl⟩
    rw [hT]
    unfold T__law_take
    walk_at "fm"
    refine ⟨_, by rw [DS_get, getC_last], _, datas_fn _ _, row, total, p, _, rfl, D.next (by omega) (by omega), by omega, fun w w0 w1 => ?_⟩
    exact rt_ds _ hc (h (ts, w) (p + 1) ⟨by simp only; omega, ht, w0, w1⟩ (by omega) (by omega))
  · rintro k ρ cs' hk ⟨ts, p, o4, o5, o6, hl, ht, h0, h1, rfl, rfl⟩ Z hz
    walk_at "fm"
    unfold rd__law_row_b1
    refine stp fun T hT => ?_
    walk_at "fm"
    refine ⟨by omega, by omega, by omega, ?_⟩
    rw [Int.toNat_natCast]
    refine comp_draw (b := 1) (fun w : Int => si w) (fun w => -2 ≤ w ∧ w ≤ 2) (fun i p hi g0 g1 R hR => ?_) (by decide) fun xs q hl hq g0 g1 => ?_
    · unfold rd__law_row_e1 T__law_take
      walk_at "fm"
      exact ⟨row, total, p, _, rfl, D.next (by omega) (by omega), by decide, fun v v0 v1 => hR _ _ ⟨by omega, by omega⟩ (by omega) (by omega)⟩
    · refine ⟨_, datas_si _, ?_⟩
      rw [hT]
      unfold T__law_take
      walk_at "fm"
      refine ⟨⟨_, by rw [DS_get, getC_last]⟩, row, total, q, _, rfl, D.next (by omega) (by omega), by decide, fun v v0 v1 => ⟨_, by rw [DS_get, getC_last], by rw [List.length_map]; omega, ?_⟩⟩
      refine hz _ _ ⟨ts ++ [(xs, v - 4)], q + 1, _, _, _, by simp; omega, ?_, by omega, by omega, rfl, ?_⟩
      · intro x hx
        rcases List.mem_append.mp hx with z | z
        · exact ht x z
        · have : x = (xs, v - 4) := by simpa using z
          subst this
          exact ⟨hl, fun w hw => by
            have := hq w hw
            unfold B
            exact B.mono (n := 3) (show B 3 w by unfold B; omega) (by decide)⟩
      · rw [DS_set, set_last, List.map_append]
        rfl
end K44

set_option Elab.async false
set_option linter.all false
set_option maxRecDepth 100000
set_option maxHeartbeats 2000000
namespace K44
open PySem L2 FL FR
local macro_rules | `(tactic| walk_at "fl") => `(tactic| simp only [dSeq, dAsg, dgName, dVar, dC, dOp, dUn, dIxK, ixkR, itemsR, dTup, dLst, dCons, dNil, dCall, dCB, dIfS, dIf, dTestR, dTru, dTruR, dRet, dRetN, dNext, dDrop, dAnd, dOr, dNot, dAndV, dOrV, dNotV, dPar, dFor, dRg1, dRg2, dItems, dgTup, dgCons, dgNil, dZip, dZipR, dIsi, isTy, tgOf, tab, dApp, dgSub, dLstM, dVarF, dBreak, dCont, dSl, dSlR, dPart, dNoPart, dLcG, dChain, dAug, dEnum,
  qI, qI0, qNeg, qEq, qNe, qIsN, qNotN, isNone, eqOk, dIxR, cAbs, cInt, cLen, cSum, cMax2, cMin2, cTup, cList, cListM, eqv_ii, eqv_bb, kFro, kMut,
  endsD, sd1, sd2, sd3, getS, getC, datas, List.length_cons, List.length_nil, List.map_cons, List.map_nil, Option.map_some, List.set_cons_zero, List.set_cons_succ, List.replicate_succ, List.replicate_zero, List.getElem?_cons_zero, List.getElem?_cons_succ, List.cons_append, List.nil_append,
  Option.some.injEq, S.d.injEq, S.ref.injEq, PyData.int.injEq, PyData.bool.injEq, PyData.list.injEq, PyData.tuple.injEq, List.cons.injEq, and_true, true_and, exists_eq_left, exists_eq_left', exists_eq_right, exists_and_left, exists_and_right, exists_const, forall_const, imp_self, reduceCtorEq, false_and, and_false, decide_eq_true_eq, decide_eq_false_iff_not, Bool.not_eq_true', Bool.not_eq_false', ne_eq, Classical.not_not, Bool.true_eq_false, Bool.false_eq_true, Nat.reduceAdd, false_implies, true_implies, implies_true, sizeLine_eq, Nat.reduceLeDiff, decide_true, decide_false, Bool.not_true, Bool.not_false, decide_not])
local macro_rules | `(tactic| walk_at "fm") => `(tactic| simp only [rgS_len, wip, dSeq, ixk_l, ixk_t, ixk_r, ixr_l, ixr_t, ixr_s, ixr_r, tru_n, tru_b, tru_i, tru_l, tru_t, tru_s, tru_r, its_l, its_t, its_r, gtup_t, eqk_i, eqk_b, eqk_s, eqk_t, eqk_l, len_l, len_t, len_s, len_r, int_i, int_b, sum_l, sum_r, tup_l, tup_t, tup_r, lis_l, lis_t, lis_r, lim_l, lim_t, lim_r, zip_t, zip_l, sl_l, sl_t, sl_r, dAsg, dgName, dVar, dC, dOp, dUn, dIxK, dTup, dLst, dCons, dNil, dCall, dCB, dIfS, dIf, dTestR, dTru, dRet, dRetN, dNext, dDrop, dAnd, dOr, dNot, dAndV, dOrV, dNotV, dPar, dFor, dRg1, dRg2, dItems, dgCons, dgNil, dZip, dIsi, isTy, tgOf, tab, dApp, dgSub, dLstM, dVarF, dBreak, dCont, dSl, dPart, dNoPart, dLcG, dChain, dAug, dEnum,
  qI, qI0, qNeg, qEq, qNe, qIsN, qNotN, isNone, qIsB, qNotB, isB, addl_i, addl_t, addl_l, cAbs, cMax2, cMin2, eqv_ii, eqv_bb, kFro, kMut,
  endsD, sd1, sd2, sd3, sd4, sd5, dParN, dRep, dEnumT, mx1_l, mx1_r, qEqC, qNeC, qAddC, getS, getC, datas, List.length_cons, List.length_nil, List.map_cons, List.map_nil, Option.map_some, List.set_cons_zero, List.set_cons_succ, List.replicate_succ, List.replicate_zero, List.getElem?_cons_zero, List.getElem?_cons_succ, List.cons_append, List.nil_append,
  Option.some.injEq, S.d.injEq, S.ref.injEq, PyData.int.injEq, PyData.bool.injEq, PyData.list.injEq, PyData.tuple.injEq, List.cons.injEq, and_true, true_and, exists_eq_left, exists_eq_left', exists_eq_right, exists_and_left, exists_and_right, exists_const, exists_eq', exists_eq, ixk_enc0, ixk_enc1, not_true_eq_false, not_false_eq_true, and_self, enc_eq, dOk_enc, dOk_int, eqv_enc, datas_si, datas_map, intsOf_map, and_assoc, List.length_map, List.length_append, forall_const, imp_self, reduceCtorEq, false_and, and_false, decide_eq_true_eq, decide_eq_false_iff_not, Bool.not_eq_true', Bool.not_eq_false', ne_eq, Classical.not_not, Bool.true_eq_false, Bool.false_eq_true, Nat.reduceAdd, false_implies, true_implies, implies_true, sizeLine_eq, Nat.reduceLeDiff, decide_true, decide_false, Bool.not_true, Bool.not_false, decide_not])
theorem getC_app {cs : Sto} {n : Nat} {xs : List S} (hs : Sto) (e : getC cs n = some xs) : getC (cs ++ hs) n = some xs := by
  have := getC_eq e
  refine getC_of ?_
  rw [List.getElem?_append_left (List.getElem?_eq_some_iff.mp this).1]
  exact this
theorem getC_at0 (L : Sto) (x : Option (List S)) (r : Sto) : getC (L ++ x :: r) L.length = x := by
  induction L with
  | nil => rfl
  | cons y L ih => exact ih
theorem set_at0 (L : Sto) (x y : Option (List S)) (r : Sto) : (L ++ x :: r).set L.length y = L ++ y :: r := by simp
theorem len1 (L : Sto) (x : Option (List S)) : (L ++ [x]).length = L.length + 1 := by simp
theorem unit_of {d : PyData} (h : d ∈ [PyData.tuple [.int 1, .int 1], .tuple [.int 1, .int 2], .tuple [.int 3, .int 4]]) : ∃ u, d = spanD u ∧ UnOk u := by
  simp only [List.mem_cons, List.not_mem_nil, or_false] at h
  rcases h with rfl | rfl | rfl
  · exact ⟨(1, 1), rfl, by decide, (by unfold B; decide), (by unfold B; decide)⟩
  · exact ⟨(1, 2), rfl, by decide, (by unfold B; decide), (by unfold B; decide)⟩
  · exact ⟨(3, 4), rfl, by decide, (by unfold B; decide), (by unfold B; decide)⟩
theorem m__law_pilot : ∀ xs cs R, xs.length = 2 → Okc cs.length cs → T__law_pilot xs cs R → rd__law_pilot (endsD cs.length R) (startD 24 xs) cs := by
  rintro xs cs R hl hc ⟨row, total, pos, gs, n, rfl, rfl, D, hp, hn1, hn3, h⟩
  have hp0 := D.p0
  unfold rd__law_pilot
  refine stp fun T hT => ?_
  unfold T__law_take
  walk_at "fm"
  refine ⟨row, total, pos, gs, rfl, D, by decide, fun v1 a1 b1 => ⟨row, total, pos + 1, gs, rfl, D.next (by omega) (by omega), by decide, fun v2 a2 b2 => ⟨row, total, pos + 1 + 1, gs, rfl, D.next (by omega) (by omega), by decide, fun v3 a3 b3 => ?_⟩⟩⟩
  obtain ⟨m, hm⟩ : ∃ m : Nat, 1 + v1 = (m : Int) := ⟨(1 + v1).toNat, by omega⟩
  obtain ⟨c, hcc⟩ : ∃ m : Nat, 1 + v2 = (m : Int) := ⟨(1 + v2).toNat, by omega⟩
  obtain ⟨ps, hps⟩ : ∃ m : Nat, 1 + v3 = (m : Int) := ⟨(1 + v3).toNat, by omega⟩
  rw [hm, hcc, hps]
  have m1 : 1 ≤ m := by omega
  have m4 : m ≤ 4 := by omega
  have c1 : 1 ≤ c := by omega
  have c4 : c ≤ 4 := by omega
  have ps1 : 1 ≤ ps := by omega
  have ps4 : ps ≤ 4 := by omega
  clear hm hcc hps a1 b1 a2 b2 a3 b3
  obtain ⟨q0, hq0⟩ : ∃ q0, pos + 1 + 1 + 1 = q0 := ⟨_, rfl⟩
  rw [hq0, hT]
  -- units
  refine stp fun T hT => ?_
  walk_at "fm"
  refine ⟨by omega, by omega, by omega, ?_⟩
  rw [Int.toNat_natCast]
  refine comp_draw (b := 1) (fun w : Int × Int => S.d (spanD w)) UnOk (fun i p hi g0 g1 R hR => ?_) (by decide) fun units q1 ul uu r1 s1 => ?_
  · unfold rd__law_pilot_e1 T__law_pick
    walk_at "fm"
    refine ⟨row, total, p, _, rfl, D.next (by omega) (by omega), by decide, fun d hd => ?_⟩
    obtain ⟨u, rfl, hu⟩ := unit_of hd
    exact hR u _ hu (by omega) (by omega)
  refine ⟨_, datas_fn _ _, ?_⟩
  rw [hT]
  refine stp fun T hT => ?_
  walk_at "fm"
  rw [hT]
  refine stp fun T hT => ?_
  walk_at "fm"
  simp only [DS_app, DS_len]
  refine ⟨by omega, by omega, ?_⟩
  rw [Int.toNat_natCast]
  -- offsets
  refine for_rng m (fun k ρ cs' => ∃ (offs : List (List (List (Option Bx)))) (q : Int) (o7 o8 : Option S), offs.length = k ∧ (∀ r ∈ offs, CmdOk n m c r) ∧ q1 ≤ q ∧ q ≤ q1 + 160 * (k : Nat) ∧
      ρ = [some (.ref 2), some (si (n : Int)), some (si (m : Int)), some (si (c : Int)), some (si (ps : Int)), some (.d (.tuple (units.map spanD))), some (.ref (gs.length + 3)), o7, o8, none, none, none, none, none, none, none, none, none, none, none, none, none, none, none] ∧
      cs' = DS row total q (gs ++ [some (offs.map fun r => S.d (cmdD r))])) ?_ ?_ ⟨[], q1, _, _, rfl, by simp, by omega, by omega, rfl, rfl⟩
  rotate_left
  · rintro k ρ cs' hk ⟨offs, q, o7, o8, ol, oo, r2, s2, rfl, rfl⟩ Z hz
    walk_at "fm"
    unfold rd__law_pilot_b1
    refine stp fun T hT => ?_
    walk_at "fm"
    refine ⟨by omega, by omega, by omega, ?_⟩
    rw [Int.toNat_natCast]
    refine comp_draw (b := 40) (fun w : List (Option Bx) => S.d (wayD w)) (WayOk n m) (fun i p hi g0 g1 R hR => ?_) (by decide) fun rw_ q2 rl rr r3 s3 => ?_
    · unfold rd__law_pilot_e3
      walk_at "fm"
      refine ⟨by omega, by omega, by omega, ?_⟩
      rw [Int.toNat_natCast]
      refine comp_draw (b := 10) (fun w : Option Bx => S.d (oD bxD w)) (fun o => ∀ b, o = some b → EOk n 8 b) (fun i p2 hi h0 h1 R hR => ?_) (by decide) fun w q2 wl ww r3 s3 => ?_
      · unfold rd__law_pilot_e2 T__law_offset
        walk_at "fm"
        exact ⟨row, total, p2, _, n, rfl, rfl, D.next (by omega) (by omega), by omega, hn3, fun o p3 ho e1 e2 => hR o p3 ho e1 e2⟩
      · exact ⟨_, datas_fn _ _, hR w q2 ⟨wl, ww⟩ (by omega) (by omega)⟩
    · refine ⟨_, datas_fn _ _, ?_⟩
      rw [hT]
      walk_at "fm"
      refine ⟨⟨_, by rw [DS_get, getC_last]⟩, _, by rw [DS_get, getC_last], by rw [List.length_map]; omega, ?_⟩
      refine hz _ _ ⟨offs ++ [rw_], q2, _, _, by simp [ol], ?_, by omega, by omega, rfl, ?_⟩
      · intro x hx
        rcases List.mem_append.mp hx with z | z
        · exact oo x z
        · have : x = rw_ := by simpa using z
          subst this
          exact ⟨rl, rr⟩
      · rw [DS_set, set_last, List.map_append]
        rfl
  rintro ρ cs' ⟨offs, q, o7, o8, ol, oo, r2, s2, rfl, rfl⟩
  simp only
  rw [hT]
  obtain ⟨G1, hG1⟩ : ∃ G1, G1 = gs ++ [some (offs.map fun r => S.d (cmdD r))] := ⟨_, rfl⟩
  have gO : getC G1 gs.length = some (offs.map fun r => S.d (cmdD r)) := by rw [hG1, getC_last]
  rw [← hG1]
  -- reads
  refine stp fun T hT => ?_
  walk_at "fm"
  refine ⟨by omega, by omega, by omega, ?_⟩
  rw [Int.toNat_natCast]
  refine comp_draw (b := 2) (fun w : Int × Int => S.d (spanD w)) (fun w => -8 ≤ w.1 ∧ w.1 ≤ 8 ∧ -8 ≤ w.2 ∧ w.2 ≤ 8) (fun i p hi g0 g1 R hR => ?_) (by decide) fun reads q3 rl rr r3 s3 => ?_
  · unfold rd__law_pilot_e4 T__law_take
    walk_at "fm"
    exact ⟨row, total, p, _, rfl, D.next (by omega) (by omega), by decide, fun v v0 v1 => ⟨row, total, p + 1, _, rfl, D.next (by omega) (by omega), by decide, fun w w0 w1 => hR (v, 1 + w) _ ⟨by omega, by omega, by omega, by omega⟩ (by omega) (by omega)⟩⟩
  refine ⟨_, datas_fn _ _, ?_⟩
  rw [hT]
  refine stp fun T hT => ?_
  walk_at "fm"
  rw [hT]
  refine stp fun T hT => ?_
  walk_at "fm"
  simp only [DS_app, DS_len]
  refine ⟨by omega, by omega, ?_⟩
  rw [Int.toNat_natCast]
  -- tables
  refine for_rng ps (fun k ρ cs' => ∃ (tabs : List (List Tb)) (q : Int) (hs : Sto) (o7 o11 o12 o13 : Option S), tabs.length = k ∧ (∀ ph ∈ tabs, PhOk n m c ph) ∧ q3 ≤ q ∧ q ≤ q3 + 200 * (k : Nat) ∧
      ρ = [some (.ref 2), some (si (n : Int)), some (si (m : Int)), some (si (c : Int)), some (si (ps : Int)), some (.d (.tuple (units.map spanD))), some (.ref (gs.length + 3)), o7, o8, some (.d (.tuple (reads.map spanD))), some (.ref (G1.length + 3)), o11, o12, o13, none, none, none, none, none, none, none, none, none, none] ∧
      cs' = DS row total q (G1 ++ some (tabs.map fun r => S.d (phD r)) :: hs)) ?_ ?_ ⟨[], q3, [], _, _, _, _, rfl, by simp, by omega, by omega, rfl, rfl⟩
  rotate_left
  · rintro k ρ cs' hk ⟨tabs, q, hs, o7, o11, o12, o13, tl, tt, r4, s4, rfl, rfl⟩ Z hz
    walk_at "fm"
    unfold rd__law_pilot_b3
    refine stp fun T hT => ?_
    walk_at "fm"
    rw [hT]
    refine stp fun T hT => ?_
    walk_at "fm"
    simp only [DS_app, DS_len]
    refine ⟨by omega, by omega, ?_⟩
    rw [Int.toNat_natCast]
    obtain ⟨L, hL⟩ : ∃ L, L = G1 ++ some (tabs.map fun r => S.d (phD r)) :: hs := ⟨_, rfl⟩
    rw [← hL]
    refine for_rng m (fun j ρ cs' => ∃ (ph : List Tb) (q' : Int) (hs2 : Sto) (o7 o13 : Option S), ph.length = j ∧ (∀ t ∈ ph, TabOk n c t) ∧ q ≤ q' ∧ q' ≤ q + 50 * (j : Nat) ∧
      ρ = [some (.ref 2), some (si (n : Int)), some (si (m : Int)), some (si (c : Int)), some (si (ps : Int)), some (.d (.tuple (units.map spanD))), some (.ref (gs.length + 3)), o7, o8, some (.d (.tuple (reads.map spanD))), some (.ref (G1.length + 3)), some (si (k : Int)), some (.ref (L.length + 3)), o13, none, none, none, none, none, none, none, none, none, none] ∧
      cs' = DS row total q' (L ++ some (ph.map fun r => S.d (tabD r)) :: hs2)) ?_ ?_ ⟨[], q, [], _, _, rfl, by simp, by omega, by omega, rfl, rfl⟩
    · rintro ρ cs' ⟨ph, q', hs2, o7, o13, pl, pp, r5, s5, rfl, rfl⟩
      rw [hT]
      walk_at "fm"
      subst hL
      refine ⟨⟨_, by rw [DS_get, List.append_assoc, List.cons_append, getC_at0]⟩, _, ⟨by rw [DS_get, getC_at0], _, datas_fn _ _, _, by rw [DS_get, List.append_assoc, List.cons_append, getC_at0], by rw [List.length_map]; omega, ?_⟩⟩
      refine hz _ _ ⟨tabs ++ [ph], q', hs ++ some (ph.map fun r => S.d (tabD r)) :: hs2, _, _, _, _, by simp [tl], ?_, by omega, by omega, rfl, ?_⟩
      · intro x hx
        rcases List.mem_append.mp hx with z | z
        · exact tt x z
        · have : x = ph := by simpa using z
          subst this
          exact ⟨pl, pp⟩
      · rw [DS_set, List.append_assoc, List.cons_append, set_at0, List.map_append]
        rfl
    · rintro j ρ cs' hj ⟨ph, q', hs2, o7, o13, pl, pp, r5, s5, rfl, rfl⟩ Z' hz'
      walk_at "fm"
      obtain ⟨M, hM⟩ : ∃ M, M = L ++ some (ph.map fun r => S.d (tabD r)) :: hs2 := ⟨_, rfl⟩
      rw [← hM]
      unfold rd__law_pilot_b2
      refine stp fun T hT => ?_
      unfold T__law_take
      walk_at "fm"
      refine ⟨row, total, q', _, rfl, D.next (by omega) (by omega), by decide, fun v v0 v1 => ?_⟩
      refine ⟨by omega, by omega, by omega, ?_⟩
      obtain ⟨vn, hvn⟩ : ∃ vn : Nat, vn = v.toNat := ⟨_, rfl⟩
      rw [← hvn]
      refine comp_draw (b := 20) (fun w : List Tst × Int => S.d (rowD testD w)) (RowOk n c) (fun i p hi g0 g1 R hR => ?_) (by decide) fun rows_ q6 wl ww r6 s6 => ?_
      · unfold rd__law_pilot_e5 T__law_row
        walk_at "fm"
        exact ⟨row, total, p, _, n, rfl, c, rfl, rfl, D.next (by omega) (by omega), by omega, hn3, by omega, fun w p hw e1 e2 => hR w p hw e1 e2⟩
      simp only [DS_app, DS_len]
      rw [hT]
      refine stp fun T hT => ?_
      have fin : ∀ (d : EndsD), d.nx = Z' → ∀ (rows : Tb) (q7 : Int), rows.length ≤ 3 → (∀ w ∈ rows, RowOk n c w) → q' ≤ q7 → q7 ≤ q' + 50 → T d
          [some (.ref 2), some (si (n : Int)), some (si (m : Int)), some (si (c : Int)), some (si (ps : Int)), some (.d (.tuple (units.map spanD))), some (.ref (gs.length + 3)), some (si (j : Int)), o8, some (.d (.tuple (reads.map spanD))), some (.ref (G1.length + 3)), some (si (k : Int)), some (.ref (L.length + 3)), some (.ref (M.length + 3)), none, none, none, none, none, none, none, none, none, none]
          (DS row total q7 (M ++ [some (rows.map fun w => S.d (rowD testD w))])) := fun d hd rows q7 z1 z2 z3 z4 => by
        rw [hT]
        have gp : getC (DS row total q7 (M ++ [some (rows.map fun w => S.d (rowD testD w))])) (L.length + 3) = some (ph.map fun r => S.d (tabD r)) := by rw [DS_get, hM, List.append_assoc, List.cons_append, getC_at0]
        walk_at "fm"
        refine ⟨⟨_, gp⟩, _, by rw [DS_get, getC_last], _, datas_fn _ _, _, gp, by rw [List.length_map]; omega, ?_⟩
        rw [hd]
        refine hz' _ _ ⟨ph ++ [rows], q7, hs2 ++ [some (rows.map fun w => S.d (rowD testD w))], _, _, by simp [pl], ?_, by omega, by omega, rfl, ?_⟩
        · intro x hx
          rcases List.mem_append.mp hx with z | z
          · exact pp x z
          · have : x = rows := by simpa using z
            subst this
            exact ⟨by omega, z2⟩
        · rw [DS_set, hM, List.append_assoc, List.cons_append, set_at0, List.map_append]
          rfl
      unfold T__law_take
      walk_at "fm"
      refine ⟨row, total, q6, _, rfl, D.next (by omega) (by omega), by decide, fun x x0 x1 => ⟨fun hx => ?_, fun hx => ?_⟩⟩
      · refine ⟨⟨_, by rw [DS_get, getC_last]⟩, row, total, q6 + 1, _, rfl, D.next (by omega) (by omega), by omega, fun y y0 y1 => ⟨_, by rw [DS_get, getC_last], by rw [List.length_map]; omega, ?_⟩⟩
        rw [DS_set, set_last]
        have key := fun d hd => fin d hd (rows_ ++ [([], y)]) (q6 + 1 + 1) (by simp; omega) (fun w hw => by
          rcases List.mem_append.mp hw with z | z
          · exact ww w z
          · have : w = ([], y) := by simpa using z
            subst this
            exact ⟨by simp, (fun t ht => by cases ht), y0, y1⟩) (by omega) (by omega)
        rw [List.map_append] at key
        exact key ⟨Z', _, _, _⟩ rfl
      · exact fin ⟨Z', _, _, _⟩ rfl rows_ _ (by omega) ww (by omega) (by omega)
  rintro ρ cs' ⟨tabs, q4, hs, o7, o11, o12, o13, tl, tt, r4, s4, rfl, rfl⟩
  simp only
  rw [hT]
  obtain ⟨G2, hG2⟩ : ∃ G2, G2 = G1 ++ some (tabs.map fun r => S.d (phD r)) :: hs := ⟨_, rfl⟩
  have gT : getC G2 G1.length = some (tabs.map fun r => S.d (phD r)) := by rw [hG2, getC_at0]
  have gO2 : getC G2 gs.length = some (offs.map fun r => S.d (cmdD r)) := by rw [hG2]; exact getC_app _ gO
  rw [← hG2]
  refine stp fun T hT => ?_
  walk_at "fm"
  refine ⟨by omega, by omega, by omega, ?_⟩
  rw [Int.toNat_natCast]
  refine comp_draw (b := 8) (fun w : Bx => S.d (bxD w)) (fun E => E.length = n ∧ ∀ w ∈ E, -30 ≤ w.1 ∧ w.1 ≤ -16) (fun i p hi g0 g1 R hR => ?_) (by decide) fun sp1 q5 sl1 ss1 r5 s5 => ?_
  · unfold rd__law_pilot_e7
    walk_at "fm"
    refine ⟨by omega, by omega, by omega, ?_⟩
    rw [Int.toNat_natCast]
    refine comp_draw (b := 2) (fun w : Int × Int => S.d (spanD w)) (fun w => -30 ≤ w.1 ∧ w.1 ≤ -16) (fun i p2 hi h0 h1 R hR => ?_) (by decide) fun w q2 wl ww r3 s3 => ?_
    · unfold rd__law_pilot_e6 T__law_pair
      walk_at "fm"
      exact ⟨row, total, p2, _, rfl, D.next (by omega) (by omega), by omega, by decide, by decide, fun a b h1 h2 h3 h4 => hR (a, b) _ ⟨by omega, by omega⟩ (by omega) (by omega)⟩
    · exact ⟨_, datas_fn _ _, hR w q2 ⟨wl, ww⟩ (by omega) (by omega)⟩
  refine ⟨_, datas_fn _ _, ?_⟩
  rw [hT]
  refine stp fun T hT => ?_
  walk_at "fm"
  rw [map_d]
  refine ⟨by omega, comp_drawL (b := 4) (fun w : Bx => S.d (bxD w)) (fun w : Bx => S.d (bxD w)) (fun E => EOk n 100 E ∧ Rsn E) sp1 (fun E hE p g0 g1 R hR => ?_) (by decide) fun spans q6 sl ss r6 s6 => ?_⟩
  · have hE := ss1 E hE
    have hEl := hE.1
    unfold rd__law_pilot_e9 bxD
    walk_at "fm"
    rw [map_d]
    refine ⟨by omega, comp_drawL (b := 1) (fun w : Int × Int => S.d (spanD w)) (fun w : Int × Int => S.d (spanD w)) (fun w => -30 ≤ w.1 ∧ w.1 ≤ -16 ∧ 12 ≤ w.2 ∧ w.2 ≤ 31) E (fun w hw p2 h0 h1 R hR => ?_) (by decide) fun ws q2 wl ww r3 s3 => ?_⟩
    · have hw' := hE.2 w hw
      unfold rd__law_pilot_e8 T__law_take
      rw [gtup_span]
      walk_at "fm"
      exact ⟨row, total, p2, _, rfl, D.next (by omega) (by omega), by decide, fun v v0 v1 => hR (w.1, 12 + v) _ ⟨hw'.1, hw'.2, by omega, by omega⟩ (by omega) (by omega)⟩
    · refine ⟨_, datas_fn _ _, hR ws q2 ⟨⟨by omega, fun w hw => ?_⟩, fun w hw => ?_⟩ (by omega) (by omega)⟩ <;> (have := ww w hw; omega)
  refine ⟨_, datas_fn _ _, ?_⟩
  rw [hT]
  refine stp fun T hT => ?_
  unfold T__law_take
  walk_at "fm"
  refine ⟨row, total, q6, _, rfl, D.next (by omega) (by omega), by omega, fun v v0 v1 => ?_⟩
  obtain ⟨s, hs'⟩ : ∃ s : Nat, v = (s : Int) := ⟨v.toNat, by omega⟩
  subst hs'
  rw [hT]
  refine stp fun T hT => ?_
  walk_at "fm"
  refine ⟨by omega, by omega, by omega, ?_⟩
  rw [Int.toNat_natCast]
  refine comp_draw (b := 2) (fun w : Int × Int => S.d (spanD w)) (fun w => -20 ≤ w.1 ∧ w.1 ≤ 20 ∧ w.1 ≤ w.2 ∧ w.2 ≤ 20) (fun i p hi g0 g1 R hR => ?_) (by decide) fun E q7 el ee r7 s7 => ?_
  · unfold rd__law_pilot_e10 T__law_pair
    walk_at "fm"
    exact ⟨row, total, p, _, rfl, D.next (by omega) (by omega), by omega, by decide, by decide, fun a b h1 h2 h3 h4 => hR (a, b) _ ⟨by omega, by omega, by omega, by omega⟩ (by omega) (by omega)⟩
  refine ⟨_, datas_fn _ _, ?_⟩
  rw [hT]
  walk_at "fm"
  refine ⟨_, by rw [DS_get]; exact gO2, _, datas_fn _ _, _, by rw [DS_get]; exact gT, _, datas_fn _ _, by omega, by omega, by omega, ?_⟩
  rw [Int.toNat_natCast]
  refine comp_rng (fun q : Nat => S.d (oD bxD (if q = s then some E else none))) (List.range m) (by simp) (fun i hi R hR => ?_) ?_
  · unfold rd__law_pilot_e11
    rw [List.getElem_range] at hR
    walk_at "fm"
    refine ⟨fun e => ?_, fun e => ?_⟩
    · rw [if_pos (by omega)] at hR
      exact hR
    · rw [if_neg (by omega)] at hR
      exact hR
  refine ⟨_, datas_fn _ _, ?_⟩
  have ok : POk n m c ps s E ⟨units, offs, reads, tabs, spans, (List.range m).map fun q => if q = s then some E else none⟩ :=
    { n1 := hn1, n3 := hn3, m1 := m1, m4 := m4, c1 := c1, c4 := c4, p1 := ps1, p4 := ps4, ul := ul, uu := uu, ol := ol, oo := oo, re := ⟨rl, rr⟩, tl := tl, tt := tt, sl := by rw [sl]; exact sl1, ss := ss,
      s0 := by omega, e0 := ⟨el, fun w hw => by have := ee w hw; omega⟩, e1 := fun w hw => (ee w hw).2.2.1, fs := rfl }
  have hh := h m c ps s E _ q7 ok (by omega) (by omega)
  rw [hG2, hG1, List.append_assoc]
  refine rt_ds _ hc ?_
  unfold pilD offsD tabsD at hh
  rw [List.map_map] at hh
  exact hh
end K44

set_option Elab.async false
set_option linter.all false
set_option maxRecDepth 100000
set_option maxHeartbeats 2000000
namespace K44
open PySem L2 FL FR
local macro_rules | `(tactic| walk_at "fl") => `(tactic| simp only [dSeq, dAsg, dgName, dVar, dC, dOp, dUn, dIxK, ixkR, itemsR, dTup, dLst, dCons, dNil, dCall, dCB, dIfS, dIf, dTestR, dTru, dTruR, dRet, dRetN, dNext, dDrop, dAnd, dOr, dNot, dAndV, dOrV, dNotV, dPar, dFor, dRg1, dRg2, dItems, dgTup, dgCons, dgNil, dZip, dZipR, dIsi, isTy, tgOf, tab, dApp, dgSub, dLstM, dVarF, dBreak, dCont, dSl, dSlR, dPart, dNoPart, dLcG, dChain, dAug, dEnum,
  qI, qI0, qNeg, qEq, qNe, qIsN, qNotN, isNone, eqOk, dIxR, cAbs, cInt, cLen, cSum, cMax2, cMin2, cTup, cList, cListM, eqv_ii, eqv_bb, kFro, kMut,
  endsD, sd1, sd2, sd3, getS, getC, datas, List.length_cons, List.length_nil, List.map_cons, List.map_nil, Option.map_some, List.set_cons_zero, List.set_cons_succ, List.replicate_succ, List.replicate_zero, List.getElem?_cons_zero, List.getElem?_cons_succ, List.cons_append, List.nil_append,
  Option.some.injEq, S.d.injEq, S.ref.injEq, PyData.int.injEq, PyData.bool.injEq, PyData.list.injEq, PyData.tuple.injEq, List.cons.injEq, and_true, true_and, exists_eq_left, exists_eq_left', exists_eq_right, exists_and_left, exists_and_right, exists_const, forall_const, imp_self, reduceCtorEq, false_and, and_false, decide_eq_true_eq, decide_eq_false_iff_not, Bool.not_eq_true', Bool.not_eq_false', ne_eq, Classical.not_not, Bool.true_eq_false, Bool.false_eq_true, Nat.reduceAdd, false_implies, true_implies, implies_true, sizeLine_eq, Nat.reduceLeDiff, decide_true, decide_false, Bool.not_true, Bool.not_false, decide_not])
local macro_rules | `(tactic| walk_at "fm") => `(tactic| simp only [rgS_len, wip, dSeq, ixk_l, ixk_t, ixk_r, ixr_l, ixr_t, ixr_s, ixr_r, tru_n, tru_b, tru_i, tru_l, tru_t, tru_s, tru_r, its_l, its_t, its_r, gtup_t, eqk_i, eqk_b, eqk_s, eqk_t, eqk_l, len_l, len_t, len_s, len_r, int_i, int_b, sum_l, sum_r, tup_l, tup_t, tup_r, lis_l, lis_t, lis_r, lim_l, lim_t, lim_r, zip_t, zip_l, sl_l, sl_t, sl_r, dAsg, dgName, dVar, dC, dOp, dUn, dIxK, dTup, dLst, dCons, dNil, dCall, dCB, dIfS, dIf, dTestR, dTru, dRet, dRetN, dNext, dDrop, dAnd, dOr, dNot, dAndV, dOrV, dNotV, dPar, dFor, dRg1, dRg2, dItems, dgCons, dgNil, dZip, dIsi, isTy, tgOf, tab, dApp, dgSub, dLstM, dVarF, dBreak, dCont, dSl, dPart, dNoPart, dLcG, dChain, dAug, dEnum,
  qI, qI0, qNeg, qEq, qNe, qIsN, qNotN, isNone, qIsB, qNotB, isB, addl_i, addl_t, addl_l, cAbs, cMax2, cMin2, eqv_ii, eqv_bb, kFro, kMut,
  endsD, sd1, sd2, sd3, sd4, sd5, dParN, dRep, dEnumT, mx1_l, mx1_r, qEqC, qNeC, qAddC, getS, getC, datas, List.length_cons, List.length_nil, List.map_cons, List.map_nil, Option.map_some, List.set_cons_zero, List.set_cons_succ, List.replicate_succ, List.replicate_zero, List.getElem?_cons_zero, List.getElem?_cons_succ, List.cons_append, List.nil_append,
  Option.some.injEq, S.d.injEq, S.ref.injEq, PyData.int.injEq, PyData.bool.injEq, PyData.list.injEq, PyData.tuple.injEq, List.cons.injEq, and_true, true_and, exists_eq_left, exists_eq_left', exists_eq_right, exists_and_left, exists_and_right, exists_const, exists_eq', exists_eq, ixk_enc0, ixk_enc1, not_true_eq_false, not_false_eq_true, and_self, enc_eq, dOk_enc, dOk_int, eqv_enc, datas_si, datas_map, intsOf_map, and_assoc, List.length_map, List.length_append, forall_const, imp_self, reduceCtorEq, false_and, and_false, decide_eq_true_eq, decide_eq_false_iff_not, Bool.not_eq_true', Bool.not_eq_false', ne_eq, Classical.not_not, Bool.true_eq_false, Bool.false_eq_true, Nat.reduceAdd, false_implies, true_implies, implies_true, sizeLine_eq, Nat.reduceLeDiff, decide_true, decide_false, Bool.not_true, Bool.not_false, decide_not])
theorem gone_getD {E o : Bx} {k : Nat} (h1 : k < E.length) (h2 : k < o.length) : (gone E o).getD k (0, 0) = ((E.getD k (0, 0)).1 + (o.getD k (0, 0)).1, (E.getD k (0, 0)).2 + (o.getD k (0, 0)).2) := by
  unfold gone
  rw [zw_map, List.getD_eq_getElem?_getD, List.getD_eq_getElem?_getD, List.getD_eq_getElem?_getD, List.getElem?_map, List.getElem?_eq_getElem (by rw [List.length_zip]; omega), List.getElem_zip, List.getElem?_eq_getElem h1, List.getElem?_eq_getElem h2]
  rfl
theorem carry_len {n : Nat} : ∀ (l : List Bx) (E : Bx), E.length = n → (∀ o ∈ l, o.length = n) → (l.foldl gone E).length = n
  | [], E, h, _ => h
  | o :: l, E, h, ho => by
    rw [List.foldl_cons]
    refine carry_len l _ ?_ fun x hx => ho x (List.mem_cons_of_mem _ hx)
    unfold gone
    rw [List.length_zipWith, h, ho o List.mem_cons_self]
    omega
theorem cut_drop {α : Type} (xs : List α) (k : Nat) (h : k ≤ xs.length) : cutD xs (some (k : Int)) none = xs.drop k := by
  have e : HT.sIx xs.length 0 (some (k : Int)) = k := by
    unfold HT.sIx
    simp
    split <;> omega
  have e0 : HT.sIx xs.length xs.length none = xs.length := rfl
  unfold cutD
  rw [e, e0, List.take_of_length_le (by rw [List.length_drop]; omega)]
def lowk (sh : List Bx) (k : Nat) (s : Src) : Int := ((carry s sh).getD k (0, 0)).1
def hik (sh : List Bx) (k : Nat) (s : Src) : Int := ((carry s sh).getD k (0, 0)).2
theorem m__law_known : ∀ xs cs R, xs.length = 3 → Okc cs.length cs → T__law_known xs cs R → rd__law_known (endsD cs.length R) (startD 12 xs) cs := by
  rintro xs cs R hl hc ⟨a, b, n, srcs, sh, rfl, ha, hb, ⟨k1, k2, k3, k4, k5⟩, hn, h⟩
  unfold rd__law_known
  refine stp fun T hT => ?_
  walk_at "fm"
  rw [hT]
  refine stp fun T hT => ?_
  walk_at "fm"
  refine ⟨by omega, by omega, ?_⟩
  rw [Int.toNat_natCast]
  refine for_rng n (fun k ρ cs' => ∃ (hs : Sto) (o4 o5 o6 o7 o8 o9 o10 o11 : Option S), cs' = cs ++ some (((List.range k).map fun k => (maxL (srcs.map (lowk sh k)), minL (srcs.map (hik sh k)))).map fun w => S.d (spanD w)) :: hs ∧
      ρ = [some (.ref a), some (.ref b), some (si (n : Int)), some (.ref cs.length), o4, o5, o6, o7, o8, o9, o10, o11]) ?_ ?_ ⟨[], _, _, _, _, _, _, _, _, rfl, rfl⟩
  · rintro ρ cs' ⟨hs, o4, o5, o6, o7, o8, o9, o10, o11, rfl, rfl⟩
    rw [hT]
    walk_at "fm"
    exact ⟨_, getC_at0 _ _ _, _, datas_fn _ _, rt_g _ hc h⟩
  · rintro k ρ cs' hk ⟨hs, o4, o5, o6, o7, o8, o9, o10, o11, rfl, rfl⟩ Z hz
    obtain ⟨bx, hbx⟩ : ∃ bx : Bx, bx = (List.range k).map fun k => (maxL (srcs.map (lowk sh k)), minL (srcs.map (hik sh k))) := ⟨_, rfl⟩
    rw [← hbx]
    have bl : bx.length = k := by rw [hbx]; simp
    obtain ⟨C, hC⟩ : ∃ C, C = cs ++ some (bx.map fun w => S.d (spanD w)) :: hs := ⟨_, rfl⟩
    have gA : ∀ ls, getC (C ++ ls) a = some (srcs.map fun s => S.d (srcD s)) := fun ls => by rw [hC, List.append_assoc]; exact getC_app _ ha
    have gB : ∀ ls, getC (C ++ ls) b = some ((sh.map bxD).map S.d) := fun ls => by rw [hC, List.append_assoc, map_d]; exact getC_app _ hb
    rw [← hC]
    walk_at "fm"
    unfold rd__law_known_b3
    refine stp fun T hT => ?_
    walk_at "fm"
    rw [hT]
    refine stp fun T hT => ?_
    walk_at "fm"
    rw [List.append_assoc, List.cons_append, List.nil_append]
    refine ⟨_, gA _, ?_⟩
    refine for_all (fun s => S.d (srcD s)) (fun as ρ cs' => ∃ (done : List Src) (o7 o8 o9 o10 o11 : Option S), done ++ as = srcs ∧ cs' = C ++ [some ((done.map (lowk sh k)).map si), some ((done.map (hik sh k)).map si)] ∧
      ρ = [some (.ref a), some (.ref b), some (si (n : Int)), some (.ref cs.length), some (si (k : Int)), some (.ref C.length), some (.ref (C.length + 1)), o7, o8, o9, o10, o11]) ?_ ?_ ?_ srcs _ _ ⟨[], _, _, _, _, _, rfl, rfl, rfl⟩
    · rintro as ρ cs' ⟨done, o7, o8, o9, o10, o11, _, rfl, _⟩
      exact gA _
    · rintro ρ cs' ⟨done, o7, o8, o9, o10, o11, e, rfl, rfl⟩
      rw [List.append_nil] at e
      subst e
      have gl : ∀ x y, getC (C ++ [x, y]) (C.length + 1) = y := fun x y => by
        have := getC_at0 (C ++ [x]) y []
        rw [List.append_assoc, len1] at this
        exact this
      have pos : 0 < done.length := List.length_pos_iff.mpr k1
      have di : ∀ l : List Int, l.map si = (l.map PyData.int).map S.d := fun l => by rw [List.map_map]; rfl
      have gF : ∀ ls, getC (C ++ ls) cs.length = some (bx.map fun w => S.d (spanD w)) := fun ls => by rw [hC, List.append_assoc, List.cons_append, getC_at0]
      rw [hT]
      walk_at "fm"
      refine ⟨⟨_, gF _⟩, _, by rw [getC_at0, di], _, intsOf_map _, by rw [List.length_map]; exact pos, _, by rw [gl, di], _, intsOf_map _, by rw [List.length_map]; exact pos, _, gF _, by rw [List.length_map]; omega, ?_⟩
      rw [hC, List.append_assoc, List.cons_append, set_at0]
      refine hz _ _ ⟨hs ++ [some ((done.map (lowk sh k)).map si), some ((done.map (hik sh k)).map si)], _, _, _, _, _, _, _, _, ?_, rfl⟩
      rw [List.range_succ, List.map_append, ← hbx, List.map_append]
      rfl
    · rintro s as ρ cs' ⟨done, o7, o8, o9, o10, o11, e, rfl, rfl⟩ Z' hz'
      have hsm : s ∈ srcs := by rw [← e]; simp
      obtain ⟨h1, h2⟩ := k4 s hsm
      have hdl : done.length < 20 := by
        have := congrArg List.length e
        rw [List.length_append, List.length_cons] at this
        omega
      obtain ⟨t, box⟩ := s
      simp only at h1 h2
      unfold srcD
      walk_at "fm"
      unfold rd__law_known_b2
      refine stp fun T hT => ?_
      unfold bxD
      walk_at "fm"
      refine ⟨_, atI_getD spanD (0, 0) (by omega), ?_⟩
      rw [gtup_span]
      walk_at "fm"
      rw [hT]
      refine stp fun T hT => ?_
      walk_at "fm"
      refine ⟨_, gB _, ?_⟩
      rw [cut_drop _ _ (by rw [List.length_map]; exact h1), ← List.map_drop, map_d]
      have hd : ∀ o ∈ sh.drop t, o.length = n := fun o ho => k5 o (List.mem_of_mem_drop ho)
      refine for_all (fun o => S.d (bxD o)) (fun os ρ cs' => ∃ (dn : List Bx) (o11 : Option S), dn ++ os = sh.drop t ∧ cs' = C ++ [some ((done.map (lowk sh k)).map si), some ((done.map (hik sh k)).map si)] ∧
        ρ = [some (.ref a), some (.ref b), some (si (n : Int)), some (.ref cs.length), some (si (k : Int)), some (.ref C.length), some (.ref (C.length + 1)), some (si (t : Int)), some (.d (.tuple (box.map spanD))), some (si ((dn.foldl gone box).getD k (0, 0)).1), some (si ((dn.foldl gone box).getD k (0, 0)).2), o11]) (fun _ _ _ _ => trivial) ?_ ?_ (sh.drop t) _ _ ⟨[], _, rfl, rfl, rfl⟩
      · rintro ρ cs' ⟨dn, o11, e2, rfl, rfl⟩
        rw [List.append_nil] at e2
        subst e2
        have gl : ∀ x y, getC (C ++ [x, y]) (C.length + 1) = y := fun x y => by
          have := getC_at0 (C ++ [x]) y []
          rw [List.append_assoc, len1] at this
          exact this
        have sl : ∀ x y z, (C ++ [x, y]).set (C.length + 1) z = C ++ [x, z] := fun x y z => by
          have := set_at0 (C ++ [x]) y z []
          rw [List.append_assoc, List.append_assoc, len1] at this
          exact this
        rw [hT]
        simp only
        refine stp fun T hT => ?_
        walk_at "fm"
        refine ⟨⟨_, getC_at0 _ _ _⟩, _, getC_at0 _ _ _, by rw [List.length_map, List.length_map]; omega, ?_⟩
        rw [set_at0, hT]
        walk_at "fm"
        refine ⟨⟨_, gl _ _⟩, _, gl _ _, by rw [List.length_map, List.length_map]; omega, ?_⟩
        rw [sl]
        refine hz' _ _ ⟨done ++ [(t, box)], _, _, _, _, _, by rw [List.append_assoc]; exact e, ?_, rfl⟩
        rw [List.map_append, List.map_append, List.map_append, List.map_append]
        rfl
      · rintro o os ρ cs' ⟨dn, o11, e2, rfl, rfl⟩ Z2 hz2
        have hom : o ∈ sh.drop t := by rw [← e2]; simp
        have hol := hd o hom
        have cl : (dn.foldl gone box).length = n := carry_len dn box h2 fun x hx => hd x (by rw [← e2]; simp [hx])
        have gg := gone_getD (E := dn.foldl gone box) (o := o) (k := k) (by omega) (by omega)
        unfold bxD
        walk_at "fm"
        unfold rd__law_known_b1
        refine stp fun T hT => ?_
        walk_at "fm"
        refine ⟨_, atI_getD spanD (0, 0) (by omega), ?_⟩
        unfold spanD
        walk_at "fm"
        rw [hT]
        walk_at "fm"
        refine ⟨_, atI_getD spanD (0, 0) (by omega), ?_⟩
        unfold spanD
        walk_at "fm"
        have e3 : (dn ++ [o]).foldl gone box = gone (dn.foldl gone box) o := by rw [List.foldl_append]; rfl
        refine hz2 _ _ ⟨dn ++ [o], some (S.d (bxD o)), by rw [List.append_assoc]; exact e2, rfl, ?_⟩
        rw [e3, gg]
        rfl
end K44

set_option Elab.async false
set_option linter.all false
set_option maxRecDepth 100000
set_option maxHeartbeats 2000000
namespace K44
open PySem L2 FL FR
local macro_rules | `(tactic| walk_at "fl") => `(tactic| simp only [dSeq, dAsg, dgName, dVar, dC, dOp, dUn, dIxK, ixkR, itemsR, dTup, dLst, dCons, dNil, dCall, dCB, dIfS, dIf, dTestR, dTru, dTruR, dRet, dRetN, dNext, dDrop, dAnd, dOr, dNot, dAndV, dOrV, dNotV, dPar, dFor, dRg1, dRg2, dItems, dgTup, dgCons, dgNil, dZip, dZipR, dIsi, isTy, tgOf, tab, dApp, dgSub, dLstM, dVarF, dBreak, dCont, dSl, dSlR, dPart, dNoPart, dLcG, dChain, dAug, dEnum,
  qI, qI0, qNeg, qEq, qNe, qIsN, qNotN, isNone, eqOk, dIxR, cAbs, cInt, cLen, cSum, cMax2, cMin2, cTup, cList, cListM, eqv_ii, eqv_bb, kFro, kMut,
  endsD, sd1, sd2, sd3, getS, getC, datas, List.length_cons, List.length_nil, List.map_cons, List.map_nil, Option.map_some, List.set_cons_zero, List.set_cons_succ, List.replicate_succ, List.replicate_zero, List.getElem?_cons_zero, List.getElem?_cons_succ, List.cons_append, List.nil_append,
  Option.some.injEq, S.d.injEq, S.ref.injEq, PyData.int.injEq, PyData.bool.injEq, PyData.list.injEq, PyData.tuple.injEq, List.cons.injEq, and_true, true_and, exists_eq_left, exists_eq_left', exists_eq_right, exists_and_left, exists_and_right, exists_const, forall_const, imp_self, reduceCtorEq, false_and, and_false, decide_eq_true_eq, decide_eq_false_iff_not, Bool.not_eq_true', Bool.not_eq_false', ne_eq, Classical.not_not, Bool.true_eq_false, Bool.false_eq_true, Nat.reduceAdd, false_implies, true_implies, implies_true, sizeLine_eq, Nat.reduceLeDiff, decide_true, decide_false, Bool.not_true, Bool.not_false, decide_not])
local macro_rules | `(tactic| walk_at "fm") => `(tactic| simp only [rgS_len, wip, dSeq, ixk_l, ixk_t, ixk_r, ixr_l, ixr_t, ixr_s, ixr_r, tru_n, tru_b, tru_i, tru_l, tru_t, tru_s, tru_r, its_l, its_t, its_r, gtup_t, eqk_i, eqk_b, eqk_s, eqk_t, eqk_l, len_l, len_t, len_s, len_r, int_i, int_b, sum_l, sum_r, tup_l, tup_t, tup_r, lis_l, lis_t, lis_r, lim_l, lim_t, lim_r, zip_t, zip_l, sl_l, sl_t, sl_r, dAsg, dgName, dVar, dC, dOp, dUn, dIxK, dTup, dLst, dCons, dNil, dCall, dCB, dIfS, dIf, dTestR, dTru, dRet, dRetN, dNext, dDrop, dAnd, dOr, dNot, dAndV, dOrV, dNotV, dPar, dFor, dRg1, dRg2, dItems, dgCons, dgNil, dZip, dIsi, isTy, tgOf, tab, dApp, dgSub, dLstM, dVarF, dBreak, dCont, dSl, dPart, dNoPart, dLcG, dChain, dAug, dEnum,
  qI, qI0, qNeg, qEq, qNe, qIsN, qNotN, isNone, qIsB, qNotB, isB, addl_i, addl_t, addl_l, cAbs, cMax2, cMin2, eqv_ii, eqv_bb, kFro, kMut,
  endsD, sd1, sd2, sd3, sd4, sd5, dParN, dRep, dEnumT, mx1_l, mx1_r, qEqC, qNeC, qAddC, getS, getC, datas, List.length_cons, List.length_nil, List.map_cons, List.map_nil, Option.map_some, List.set_cons_zero, List.set_cons_succ, List.replicate_succ, List.replicate_zero, List.getElem?_cons_zero, List.getElem?_cons_succ, List.cons_append, List.nil_append,
  Option.some.injEq, S.d.injEq, S.ref.injEq, PyData.int.injEq, PyData.bool.injEq, PyData.list.injEq, PyData.tuple.injEq, List.cons.injEq, and_true, true_and, exists_eq_left, exists_eq_left', exists_eq_right, exists_and_left, exists_and_right, exists_const, exists_eq', exists_eq, ixk_enc0, ixk_enc1, not_true_eq_false, not_false_eq_true, and_self, enc_eq, dOk_enc, dOk_int, eqv_enc, datas_si, datas_map, intsOf_map, and_assoc, List.length_map, List.length_append, forall_const, imp_self, reduceCtorEq, false_and, and_false, decide_eq_true_eq, decide_eq_false_iff_not, Bool.not_eq_true', Bool.not_eq_false', ne_eq, Classical.not_not, Bool.true_eq_false, Bool.false_eq_true, Nat.reduceAdd, false_implies, true_implies, implies_true, sizeLine_eq, Nat.reduceLeDiff, decide_true, decide_false, Bool.not_true, Bool.not_false, decide_not])
def term (f : Int) (w : Int × Int) : Int := if f * w.2 < f * w.1 then f * w.2 else f * w.1
theorem sum_take {L : List Int} {k : Nat} (h : k < L.length) : (L.take (k + 1)).sum = (L.take k).sum + L[k] := by
  rw [List.take_succ, List.getElem?_eq_getElem h, List.sum_append]
  simp
theorem m__law_command : ∀ xs cs R, xs.length = 2 → Okc cs.length cs → T__law_command xs cs R → rd__law_command (endsD cs.length R) (startD 9 xs) cs := by
  rintro xs cs R hl hc ⟨n, ws, tb, rfl, ht, hw, hn, h⟩
  unfold rd__law_command tabD bxD
  walk_at "fm"
  rw [map_d]
  refine for_all (fun w => S.d (rowD testD w)) (fun as ρ cs' => cs' = cs ∧ firstD ws as = firstD ws tb ∧ (∀ w ∈ as, ∀ t ∈ w.1, TOk n t) ∧ ∃ o0 o2 o3 o4 o5 o6 o7 o8, ρ = [o0, some (.d (.tuple (ws.map spanD))), o2, o3, o4, o5, o6, o7, o8]) (fun _ _ _ _ => trivial) ?_ ?_ tb _ _ ⟨rfl, rfl, ht, _, _, _, _, _, _, _, _, rfl⟩
  · rintro ρ cs' ⟨rfl, e, _, o0, o2, o3, o4, o5, o6, o7, o8, rfl⟩
    walk_at "fm"
    rw [← e] at h
    exact rt_l h
  · rintro ⟨ts, cm⟩ as ρ cs' ⟨rfl, e, ht, o0, o2, o3, o4, o5, o6, o7, o8, rfl⟩ Z hz
    have htk := ht _ List.mem_cons_self
    simp only at htk
    rw [firstD_c] at e
    unfold rowD
    walk_at "fm"
    unfold rd__law_command_b3
    refine stp fun T hT => ?_
    walk_at "fm"
    rw [hT]
    refine stp fun T hT => ?_
    walk_at "fm"
    rw [map_d]
    refine for_all (fun t => S.d (testD t)) (fun as' ρ cs'' => cs'' = cs' ∧ ∃ (done : List Tst) (f : Int) (o2 o5 o6 o7 o8 : Option S), done ++ as' = ts ∧ 0 ≤ f ∧ (f = 0 ↔ done.all (holds ws) = true) ∧ ρ = [o0, some (.d (.tuple (ws.map spanD))), o2, some (si cm), some (si f), o5, o6, o7, o8]) (fun _ _ _ _ => trivial) ?_ ?_ ts _ _ ⟨rfl, [], 0, _, _, _, _, _, rfl, by omega, by simp, rfl⟩
    · rintro ρ cs'' ⟨rfl, done, f, o2, o5, o6, o7, o8, e2, f0, f1, rfl⟩
      rw [List.append_nil] at e2
      subst e2
      rw [hT]
      walk_at "fm"
      refine ⟨fun q => ?_, fun q => hz _ _ ⟨rfl, ?_, fun x hx => ht x (List.mem_cons_of_mem _ hx), _, _, _, _, _, _, _, _, rfl⟩⟩
      · rw [if_pos (f1.mp q)] at e
        rw [← e] at h
        exact rt_l h
      · rw [if_neg (fun z => q (f1.mpr z))] at e
        exact e
    · rintro ⟨fs, rest⟩ as' ρ cs'' ⟨rfl, done, f, o2, o5, o6, o7, o8, e2, f0, f1, rfl⟩ Z' hz'
      have htt := htk (fs, rest) (by rw [← e2]; simp)
      have l1 : fs.length = n := htt.1
      have l2 := hw.1
      have hf : ∀ v ∈ fs, B 9000 v := htt.2
      unfold testD
      walk_at "fm"
      unfold rd__law_command_b2
      refine stp fun T hT => ?_
      walk_at "fm"
      rw [hT]
      refine stp fun T hT => ?_
      walk_at "fm"
      refine ⟨by omega, by omega, ?_⟩
      rw [Int.toNat_natCast, l2]
      obtain ⟨L, hL⟩ : ∃ L, L = List.zipWith term fs ws := ⟨_, rfl⟩
      have lL : L.length = n := by rw [hL, List.length_zipWith]; omega
      have gL : ∀ (k : Nat) (h : k < L.length) (h1 : k < fs.length) (h2 : k < ws.length), L[k] = term fs[k] ws[k] := fun k _ _ _ => by
        subst hL
        exact List.getElem_zipWith
      refine for_rng n (fun k ρ cs''' => cs''' = cs'' ∧ ∃ (o8 : Option S), ρ = [o0, some (.d (.tuple (ws.map spanD))), o2, some (si cm), some (si f), some (.d (.tuple (fs.map PyData.int))), some (si rest), some (si (rest + (L.take k).sum)), o8]) ?_ ?_ ⟨rfl, _, by rw [List.take_zero, List.sum_nil, Int.add_zero]⟩
      · rintro ρ cs''' ⟨rfl, o8, rfl⟩
        rw [hT]
        have el : rest + (L.take n).sum = least (fs, rest) ws := by
          rw [List.take_of_length_le (by omega), hL]
          rfl
        rw [el]
        walk_at "fm"
        refine hz' _ _ ⟨rfl, done ++ [(fs, rest)], _, _, _, _, _, _, by rw [List.append_assoc]; exact e2, ?_, ?_, rfl⟩
        · split <;> omega
        · rw [List.all_append, Bool.and_eq_true, ← f1]
          have : [(fs, rest)].all (holds ws) = decide (0 ≤ least (fs, rest) ws) := by simp [holds]
          rw [this]
          by_cases q : least (fs, rest) ws < 0
          · rw [if_pos q, decide_eq_false (by omega)]
            constructor
            · intro z; omega
            · rintro ⟨_, z⟩; cases z
          · rw [if_neg q, decide_eq_true (by omega)]
            constructor
            · intro z; exact ⟨by omega, rfl⟩
            · rintro ⟨z, _⟩; omega
      · rintro k ρ cs''' hk ⟨rfl, o8, rfl⟩ Z2 hz2
        have k1 : k < fs.length := by omega
        have k2 : k < ws.length := by omega
        have kL : k < L.length := by omega
        have hfk := hf _ (List.getElem_mem k1)
        have hwk := hw.2 _ (List.getElem_mem k2)
        walk_at "fm"
        unfold rd__law_command_b1
        walk_at "fm"
        refine ⟨_, atI_map PyData.int k1, _, atI_map spanD k2, ?_⟩
        unfold spanD
        walk_at "fm"
        refine ⟨hfk.cm hwk.2.1, _, atI_map PyData.int k1, _, atI_map (fun w : Int × Int => PyData.tuple [.int w.1, .int w.2]) k2, ?_⟩
        walk_at "fm"
        refine ⟨hfk.cm hwk.2.2, hz2 _ _ ⟨rfl, some (si (k : Int)), ?_⟩⟩
        rw [sum_take kL, gL k kL k1 k2, Int.add_assoc]
        rfl
end K44

set_option Elab.async false
set_option linter.all false
set_option maxRecDepth 100000
set_option maxHeartbeats 2000000
namespace K44
open PySem L2 FL FR
local macro_rules | `(tactic| walk_at "fl") => `(tactic| simp only [dSeq, dAsg, dgName, dVar, dC, dOp, dUn, dIxK, ixkR, itemsR, dTup, dLst, dCons, dNil, dCall, dCB, dIfS, dIf, dTestR, dTru, dTruR, dRet, dRetN, dNext, dDrop, dAnd, dOr, dNot, dAndV, dOrV, dNotV, dPar, dFor, dRg1, dRg2, dItems, dgTup, dgCons, dgNil, dZip, dZipR, dIsi, isTy, tgOf, tab, dApp, dgSub, dLstM, dVarF, dBreak, dCont, dSl, dSlR, dPart, dNoPart, dLcG, dChain, dAug, dEnum,
  qI, qI0, qNeg, qEq, qNe, qIsN, qNotN, isNone, eqOk, dIxR, cAbs, cInt, cLen, cSum, cMax2, cMin2, cTup, cList, cListM, eqv_ii, eqv_bb, kFro, kMut,
  endsD, sd1, sd2, sd3, getS, getC, datas, List.length_cons, List.length_nil, List.map_cons, List.map_nil, Option.map_some, List.set_cons_zero, List.set_cons_succ, List.replicate_succ, List.replicate_zero, List.getElem?_cons_zero, List.getElem?_cons_succ, List.cons_append, List.nil_append,
  Option.some.injEq, S.d.injEq, S.ref.injEq, PyData.int.injEq, PyData.bool.injEq, PyData.list.injEq, PyData.tuple.injEq, List.cons.injEq, and_true, true_and, exists_eq_left, exists_eq_left', exists_eq_right, exists_and_left, exists_and_right, exists_const, forall_const, imp_self, reduceCtorEq, false_and, and_false, decide_eq_true_eq, decide_eq_false_iff_not, Bool.not_eq_true', Bool.not_eq_false', ne_eq, Classical.not_not, Bool.true_eq_false, Bool.false_eq_true, Nat.reduceAdd, false_implies, true_implies, implies_true, sizeLine_eq, Nat.reduceLeDiff, decide_true, decide_false, Bool.not_true, Bool.not_false, decide_not])
local macro_rules | `(tactic| walk_at "fm") => `(tactic| simp only [rgS_len, wip, dSeq, ixk_l, ixk_t, ixk_r, ixr_l, ixr_t, ixr_s, ixr_r, tru_n, tru_b, tru_i, tru_l, tru_t, tru_s, tru_r, its_l, its_t, its_r, gtup_t, eqk_i, eqk_b, eqk_s, eqk_t, eqk_l, len_l, len_t, len_s, len_r, int_i, int_b, sum_l, sum_r, tup_l, tup_t, tup_r, lis_l, lis_t, lis_r, lim_l, lim_t, lim_r, zip_t, zip_l, sl_l, sl_t, sl_r, dAsg, dgName, dVar, dC, dOp, dUn, dIxK, dTup, dLst, dCons, dNil, dCall, dCB, dIfS, dIf, dTestR, dTru, dRet, dRetN, dNext, dDrop, dAnd, dOr, dNot, dAndV, dOrV, dNotV, dPar, dFor, dRg1, dRg2, dItems, dgCons, dgNil, dZip, dIsi, isTy, tgOf, tab, dApp, dgSub, dLstM, dVarF, dBreak, dCont, dSl, dPart, dNoPart, dLcG, dChain, dAug, dEnum,
  qI, qI0, qNeg, qEq, qNe, qIsN, qNotN, isNone, qIsB, qNotB, isB, addl_i, addl_t, addl_l, cAbs, cMax2, cMin2, eqv_ii, eqv_bb, kFro, kMut,
  endsD, sd1, sd2, sd3, sd4, sd5, dParN, dRep, dEnumT, mx1_l, mx1_r, qEqC, qNeC, qAddC, getS, getC, datas, List.length_cons, List.length_nil, List.map_cons, List.map_nil, Option.map_some, List.set_cons_zero, List.set_cons_succ, List.replicate_succ, List.replicate_zero, List.getElem?_cons_zero, List.getElem?_cons_succ, List.cons_append, List.nil_append,
  Option.some.injEq, S.d.injEq, S.ref.injEq, PyData.int.injEq, PyData.bool.injEq, PyData.list.injEq, PyData.tuple.injEq, List.cons.injEq, and_true, true_and, exists_eq_left, exists_eq_left', exists_eq_right, exists_and_left, exists_and_right, exists_const, exists_eq', exists_eq, ixk_enc0, ixk_enc1, not_true_eq_false, not_false_eq_true, and_self, enc_eq, dOk_enc, dOk_int, eqv_enc, datas_si, datas_map, intsOf_map, and_assoc, List.length_map, List.length_append, forall_const, imp_self, reduceCtorEq, false_and, and_false, decide_eq_true_eq, decide_eq_false_iff_not, Bool.not_eq_true', Bool.not_eq_false', ne_eq, Classical.not_not, Bool.true_eq_false, Bool.false_eq_true, Nat.reduceAdd, false_implies, true_implies, implies_true, sizeLine_eq, Nat.reduceLeDiff, decide_true, decide_false, Bool.not_true, Bool.not_false, decide_not])
theorem ixN_at {n : Nat} {v : Int} (h0 : 0 ≤ v) (h1 : v < (n : Int)) : ixN n v = some v.toNat := by
  unfold ixN
  rw [if_pos h0, if_pos h1]
theorem m__law_readings : ∀ xs cs R, xs.length = 3 → Okc cs.length cs → T__law_readings xs cs R → rd__law_readings (endsD cs.length R) (startD 7 xs) cs := by
  rintro xs cs R hl hc ⟨row, total, pos, gs, n, E, x, M, rfl, rfl, D, hp, hE, hn1, hn3, hM, h⟩
  have p0 := D.p0
  have fin : ∀ rs q hs, ROk n (M + 1100) rs → pos ≤ q → q ≤ pos + 20 → rtD (DS row total pos gs).length R (.d (rdD rs)) (DS row total q (gs ++ hs)) := fun rs q hs hr g0 g1 => rt_ds hs hc (h rs q hr g0 g1)
  unfold rd__law_readings
  refine stp fun T hT => ?_
  unfold T__law_take
  walk_at "fm"
  refine ⟨row, total, pos, gs, rfl, D, by decide, fun way w0 w1 => ?_⟩
  rw [hT]
  refine stp fun T hT => ?_
  walk_at "fm"
  refine ⟨fun _ => ?_, fun _ => ?_⟩
  · have := fin none (pos + 1) [] (fun r hr => by cases hr) (by omega) (by omega)
    rw [List.append_nil] at this
    exact this
  rw [hT]
  refine stp fun T hT => ?_
  walk_at "fm"
  rw [hT]
  refine stp fun T hT => ?_
  unfold bxD
  walk_at "fm"
  rw [map_d]
  simp only [DS_app, DS_len]
  refine for_all (fun w => S.d (spanD w)) (fun as ρ cs' => ∃ (rs : List Int) (q : Int) (o5 o6 : Option S), rs.length + as.length = n ∧ (∀ w ∈ as, w ∈ E) ∧ (∀ v ∈ rs, -(M + 1100) ≤ v ∧ v ≤ M + 1100) ∧ pos + 1 ≤ q ∧ q ≤ pos + 1 + (rs.length : Nat) ∧ cs' = DS row total q (gs ++ [some (rs.map si)]) ∧
      ρ = [some (.ref 2), some (.d x), some (.d (.tuple (E.map spanD))), some (si way), some (.ref (gs.length + 3)), o5, o6]) (fun _ _ _ _ => trivial) ?_ ?_ E _ _ ⟨[], pos + 1, _, _, by simp [hE.1], fun w h => h, by simp, by omega, by simp, rfl, rfl⟩
  · rintro ρ cs' ⟨rs, q, o5, o6, rl, _, hr, g0, g1, rfl, rfl⟩
    have rl' : rs.length = n := by simpa using rl
    rw [hT]
    simp only
    refine stp fun T hT => ?_
    unfold T__law_pick T__law_take
    walk_at "fm"
    refine ⟨fun _ => ?_, fun _ => ?_⟩
    · refine ⟨row, total, q, _, rfl, D.next (by omega) (by omega), by decide, fun d hd => ⟨_, by rw [DS_get, getC_last], row, total, q + 1, _, rfl, D.next (by omega) (by omega), by rw [List.length_map]; omega, fun v v0 v1 => ?_⟩⟩
      rw [List.length_map] at v1
      refine ⟨_, _, by rw [DS_get, getC_last], by rw [List.length_map]; exact ixN_at v0 v1, ?_⟩
      obtain ⟨y, rfl, yb⟩ : ∃ y, d = .int y ∧ -(M + 1100) ≤ y ∧ y ≤ M + 1100 := by
        simp only [List.mem_cons, List.not_mem_nil, or_false] at hd
        rcases hd with rfl | rfl
        · exact ⟨90, rfl, by omega, by omega⟩
        · exact ⟨-90, rfl, by omega, by omega⟩
      have es : (rs.map si).set v.toNat (.d (.int y)) = (rs.set v.toNat y).map si := (List.map_set).symm
      rw [DS_set, set_last, hT, es]
      walk_at "fm"
      refine ⟨_, by rw [DS_get, getC_last], _, datas_si _, ?_⟩
      refine fin (some (rs.set v.toNat y)) _ _ (fun r hr2 => ?_) (by omega) (by omega)
      cases hr2
      refine ⟨by rw [List.length_set]; exact rl', fun u hu => ?_⟩
      rcases List.mem_or_eq_of_mem_set hu with z | z
      · exact hr u z
      · rw [z]; exact yb
    · rw [hT]
      walk_at "fm"
      refine ⟨_, by rw [DS_get, getC_last], _, datas_si _, ?_⟩
      refine fin (some rs) _ _ (fun r hr2 => ?_) (by omega) (by omega)
      cases hr2
      exact ⟨rl', hr⟩
  · rintro w as ρ cs' ⟨rs, q, o5, o6, rl, hm, hr, g0, g1, rfl, rfl⟩ Z hz
    rw [List.length_cons] at rl
    have hw := hE.2 w (hm w List.mem_cons_self)
    rw [gtup_span]
    walk_at "fm"
    unfold rd__law_readings_b1 T__law_take
    walk_at "fm"
    refine ⟨⟨_, by rw [DS_get, getC_last]⟩, row, total, q, _, rfl, D.next (by omega) (by omega), by split <;> omega, fun v v0 v1 => ⟨_, by rw [DS_get, getC_last], by rw [List.length_map]; omega, ?_⟩⟩
    refine hz _ _ ⟨rs ++ [w.1 - 1 + v], q + 1, _, _, by simp; omega, fun x hx => hm x (List.mem_cons_of_mem _ hx), ?_, by omega, by simp; omega, ?_, rfl⟩
    · intro y hy
      rcases List.mem_append.mp hy with z | z
      · exact hr y z
      · have : y = w.1 - 1 + v := by simpa using z
        subst this
        have : v < 1100 := by
          split at v1
          · split at v1 <;> omega
          · omega
        omega
    · rw [DS_set, set_last, List.map_append]
      rfl
theorem m__law_now : ∀ xs cs R, xs.length = 4 → Okc cs.length cs → T__law_now xs cs R → rd__law_now (endsD cs.length R) (startD 6 xs) cs := by
  rintro xs cs R hl hc ⟨row, total, pos, gs, n, m, c, p, s, E, P, was, k, rfl, rfl, D, hp, ok, hw, k0, k1, h⟩
  have p0 := D.p0
  have hm1 := ok.m1
  have ol := ok.ol
  have fin : ∀ (now : Nat) q, now < m → pos ≤ q → q ≤ pos + 20 → rtD (DS row total pos gs).length R (si (now : Int)) (DS row total q gs) := fun now q hr g0 g1 => by
    have := rt_ds [] hc (h now q hr g0 g1)
    rw [List.append_nil] at this
    exact this
  unfold rd__law_now
  refine stp fun T hT => ?_
  unfold T__law_take pilD offsD
  walk_at "fm"
  rw [ol]
  refine ⟨row, total, pos, gs, rfl, D, by omega, fun v v0 v1 => ?_⟩
  obtain ⟨now, rfl⟩ : ∃ now : Nat, v = (now : Int) := ⟨v.toNat, by omega⟩
  rw [hT]
  refine stp fun T hT => ?_
  walk_at "fm"
  refine ⟨by decide, by decide, ?_⟩
  refine for_rng 3 (fun j ρ cs' => ∃ (now : Nat) (q : Int) (o5 : Option S), now < m ∧ pos ≤ q ∧ q ≤ pos + 1 + (j : Nat) ∧ cs' = DS row total q gs ∧
      ρ = [some (.ref 2), some (.d (.tuple [bxD P.units, .tuple (P.offs.map cmdD), bxD P.reads, tabsD P.tabs, .tuple (P.spans.map bxD), .tuple (P.firsts.map (oD bxD))])), some (si (was : Int)), some (si k), some (si (now : Int)), o5]) ?_ ?_ ⟨now, pos + 1, _, by omega, by omega, by omega, rfl, rfl⟩
  · rintro ρ cs' ⟨now, q, o5, hn, g0, g1, rfl, rfl⟩
    rw [hT]
    walk_at "fm"
    exact fin now q hn g0 (by omega)
  · rintro j ρ cs' hj ⟨now, q, o5, hn, g0, g1, rfl, rfl⟩ Z hz
    obtain ⟨o1, o2, o3, o4⟩ := off_at ok hw hn k0 k1
    walk_at "fm"
    unfold rd__law_now_b1 T__law_take
    walk_at "fm"
    refine ⟨_, o1, ?_⟩
    unfold cmdD
    walk_at "fm"
    refine ⟨_, o2, ?_⟩
    unfold wayD
    walk_at "fm"
    refine ⟨_, o3, ?_⟩
    rw [ol]
    refine ⟨fun _ => ⟨row, total, q, gs, rfl, D.next (by omega) (by omega), by omega, fun v v0 v1 => ?_⟩, fun _ => hz _ _ ⟨now, q, _, hn, g0, by omega, rfl, rfl⟩⟩
    obtain ⟨now', rfl⟩ : ∃ now : Nat, v = (now : Int) := ⟨v.toNat, by omega⟩
    exact hz _ _ ⟨now', q + 1, _, by omega, by omega, by omega, rfl, rfl⟩
end K44

set_option Elab.async false
set_option linter.all false
set_option maxRecDepth 100000
set_option maxHeartbeats 2000000
namespace K44
open PySem L2 FL FR
local macro_rules | `(tactic| walk_at "fl") => `(tactic| simp only [dSeq, dAsg, dgName, dVar, dC, dOp, dUn, dIxK, ixkR, itemsR, dTup, dLst, dCons, dNil, dCall, dCB, dIfS, dIf, dTestR, dTru, dTruR, dRet, dRetN, dNext, dDrop, dAnd, dOr, dNot, dAndV, dOrV, dNotV, dPar, dFor, dRg1, dRg2, dItems, dgTup, dgCons, dgNil, dZip, dZipR, dIsi, isTy, tgOf, tab, dApp, dgSub, dLstM, dVarF, dBreak, dCont, dSl, dSlR, dPart, dNoPart, dLcG, dChain, dAug, dEnum,
  qI, qI0, qNeg, qEq, qNe, qIsN, qNotN, isNone, eqOk, dIxR, cAbs, cInt, cLen, cSum, cMax2, cMin2, cTup, cList, cListM, eqv_ii, eqv_bb, kFro, kMut,
  endsD, sd1, sd2, sd3, getS, getC, datas, List.length_cons, List.length_nil, List.map_cons, List.map_nil, Option.map_some, List.set_cons_zero, List.set_cons_succ, List.replicate_succ, List.replicate_zero, List.getElem?_cons_zero, List.getElem?_cons_succ, List.cons_append, List.nil_append,
  Option.some.injEq, S.d.injEq, S.ref.injEq, PyData.int.injEq, PyData.bool.injEq, PyData.list.injEq, PyData.tuple.injEq, List.cons.injEq, and_true, true_and, exists_eq_left, exists_eq_left', exists_eq_right, exists_and_left, exists_and_right, exists_const, forall_const, imp_self, reduceCtorEq, false_and, and_false, decide_eq_true_eq, decide_eq_false_iff_not, Bool.not_eq_true', Bool.not_eq_false', ne_eq, Classical.not_not, Bool.true_eq_false, Bool.false_eq_true, Nat.reduceAdd, false_implies, true_implies, implies_true, sizeLine_eq, Nat.reduceLeDiff, decide_true, decide_false, Bool.not_true, Bool.not_false, decide_not])
local macro_rules | `(tactic| walk_at "fm") => `(tactic| simp only [rgS_len, wip, dSeq, ixk_l, ixk_t, ixk_r, ixr_l, ixr_t, ixr_s, ixr_r, tru_n, tru_b, tru_i, tru_l, tru_t, tru_s, tru_r, its_l, its_t, its_r, gtup_t, eqk_i, eqk_b, eqk_s, eqk_t, eqk_l, len_l, len_t, len_s, len_r, int_i, int_b, sum_l, sum_r, tup_l, tup_t, tup_r, lis_l, lis_t, lis_r, lim_l, lim_t, lim_r, zip_t, zip_l, sl_l, sl_t, sl_r, dAsg, dgName, dVar, dC, dOp, dUn, dIxK, dTup, dLst, dCons, dNil, dCall, dCB, dIfS, dIf, dTestR, dTru, dRet, dRetN, dNext, dDrop, dAnd, dOr, dNot, dAndV, dOrV, dNotV, dPar, dFor, dRg1, dRg2, dItems, dgCons, dgNil, dZip, dIsi, isTy, tgOf, tab, dApp, dgSub, dLstM, dVarF, dBreak, dCont, dSl, dPart, dNoPart, dLcG, dChain, dAug, dEnum,
  qI, qI0, qNeg, qEq, qNe, qIsN, qNotN, isNone, qIsB, qNotB, isB, addl_i, addl_t, addl_l, cAbs, cMax2, cMin2, eqv_ii, eqv_bb, kFro, kMut,
  endsD, sd1, sd2, sd3, sd4, sd5, dParN, dRep, dEnumT, mx1_l, mx1_r, qEqC, qNeC, qAddC, getS, getC, datas, List.length_cons, List.length_nil, List.map_cons, List.map_nil, Option.map_some, List.set_cons_zero, List.set_cons_succ, List.replicate_succ, List.replicate_zero, List.getElem?_cons_zero, List.getElem?_cons_succ, List.cons_append, List.nil_append,
  Option.some.injEq, S.d.injEq, S.ref.injEq, PyData.int.injEq, PyData.bool.injEq, PyData.list.injEq, PyData.tuple.injEq, List.cons.injEq, and_true, true_and, exists_eq_left, exists_eq_left', exists_eq_right, exists_and_left, exists_and_right, exists_const, exists_eq', exists_eq, ixk_enc0, ixk_enc1, not_true_eq_false, not_false_eq_true, and_self, enc_eq, dOk_enc, dOk_int, eqv_enc, datas_si, datas_map, intsOf_map, and_assoc, List.length_map, List.length_append, forall_const, imp_self, reduceCtorEq, false_and, and_false, decide_eq_true_eq, decide_eq_false_iff_not, Bool.not_eq_true', Bool.not_eq_false', ne_eq, Classical.not_not, Bool.true_eq_false, Bool.false_eq_true, Nat.reduceAdd, false_implies, true_implies, implies_true, sizeLine_eq, Nat.reduceLeDiff, decide_true, decide_false, Bool.not_true, Bool.not_false, decide_not])
theorem any_take {α : Type} (p : α → Bool) (l : List α) (k : Nat) (h : k < l.length) : (l.take (k + 1)).any p = ((l.take k).any p || p l[k]) := by
  rw [List.take_succ, List.getElem?_eq_getElem h, List.any_append]
  simp
theorem ixs0 {w : Int × Int} {cs : Sto} {R : RK} : ixkR 0 (.d (spanD w)) cs R = R (si w.1) cs := propext ⟨fun ⟨_, e, q⟩ => by cases e; exact q, fun q => ⟨_, rfl, q⟩⟩
theorem ixs1 {w : Int × Int} {cs : Sto} {R : RK} : ixkR 1 (.d (spanD w)) cs R = R (si w.2) cs := propext ⟨fun ⟨_, e, q⟩ => by cases e; exact q, fun q => ⟨_, rfl, q⟩⟩
theorem m__law_told : ∀ xs cs R, xs.length = 5 → Okc cs.length cs → T__law_told xs cs R → rd__law_told (endsD cs.length R) (startD 9 xs) cs := by
  rintro xs cs R hl hc ⟨n, m, c, p, s, E0, P, E, rs, ph, now, rfl, ok, hph, hnow, hE, h⟩
  have hn3 := ok.n3
  have eL := hE.1
  obtain ⟨sp, spl⟩ := span_at ok hnow
  obtain ⟨t1, t2, t3⟩ := tab_at ok hph hnow
  unfold rd__law_told
  refine stp fun T hT => ?_
  unfold tell at h
  have fin : (rs.isSome && emp E) = false → T { nx := fun ρ' cs' => rtD cs.length R (.d .none) cs', rt := rtD cs.length R, bk := fun _ _ => False, ct := fun _ _ => False }
      [some (.d (pilD P)), some (si (ph : Int)), some (si (now : Int)), some (.d (bxD E)), some (.d (rdD rs)), none, none, none, none] cs := fun he => by
    rw [if_neg (by rw [he]; decide)] at h
    rw [hT]
    refine stp fun T hT => ?_
    unfold bxD
    walk_at "fm"
    refine ⟨by omega, by omega, ?_⟩
    rw [Int.toNat_natCast, eL]
    have zl : (E.zip (spanAt P now)).length = n := by rw [List.length_zip]; omega
    refine for_rng n (fun k ρ cs' => cs' = cs ∧ ((E.zip (spanAt P now)).take k).any outOf = false ∧ ∃ (o5 : Option S), ρ = [some (.d (pilD P)), some (si (ph : Int)), some (si (now : Int)), some (.d (.tuple (E.map spanD))), some (.d (rdD rs)), o5, none, none, none]) ?_ ?_ ⟨rfl, by simp, _, rfl⟩
    · rintro ρ cs' ⟨rfl, ha, o5, rfl⟩
      rw [List.take_of_length_le (by omega)] at ha
      have hi : inside E (spanAt P now) = true := by unfold inside; rw [ha]; rfl
      rw [if_pos hi] at h
      rw [hT]
      simp only
      refine stp fun T hT => ?_
      unfold pilD tabsD T__law_command
      walk_at "fm"
      refine ⟨_, t1, ?_⟩
      unfold phD
      walk_at "fm"
      refine ⟨_, t2, n, E, _, rfl, rfl, fun w hw t ht => ((t3.2 w hw).2.1 t ht), hE.w (by omega), by omega, ?_⟩
      rw [hT]
      refine stp fun T hT => ?_
      unfold firstD
      cases ef : firstI E (tabAt P ph now) with
      | none =>
        rw [ef] at h
        unfold oD
        walk_at "fm"
        exact rt_l h
      | some k =>
        rw [ef] at h
        unfold oD
        walk_at "fm"
        rw [hT]
        walk_at "fm"
        refine rt_l ?_
        have em : (if 0 > (ph : Int) - 1 then 0 else (ph : Int) - 1) = ((ph - 1 : Nat) : Int) := by split <;> omega
        rw [em]
        exact h
    · rintro k ρ cs' hk ⟨rfl, ha, o5, rfl⟩ Z hz
      have k1 : k < E.length := by omega
      have k2 : k < (spanAt P now).length := by omega
      have at_ := any_take outOf (E.zip (spanAt P now)) k (by omega)
      rw [ha, Bool.false_or, List.getElem_zip] at at_
      have broken : outOf (E[k], (spanAt P now)[k]) = true → rtD cs'.length R (.d (.tuple [.str "broken", .str "span"])) cs' := fun ho => by
        have hi : ¬ inside E (spanAt P now) = true := by
          unfold inside
          have : (E.zip (spanAt P now)).any outOf = true := List.any_eq_true.mpr ⟨(E[k], (spanAt P now)[k]), by
            rw [← List.getElem_zip (h := by omega)]; exact List.getElem_mem _, ho⟩
          rw [this]; decide
        rw [if_neg hi] at h
        exact rt_l h
      have next : outOf (E[k], (spanAt P now)[k]) = false → Z [some (.d (pilD P)), some (si (ph : Int)), some (si (now : Int)), some (.d (.tuple (E.map spanD))), some (.d (rdD rs)), some (si (k : Int)), none, none, none] cs' := fun ho => hz _ _ ⟨rfl, by rw [at_]; exact ho, _, rfl⟩
      walk_at "fm"
      unfold rd__law_told_b1
      unfold pilD at next ⊢
      walk_at "fm"
      refine ⟨_, atI_map spanD k1, ?_⟩
      have sp2 := atI_map spanD k2
      unfold outOf at broken next
      simp only [Bool.or_eq_true, decide_eq_true_eq, Bool.or_eq_false_iff, decide_eq_false_iff_not] at broken next
      have ix : ∀ R : RK, R (.d (spanD (spanAt P now)[k])) cs' → ∃ d, atI (List.map bxD P.spans) (now : Int) = some d ∧ dIxR (.d d) (si (k : Int)) cs' R := fun R hR => ⟨_, sp, by
        unfold bxD
        exact ⟨_, _, rfl, sp2, hR⟩⟩
      rw [ixs0]
      refine ix _ ?_
      rw [ixs0]
      refine ⟨_, rfl, _, rfl, fun h1 => broken (.inl h1), fun h1 => ⟨_, atI_map spanD k1, ?_⟩⟩
      rw [ixs1]
      refine ix _ ?_
      rw [ixs1]
      exact ⟨_, rfl, _, rfl, fun h2 => broken (.inr h2), fun h2 => next ⟨h1, h2⟩⟩
  cases rs with
  | none =>
    unfold rdD oD
    walk_at "fm"
    exact fin rfl
  | some r =>
    unfold rdD oD intsD bxD at *
    walk_at "fm"
    rw [map_d]
    refine ⟨by omega, comp_flt _ (fun w => decide (w.1 > w.2)) (fun _ => si 1) trivial _ _ (fun w hw Y Nn hy hnn => ?_) ⟨_, datas_fn _ _, fun q => ?_, fun q => ?_⟩⟩
    · unfold rd__law_told_t1 rd__law_told_e1
      rw [gtup_span]
      walk_at "fm"
      simp only [decide_eq_true_eq, decide_eq_false_iff_not] at hy hnn
      exact ⟨hy, hnn⟩
    · have he : emp E = true := (len_flt' E _ _).mp q
      rw [if_pos (show ((some r).isSome && emp E) = true from he)] at h
      exact rt_l h
    · have he : ¬ emp E = true := fun z => q ((len_flt' E _ _).mpr z)
      exact fin (show (true && emp E) = false by rw [Bool.true_and]; simpa using he)
end K44

set_option Elab.async false
set_option linter.all false
set_option maxRecDepth 100000
set_option maxHeartbeats 2000000
namespace K44
open PySem L2 FL FR
local macro_rules | `(tactic| walk_at "fl") => `(tactic| simp only [dSeq, dAsg, dgName, dVar, dC, dOp, dUn, dIxK, ixkR, itemsR, dTup, dLst, dCons, dNil, dCall, dCB, dIfS, dIf, dTestR, dTru, dTruR, dRet, dRetN, dNext, dDrop, dAnd, dOr, dNot, dAndV, dOrV, dNotV, dPar, dFor, dRg1, dRg2, dItems, dgTup, dgCons, dgNil, dZip, dZipR, dIsi, isTy, tgOf, tab, dApp, dgSub, dLstM, dVarF, dBreak, dCont, dSl, dSlR, dPart, dNoPart, dLcG, dChain, dAug, dEnum,
  qI, qI0, qNeg, qEq, qNe, qIsN, qNotN, isNone, eqOk, dIxR, cAbs, cInt, cLen, cSum, cMax2, cMin2, cTup, cList, cListM, eqv_ii, eqv_bb, kFro, kMut,
  endsD, sd1, sd2, sd3, getS, getC, datas, List.length_cons, List.length_nil, List.map_cons, List.map_nil, Option.map_some, List.set_cons_zero, List.set_cons_succ, List.replicate_succ, List.replicate_zero, List.getElem?_cons_zero, List.getElem?_cons_succ, List.cons_append, List.nil_append,
  Option.some.injEq, S.d.injEq, S.ref.injEq, PyData.int.injEq, PyData.bool.injEq, PyData.list.injEq, PyData.tuple.injEq, List.cons.injEq, and_true, true_and, exists_eq_left, exists_eq_left', exists_eq_right, exists_and_left, exists_and_right, exists_const, forall_const, imp_self, reduceCtorEq, false_and, and_false, decide_eq_true_eq, decide_eq_false_iff_not, Bool.not_eq_true', Bool.not_eq_false', ne_eq, Classical.not_not, Bool.true_eq_false, Bool.false_eq_true, Nat.reduceAdd, false_implies, true_implies, implies_true, sizeLine_eq, Nat.reduceLeDiff, decide_true, decide_false, Bool.not_true, Bool.not_false, decide_not])
local macro_rules | `(tactic| walk_at "fm") => `(tactic| simp only [rgS_len, wip, dSeq, ixk_l, ixk_t, ixk_r, ixr_l, ixr_t, ixr_s, ixr_r, tru_n, tru_b, tru_i, tru_l, tru_t, tru_s, tru_r, its_l, its_t, its_r, gtup_t, eqk_i, eqk_b, eqk_s, eqk_t, eqk_l, len_l, len_t, len_s, len_r, int_i, int_b, sum_l, sum_r, tup_l, tup_t, tup_r, lis_l, lis_t, lis_r, lim_l, lim_t, lim_r, zip_t, zip_l, sl_l, sl_t, sl_r, dAsg, dgName, dVar, dC, dOp, dUn, dIxK, dTup, dLst, dCons, dNil, dCall, dCB, dIfS, dIf, dTestR, dTru, dRet, dRetN, dNext, dDrop, dAnd, dOr, dNot, dAndV, dOrV, dNotV, dPar, dFor, dRg1, dRg2, dItems, dgCons, dgNil, dZip, dIsi, isTy, tgOf, tab, dApp, dgSub, dLstM, dVarF, dBreak, dCont, dSl, dPart, dNoPart, dLcG, dChain, dAug, dEnum,
  qI, qI0, qNeg, qEq, qNe, qIsN, qNotN, isNone, qIsB, qNotB, isB, addl_i, addl_t, addl_l, cAbs, cMax2, cMin2, eqv_ii, eqv_bb, kFro, kMut,
  endsD, sd1, sd2, sd3, sd4, sd5, dParN, dRep, dEnumT, mx1_l, mx1_r, qEqC, qNeC, qAddC, getS, getC, datas, List.length_cons, List.length_nil, List.map_cons, List.map_nil, Option.map_some, List.set_cons_zero, List.set_cons_succ, List.replicate_succ, List.replicate_zero, List.getElem?_cons_zero, List.getElem?_cons_succ, List.cons_append, List.nil_append,
  Option.some.injEq, S.d.injEq, S.ref.injEq, PyData.int.injEq, PyData.bool.injEq, PyData.list.injEq, PyData.tuple.injEq, List.cons.injEq, and_true, true_and, exists_eq_left, exists_eq_left', exists_eq_right, exists_and_left, exists_and_right, exists_const, exists_eq', exists_eq, ixk_enc0, ixk_enc1, not_true_eq_false, not_false_eq_true, and_self, enc_eq, dOk_enc, dOk_int, eqv_enc, datas_si, datas_map, intsOf_map, and_assoc, List.length_map, List.length_append, forall_const, imp_self, reduceCtorEq, false_and, and_false, decide_eq_true_eq, decide_eq_false_iff_not, Bool.not_eq_true', Bool.not_eq_false', ne_eq, Classical.not_not, Bool.true_eq_false, Bool.false_eq_true, Nat.reduceAdd, false_implies, true_implies, implies_true, sizeLine_eq, Nat.reduceLeDiff, decide_true, decide_false, Bool.not_true, Bool.not_false, decide_not])
theorem met_getD {E F : Bx} {k : Nat} (h1 : k < E.length) (h2 : k < F.length) : (met E F).getD k (0, 0) = (if (F.getD k (0, 0)).1 > (E.getD k (0, 0)).1 then (F.getD k (0, 0)).1 else (E.getD k (0, 0)).1, if (F.getD k (0, 0)).2 < (E.getD k (0, 0)).2 then (F.getD k (0, 0)).2 else (E.getD k (0, 0)).2) := by
  unfold met
  rw [zw_map, List.getD_eq_getElem?_getD, List.getD_eq_getElem?_getD, List.getD_eq_getElem?_getD, List.getElem?_map, List.getElem?_eq_getElem (by rw [List.length_zip]; omega), List.getElem_zip, List.getElem?_eq_getElem h1, List.getElem?_eq_getElem h2]
  rfl
theorem ext_getD {α : Type} {l l' : List α} {n : Nat} (d : α) (h : l.length = n) (h' : l'.length = n) (e : ∀ k, k < n → l.getD k d = l'.getD k d) : l = l' := by
  refine List.ext_getElem (by omega) fun k h1 h2 => ?_
  have := e k (by omega)
  rw [List.getD_eq_getElem?_getD, List.getD_eq_getElem?_getD, List.getElem?_eq_getElem h1, List.getElem?_eq_getElem h2] at this
  exact this
theorem known_len (srcs : List Src) (sh : List Bx) (n : Nat) : (known srcs sh n).length = n := by simp [known]
theorem known_getD {srcs : List Src} {sh : List Bx} {n k : Nat} (h : k < n) : (known srcs sh n).getD k (0, 0) = (maxL (srcs.map (lowk sh k)), minL (srcs.map (hik sh k))) := by
  unfold known
  rw [List.getD_eq_getElem?_getD, List.getElem?_map, List.getElem?_range h]
  rfl
theorem maxL_is {l : List Int} (h : l ≠ []) : maxL l ∈ l ∧ ∀ y ∈ l, y ≤ maxL l := by
  cases l with
  | nil => exact absurd rfl h
  | cons a r => exact fmax_is r a
theorem minL_is {l : List Int} (h : l ≠ []) : minL l ∈ l ∧ ∀ y ∈ l, minL l ≤ y := by
  cases l with
  | nil => exact absurd rfl h
  | cons a r => exact fmin_is r a
theorem maxL_add {l : List Int} (h : l ≠ []) (c : Int) : maxL (l.map (· + c)) = maxL l + c := by
  obtain ⟨h1, h2⟩ := maxL_is h
  refine (maxL_un (List.mem_map.mpr ⟨_, h1, rfl⟩) fun y hy => ?_).symm
  obtain ⟨x, hx, rfl⟩ := List.mem_map.mp hy
  have := h2 x hx
  omega
theorem minL_add {l : List Int} (h : l ≠ []) (c : Int) : minL (l.map (· + c)) = minL l + c := by
  obtain ⟨h1, h2⟩ := minL_is h
  refine (minL_un (List.mem_map.mpr ⟨_, h1, rfl⟩) fun y hy => ?_).symm
  obtain ⟨x, hx, rfl⟩ := List.mem_map.mp hy
  have := h2 x hx
  omega
theorem maxL_snoc {l : List Int} (h : l ≠ []) (a : Int) : maxL (l ++ [a]) = if a > maxL l then a else maxL l := by
  obtain ⟨h1, h2⟩ := maxL_is h
  refine (maxL_un ?_ fun y hy => ?_).symm
  · split
    · simp
    · exact List.mem_append_left _ h1
  · rcases List.mem_append.mp hy with z | z
    · have := h2 y z
      split <;> omega
    · have : y = a := by simpa using z
      split <;> omega
theorem minL_snoc {l : List Int} (h : l ≠ []) (a : Int) : minL (l ++ [a]) = if a < minL l then a else minL l := by
  obtain ⟨h1, h2⟩ := minL_is h
  refine (minL_un ?_ fun y hy => ?_).symm
  · split
    · simp
    · exact List.mem_append_left _ h1
  · rcases List.mem_append.mp hy with z | z
    · have := h2 y z
      split <;> omega
    · have : y = a := by simpa using z
      split <;> omega
theorem known_0 (E : Bx) {n : Nat} (h : E.length = n) : known [(0, E)] [] n = E := by
  refine ext_getD (0, 0) (known_len _ _ _) h fun k hk => ?_
  rw [known_getD hk]
  rfl
theorem carry_snoc {s : Src} {sh : List Bx} {o : Bx} (h : s.1 ≤ sh.length) : carry s (sh ++ [o]) = gone (carry s sh) o := by
  unfold carry
  rw [List.drop_append_of_le_length h, List.foldl_append]
  rfl
theorem known_shift {srcs : List Src} {sh : List Bx} {o : Bx} {n : Nat} (K : KOk n srcs sh) (ho : o.length = n) : known srcs (sh ++ [o]) n = gone (known srcs sh n) o := by
  obtain ⟨k1, _, _, k4, k5⟩ := K
  have kl := known_len srcs sh n
  refine ext_getD (0, 0) (known_len _ _ _) (by unfold gone; rw [List.length_zipWith, kl, ho]; omega) fun k hk => ?_
  rw [gone_getD (by omega) (by omega), known_getD hk, known_getD hk]
  have cl : ∀ s ∈ srcs, (carry s sh).length = n := fun s hs => carry_len _ _ (k4 s hs).2 fun x hx => k5 x (List.mem_of_mem_drop hx)
  have e1 : srcs.map (lowk (sh ++ [o]) k) = (srcs.map (lowk sh k)).map (· + (o.getD k (0, 0)).1) := by
    rw [List.map_map]
    refine List.map_congr_left fun s hs => ?_
    have := cl s hs
    unfold lowk
    rw [carry_snoc (k4 s hs).1, gone_getD (by omega) (by omega)]
    rfl
  have e2 : srcs.map (hik (sh ++ [o]) k) = (srcs.map (hik sh k)).map (· + (o.getD k (0, 0)).2) := by
    rw [List.map_map]
    refine List.map_congr_left fun s hs => ?_
    have := cl s hs
    unfold hik
    rw [carry_snoc (k4 s hs).1, gone_getD (by omega) (by omega)]
    rfl
  rw [e1, e2, maxL_add (by simpa using k1), minL_add (by simpa using k1)]
theorem known_src {srcs : List Src} {sh : List Bx} {F : Bx} {n : Nat} (K : KOk n srcs sh) (ho : F.length = n) : known (srcs ++ [(sh.length, F)]) sh n = met (known srcs sh n) F := by
  obtain ⟨k1, _, _, k4, k5⟩ := K
  have kl := known_len srcs sh n
  refine ext_getD (0, 0) (known_len _ _ _) (by unfold met; rw [List.length_zipWith, kl, ho]; omega) fun k hk => ?_
  rw [met_getD (by omega) (by omega), known_getD hk, known_getD hk]
  have cf : carry (sh.length, F) sh = F := by
    unfold carry
    rw [List.drop_length]
    rfl
  have e1 : lowk sh k (sh.length, F) = (F.getD k (0, 0)).1 := by unfold lowk; rw [cf]
  have e2 : hik sh k (sh.length, F) = (F.getD k (0, 0)).2 := by unfold hik; rw [cf]
  rw [List.map_append, List.map_append, List.map_cons, List.map_cons, List.map_nil, List.map_nil, e1, e2, maxL_snoc (by simpa using k1), minL_snoc (by simpa using k1)]
/-! what can be compared -/
def sOk : Nat → PyData → Bool
  | 0, _ => false
  | n + 1, d => match d with
    | .list ds => ds.all (sOk n) && decide (ds.length ≤ 1000000)
    | .tuple ds => ds.all (sOk n) && decide (ds.length ≤ 1000000)
    | .dict _ => false
    | .str x => PyData.canLay0 (.str x)
    | _ => true
theorem sOk_d : ∀ (n : Nat) (d : PyData), sOk n d = true → dOk n d = true
  | 0, d, h => by cases h
  | n + 1, d, h => by
    cases d with
    | list ds =>
      have q : ds.all (sOk n) = true ∧ ds.length ≤ 1000000 := by simpa [sOk] using h
      have : ds.all (dOk n) = true := List.all_eq_true.mpr fun x hx => sOk_d n x (List.all_eq_true.mp q.1 x hx)
      simp [dOk, q.2, this]
    | tuple ds =>
      have q : ds.all (sOk n) = true ∧ ds.length ≤ 1000000 := by simpa [sOk] using h
      have : ds.all (dOk n) = true := List.all_eq_true.mpr fun x hx => sOk_d n x (List.all_eq_true.mp q.1 x hx)
      simp [dOk, q.2, this]
    | dict _ => cases h
    | _ => rfl
theorem sOk_lay : ∀ (n : Nat) (d : PyData), sOk n d = true → d.canLay0 = true ∧ d.depth ≤ n
  | 0, d, h => by cases h
  | n + 1, d, h => by
    have all : ∀ ds : List PyData, ds.all (sOk n) = true → PyData.canLayAll0 ds = true ∧ PyData.depthAll ds ≤ n := fun ds => by
      induction ds with
      | nil => intro _; simp [PyData.canLayAll0, PyData.depthAll]
      | cons x xs ih =>
        intro hx
        simp only [List.all_cons, Bool.and_eq_true] at hx
        obtain ⟨a1, a2⟩ := sOk_lay n x hx.1
        obtain ⟨b1, b2⟩ := ih hx.2
        simp only [PyData.canLayAll0, PyData.depthAll, a1, b1, Bool.and_self, true_and]
        omega
    cases d with
    | list ds =>
      have q : ds.all (sOk n) = true ∧ ds.length ≤ 1000000 := by simpa [sOk] using h
      obtain ⟨a, b⟩ := all ds q.1
      exact ⟨by simpa [PyData.canLay0] using a, by simp only [PyData.depth]; omega⟩
    | tuple ds =>
      have q : ds.all (sOk n) = true ∧ ds.length ≤ 1000000 := by simpa [sOk] using h
      obtain ⟨a, b⟩ := all ds q.1
      exact ⟨by simpa [PyData.canLay0] using a, by simp only [PyData.depth]; omega⟩
    | dict _ => cases h
    | str x => exact ⟨h, by simp only [PyData.depth]; omega⟩
    | none => exact ⟨rfl, by simp only [PyData.depth]; omega⟩
    | bool _ => exact ⟨rfl, by simp only [PyData.depth]; omega⟩
    | int _ => exact ⟨rfl, by simp only [PyData.depth]; omega⟩
theorem sOk_sh {n : Nat} {d : PyData} (h : sOk n d = true) (hn : n ≤ 64 := by decide) : SeqAt.shaped d = true := by
  obtain ⟨a, b⟩ := sOk_lay n d h
  unfold SeqAt.shaped
  rw [a, decide_eq_true (Nat.le_trans b hn)]
  rfl
def OutOk (n : Nat) : Out → Prop
  | .brk w => PyData.canLay0 (.str w) = true
  | .giv _ st => st.es.length = n
theorem sOk_l (n : Nat) (ds : List PyData) : sOk (n + 1) (.list ds) = (ds.all (sOk n) && decide (ds.length ≤ 1000000)) := rfl
theorem sOk_t (n : Nat) (ds : List PyData) : sOk (n + 1) (.tuple ds) = (ds.all (sOk n) && decide (ds.length ≤ 1000000)) := rfl
theorem sOk_s (n : Nat) (x : Str) : sOk (n + 1) (.str x) = PyData.canLay0 (.str x) := rfl
theorem sOk_i (n : Nat) (x : Int) : sOk (n + 1) (.int x) = true := rfl
theorem sOk_n (n : Nat) : sOk (n + 1) .none = true := rfl
theorem sOk_tm {α : Type} {f : α → PyData} {n : Nat} {as : List α} (h : ∀ a ∈ as, sOk n (f a) = true) (hl : as.length ≤ 1000000) : sOk (n + 1) (.tuple (as.map f)) = true ∧ sOk (n + 1) (.list (as.map f)) = true := by
  have : (as.map f).all (sOk n) = true := List.all_eq_true.mpr fun x hx => by
    obtain ⟨a, ha, rfl⟩ := List.mem_map.mp hx
    exact h a ha
  rw [sOk_t, sOk_l, this, List.length_map, decide_eq_true hl]
  exact ⟨rfl, rfl⟩
theorem sOk_bx {n : Nat} {E : Bx} (h : E.length ≤ 100) : sOk (n + 3) (bxD E) = true := (sOk_tm (f := spanD) (fun w _ => rfl) (by omega)).1
theorem sOk_st {st : St} (h : st.es.length ≤ 100) : sOk 4 (stD st) = true := by
  have e := sOk_bx (n := 0) h
  unfold stD
  rw [sOk_t, List.all_cons, List.all_cons, List.all_cons, List.all_cons, List.all_nil, e]
  cases st.cm <;> rfl
theorem lay_str {x : Str} (h : PyData.strOk x = true) : PyData.canLay0 (.str x) = true := by rw [PyData.canLay0]; exact h
theorem sOk_out {n : Nat} {o : Out} (h : OutOk n o) (hn : n ≤ 100) : sOk 5 (outD o) = true := by
  cases o with
  | brk w =>
    have h' : PyData.canLay0 (.str w) = true := h
    have hb : PyData.canLay0 (.str "broken") = true := lay_str (by decide +kernel)
    unfold outD
    rw [sOk_t, List.all_cons, List.all_cons, List.all_nil, sOk_s, sOk_s, h', hb]
    rfl
  | giv k st =>
    have h' : st.es.length = n := h
    have e := sOk_st (st := st) (by omega)
    have hb : PyData.canLay0 (.str "given") = true := lay_str (by decide +kernel)
    unfold outD
    rw [sOk_t, List.all_cons, List.all_cons, List.all_cons, List.all_nil, sOk_s, e, hb]
    rfl
theorem sOk_outs {n : Nat} {os : List Out} (h : ∀ o ∈ os, OutOk n o) (hn : n ≤ 100) (hl : os.length ≤ 100) : sOk 6 (.list (os.map outD)) = true := (sOk_tm (f := outD) (fun o ho => sOk_out (h o ho) hn) (by omega)).2
theorem tell_ok {P : Pil} {ph now n : Nat} {E : Bx} {rd : Bool} (hE : E.length = n) : OutOk n (tell P ph now E rd) := by
  unfold tell
  split
  · exact lay_str (x := "empty") (by decide +kernel)
  · split
    · cases firstI E (tabAt P ph now) with
      | none => exact lay_str (x := "none") (by decide +kernel)
      | some k => exact hE
    · exact lay_str (x := "span") (by decide +kernel)
theorem way_ok (n : Nat) : OutOk n (.brk "way") := lay_str (x := "way") (by decide +kernel)
end K44

set_option Elab.async false
set_option linter.all false
set_option maxRecDepth 100000
set_option maxHeartbeats 2000000
namespace K44
open PySem L2 FL FR
local macro_rules | `(tactic| walk_at "fl") => `(tactic| simp only [dSeq, dAsg, dgName, dVar, dC, dOp, dUn, dIxK, ixkR, itemsR, dTup, dLst, dCons, dNil, dCall, dCB, dIfS, dIf, dTestR, dTru, dTruR, dRet, dRetN, dNext, dDrop, dAnd, dOr, dNot, dAndV, dOrV, dNotV, dPar, dFor, dRg1, dRg2, dItems, dgTup, dgCons, dgNil, dZip, dZipR, dIsi, isTy, tgOf, tab, dApp, dgSub, dLstM, dVarF, dBreak, dCont, dSl, dSlR, dPart, dNoPart, dLcG, dChain, dAug, dEnum,
  qI, qI0, qNeg, qEq, qNe, qIsN, qNotN, isNone, eqOk, dIxR, cAbs, cInt, cLen, cSum, cMax2, cMin2, cTup, cList, cListM, eqv_ii, eqv_bb, kFro, kMut,
  endsD, sd1, sd2, sd3, getS, getC, datas, List.length_cons, List.length_nil, List.map_cons, List.map_nil, Option.map_some, List.set_cons_zero, List.set_cons_succ, List.replicate_succ, List.replicate_zero, List.getElem?_cons_zero, List.getElem?_cons_succ, List.cons_append, List.nil_append,
  Option.some.injEq, S.d.injEq, S.ref.injEq, PyData.int.injEq, PyData.bool.injEq, PyData.list.injEq, PyData.tuple.injEq, List.cons.injEq, and_true, true_and, exists_eq_left, exists_eq_left', exists_eq_right, exists_and_left, exists_and_right, exists_const, forall_const, imp_self, reduceCtorEq, false_and, and_false, decide_eq_true_eq, decide_eq_false_iff_not, Bool.not_eq_true', Bool.not_eq_false', ne_eq, Classical.not_not, Bool.true_eq_false, Bool.false_eq_true, Nat.reduceAdd, false_implies, true_implies, implies_true, sizeLine_eq, Nat.reduceLeDiff, decide_true, decide_false, Bool.not_true, Bool.not_false, decide_not])
local macro_rules | `(tactic| walk_at "fm") => `(tactic| simp only [rgS_len, wip, dSeq, ixk_l, ixk_t, ixk_r, ixr_l, ixr_t, ixr_s, ixr_r, tru_n, tru_b, tru_i, tru_l, tru_t, tru_s, tru_r, its_l, its_t, its_r, gtup_t, eqk_i, eqk_b, eqk_s, eqk_t, eqk_l, len_l, len_t, len_s, len_r, int_i, int_b, sum_l, sum_r, tup_l, tup_t, tup_r, lis_l, lis_t, lis_r, lim_l, lim_t, lim_r, zip_t, zip_l, sl_l, sl_t, sl_r, dAsg, dgName, dVar, dC, dOp, dUn, dIxK, dTup, dLst, dCons, dNil, dCall, dCB, dIfS, dIf, dTestR, dTru, dRet, dRetN, dNext, dDrop, dAnd, dOr, dNot, dAndV, dOrV, dNotV, dPar, dFor, dRg1, dRg2, dItems, dgCons, dgNil, dZip, dIsi, isTy, tgOf, tab, dApp, dgSub, dLstM, dVarF, dBreak, dCont, dSl, dPart, dNoPart, dLcG, dChain, dAug, dEnum,
  qI, qI0, qNeg, qEq, qNe, qIsN, qNotN, isNone, qIsB, qNotB, isB, addl_i, addl_t, addl_l, cAbs, cMax2, cMin2, eqv_ii, eqv_bb, kFro, kMut,
  endsD, sd1, sd2, sd3, sd4, sd5, dParN, dRep, dEnumT, mx1_l, mx1_r, qEqC, qNeC, qAddC, getS, getC, datas, List.length_cons, List.length_nil, List.map_cons, List.map_nil, Option.map_some, List.set_cons_zero, List.set_cons_succ, List.replicate_succ, List.replicate_zero, List.getElem?_cons_zero, List.getElem?_cons_succ, List.cons_append, List.nil_append,
  Option.some.injEq, S.d.injEq, S.ref.injEq, PyData.int.injEq, PyData.bool.injEq, PyData.list.injEq, PyData.tuple.injEq, List.cons.injEq, and_true, true_and, exists_eq_left, exists_eq_left', exists_eq_right, exists_and_left, exists_and_right, exists_const, exists_eq', exists_eq, ixk_enc0, ixk_enc1, not_true_eq_false, not_false_eq_true, and_self, enc_eq, dOk_enc, dOk_int, eqv_enc, datas_si, datas_map, intsOf_map, and_assoc, List.length_map, List.length_append, forall_const, imp_self, reduceCtorEq, false_and, and_false, decide_eq_true_eq, decide_eq_false_iff_not, Bool.not_eq_true', Bool.not_eq_false', ne_eq, Classical.not_not, Bool.true_eq_false, Bool.false_eq_true, Nat.reduceAdd, false_implies, true_implies, implies_true, sizeLine_eq, Nat.reduceLeDiff, decide_true, decide_false, Bool.not_true, Bool.not_false, decide_not])
theorem atI_last {α : Type} (l : List α) (x : α) : atI (l ++ [x]) (-1) = some x := by
  unfold atI ixN
  rw [if_neg (by decide), if_pos (by simp; omega)]
  have e : ((-1 : Int) + ((l ++ [x]).length : Nat)).toNat = l.length := by simp; omega
  simp only [Option.bind_some]
  rw [e]
  simp
theorem cell_of {α : Type} {f : α → PyData} {cs : Sto} {n : Nat} {as : List α} (h : getC cs n = some (as.map fun a => S.d (f a))) : cellL (.ref n) cs = some (.list (as.map f)) := by
  unfold cellL
  simp only [h, datas_fn, Option.map_some]
def St4 (row : List Int) (total q : Int) (srcs : List Src) (sh : List Bx) (ins : List (Nat × Option (List Int))) (told : List Out) : Sto :=
  DS row total q [some (srcs.map fun s => S.d (srcD s)), some (sh.map fun s => S.d (bxD s)), some (ins.map fun i => S.d (inD i)), some (told.map fun o => S.d (outD o))]
def Sl4 (scr : S) (n m s p : Nat) (P : Pil) (S7 : S) (o12 o13 o14 o15 o16 o17 : Option S) : Ev :=
  [some scr, some (.ref 2), some (si (n : Int)), some (.d (pilD P)), some (si (m : Int)), some (si (s : Int)), some (si ((p - 1 : Nat) : Int)), some S7, some (.ref 3), some (.ref 4), some (.ref 5), some (.ref 6), o12, o13, o14, o15, o16, o17, none, none, none]
structure Run (n m c p s : Nat) (E0 : Bx) (P : Pil) (t : Nat) (srcs : List Src) (sh : List Bx) (ins : List (Nat × Option (List Int))) (told : List Out) (st : St) : Prop where
  K : KOk n srcs sh
  sl : srcs.length ≤ t + 1
  shl : sh.length = t - 1
  kn : known srcs sh n = st.es
  so : SOk n m c p (100 + 2000 * (t : Nat)) st
  c0 : t = 0 → st = st0 p s E0
  c1 : 1 ≤ t → ∃ k, st.cm = some k
  il : ins.length = t
  ii : ∀ i ∈ ins, i.1 < m ∧ ROk n 100000 i.2
  tl : told.length = t
  td : ∀ o ∈ told, OutOk n o ∧ ∃ k st, o = .giv k st
  dr : ∀ more, drv P (st0 p s E0) (ins ++ more) = told ++ drv P st more
structure Brk (n m p s : Nat) (E0 : Bx) (P : Pil) (ins : List (Nat × Option (List Int))) (told : List Out) : Prop where
  il : ins.length ≤ 9
  ii : ∀ i ∈ ins, i.1 < m ∧ ROk n 100000 i.2
  tl : told.length ≤ 9
  td : ∀ o ∈ told, OutOk n o
  la : ∃ l w, told = l ++ [.brk w]
  dr : ∀ more, drv P (st0 p s E0) (ins ++ more) = told
def Inv (scr : S) (row : List Int) (total : Int) (n m c p s : Nat) (E0 : Bx) (P : Pil) (t : Nat) : Ev → Sto → Prop := fun ρ cs' => ∃ srcs sh ins told q st o12 o13 o14 o15 o16 o17, cs' = St4 row total q srcs sh ins told ∧ 0 ≤ q ∧ q ≤ 10000 + 100 * (t : Nat) ∧ ρ = Sl4 scr n m s p P (.d (stD st)) o12 o13 o14 o15 o16 o17 ∧
  (Run n m c p s E0 P t srcs sh ins told st ∨ Brk n m p s E0 P ins told)
/-- how a turn ends -/
theorem turn_out {scr : S} {row : List Int} {total : Int} {n m c p s : Nat} {E0 : Bx} {P : Pil} {t : Nat} (ok : POk n m c p s E0 P) (ht : t < 9) {srcs srcs' : List Src} {sh sh' : List Bx} {ins : List (Nat × Option (List Int))} {told : List Out} {st : St} {now : Nat} {rs : Option (List Int)} {q : Int} {o12 o15 o16 o17 : Option S}
    (r : Run n m c p s E0 P t srcs sh ins told st) (hn : now < m) (hr : ROk n (1300 + 2000 * (t : Nat)) rs) (hro : ROk n 100000 rs) (q0 : 0 ≤ q) (q1 : q ≤ 10000 + 100 * (t : Nat) + 50)
    (hk : ∀ k st', beat P st now rs = .giv k st' → KOk n srcs' sh' ∧ srcs'.length ≤ t + 2 ∧ sh'.length = t ∧ known srcs' sh' n = st'.es) (he : ∀ k st', beat P st now rs = .giv k st' → st'.es.length = n) (hw : OutOk n (beat P st now rs)) {S7 : S} (h7 : S7 = match beat P st now rs with | .giv _ st' => .d (stD st') | .brk _ => .d (stD st)) :
    Inv scr row total n m c p s E0 P (t + 1) (Sl4 scr n m s p P S7 o12 (some (si (now : Int))) (some (.d (outD (beat P st now rs)))) o15 o16 o17) (St4 row total q srcs' sh' (ins ++ [(now, rs)]) (told ++ [beat P st now rs])) := by
  have bg := fun k st' => beat_giv (k := k) (st' := st') (M := 1300 + 2000 * (t : Nat)) ok hn ⟨r.so.1, r.so.2.1, r.so.2.2.1.mono (by omega), r.so.2.2.2⟩ hr
  have ii : ∀ i ∈ ins ++ [(now, rs)], i.1 < m ∧ ROk n 100000 i.2 := fun i hi => by
    rcases List.mem_append.mp hi with z | z
    · exact r.ii i z
    · have : i = (now, rs) := by simpa using z
      subst this; exact ⟨hn, hro⟩
  cases hb : beat P st now rs with
  | brk w =>
    rw [hb] at h7 hw
    refine ⟨_, _, _, _, q, st, _, _, _, _, _, _, rfl, q0, by omega, by rw [h7], .inr ⟨by simp [r.il]; omega, ii, by simp [r.tl]; omega, ?_, ⟨told, w, rfl⟩, fun more => ?_⟩⟩
    · intro o ho
      rcases List.mem_append.mp ho with z | z
      · exact (r.td o z).1
      · have : o = .brk w := by simpa using z
        subst this; exact hw
    · rw [List.append_assoc, r.dr, List.cons_append, drv_c]
      simp only
      rw [hb]
      rfl
  | giv k st' =>
    rw [hb] at h7 hw
    obtain ⟨k1, k2, k3, k4⟩ := hk k st' hb
    obtain ⟨so, _, cm⟩ := bg k st' hb
    refine ⟨_, _, _, _, q, st', _, _, _, _, _, _, rfl, q0, by omega, by rw [h7], .inl ⟨k1, k2, by omega, k4, ⟨so.1, so.2.1, so.2.2.1.mono (by omega), so.2.2.2⟩, by omega, fun _ => ⟨k, cm⟩, by simp [r.il], ii, by simp [r.tl], ?_, fun more => ?_⟩⟩
    · intro o ho
      rcases List.mem_append.mp ho with z | z
      · exact r.td o z
      · have : o = .giv k st' := by simpa using z
        subst this; exact ⟨hw, k, st', rfl⟩
    · rw [List.append_assoc, r.dr, List.cons_append, drv_c]
      simp only
      rw [hb, List.append_assoc]
      rfl
theorem sOk_mono1 : ∀ (n : Nat) (d : PyData), sOk n d = true → sOk (n + 1) d = true
  | 0, d, h => by cases h
  | n + 1, d, h => by
    cases d with
    | list ds =>
      rw [sOk_l, Bool.and_eq_true] at h ⊢
      exact ⟨List.all_eq_true.mpr fun x hx => sOk_mono1 n x (List.all_eq_true.mp h.1 x hx), h.2⟩
    | tuple ds =>
      rw [sOk_t, Bool.and_eq_true] at h ⊢
      exact ⟨List.all_eq_true.mpr fun x hx => sOk_mono1 n x (List.all_eq_true.mp h.1 x hx), h.2⟩
    | dict _ => cases h
    | str _ => exact h
    | _ => rfl
theorem sOk_mono {n : Nat} {d : PyData} (h : sOk n d = true) : sOk (n + 3) d = true := sOk_mono1 _ _ (sOk_mono1 _ _ (sOk_mono1 _ _ h))
end K44

set_option Elab.async false
set_option linter.all false
set_option maxRecDepth 100000
set_option maxHeartbeats 2000000
namespace K44
open PySem L2 FL FR
local macro_rules | `(tactic| walk_at "fl") => `(tactic| simp only [dSeq, dAsg, dgName, dVar, dC, dOp, dUn, dIxK, ixkR, itemsR, dTup, dLst, dCons, dNil, dCall, dCB, dIfS, dIf, dTestR, dTru, dTruR, dRet, dRetN, dNext, dDrop, dAnd, dOr, dNot, dAndV, dOrV, dNotV, dPar, dFor, dRg1, dRg2, dItems, dgTup, dgCons, dgNil, dZip, dZipR, dIsi, isTy, tgOf, tab, dApp, dgSub, dLstM, dVarF, dBreak, dCont, dSl, dSlR, dPart, dNoPart, dLcG, dChain, dAug, dEnum,
  qI, qI0, qNeg, qEq, qNe, qIsN, qNotN, isNone, eqOk, dIxR, cAbs, cInt, cLen, cSum, cMax2, cMin2, cTup, cList, cListM, eqv_ii, eqv_bb, kFro, kMut,
  endsD, sd1, sd2, sd3, getS, getC, datas, List.length_cons, List.length_nil, List.map_cons, List.map_nil, Option.map_some, List.set_cons_zero, List.set_cons_succ, List.replicate_succ, List.replicate_zero, List.getElem?_cons_zero, List.getElem?_cons_succ, List.cons_append, List.nil_append,
  Option.some.injEq, S.d.injEq, S.ref.injEq, PyData.int.injEq, PyData.bool.injEq, PyData.list.injEq, PyData.tuple.injEq, List.cons.injEq, and_true, true_and, exists_eq_left, exists_eq_left', exists_eq_right, exists_and_left, exists_and_right, exists_const, forall_const, imp_self, reduceCtorEq, false_and, and_false, decide_eq_true_eq, decide_eq_false_iff_not, Bool.not_eq_true', Bool.not_eq_false', ne_eq, Classical.not_not, Bool.true_eq_false, Bool.false_eq_true, Nat.reduceAdd, false_implies, true_implies, implies_true, sizeLine_eq, Nat.reduceLeDiff, decide_true, decide_false, Bool.not_true, Bool.not_false, decide_not])
local macro_rules | `(tactic| walk_at "fm") => `(tactic| simp only [rgS_len, wip, dSeq, ixk_l, ixk_t, ixk_r, ixr_l, ixr_t, ixr_s, ixr_r, tru_n, tru_b, tru_i, tru_l, tru_t, tru_s, tru_r, its_l, its_t, its_r, gtup_t, eqk_i, eqk_b, eqk_s, eqk_t, eqk_l, len_l, len_t, len_s, len_r, int_i, int_b, sum_l, sum_r, tup_l, tup_t, tup_r, lis_l, lis_t, lis_r, lim_l, lim_t, lim_r, zip_t, zip_l, sl_l, sl_t, sl_r, dAsg, dgName, dVar, dC, dOp, dUn, dIxK, dTup, dLst, dCons, dNil, dCall, dCB, dIfS, dIf, dTestR, dTru, dRet, dRetN, dNext, dDrop, dAnd, dOr, dNot, dAndV, dOrV, dNotV, dPar, dFor, dRg1, dRg2, dItems, dgCons, dgNil, dZip, dIsi, isTy, tgOf, tab, dApp, dgSub, dLstM, dVarF, dBreak, dCont, dSl, dPart, dNoPart, dLcG, dChain, dAug, dEnum,
  qI, qI0, qNeg, qEq, qNe, qIsN, qNotN, isNone, qIsB, qNotB, isB, addl_i, addl_t, addl_l, cAbs, cMax2, cMin2, eqv_ii, eqv_bb, kFro, kMut,
  endsD, sd1, sd2, sd3, sd4, sd5, dParN, dRep, dEnumT, mx1_l, mx1_r, qEqC, qNeC, qAddC, getS, getC, datas, List.length_cons, List.length_nil, List.map_cons, List.map_nil, Option.map_some, List.set_cons_zero, List.set_cons_succ, List.replicate_succ, List.replicate_zero, List.getElem?_cons_zero, List.getElem?_cons_succ, List.cons_append, List.nil_append,
  Option.some.injEq, S.d.injEq, S.ref.injEq, PyData.int.injEq, PyData.bool.injEq, PyData.list.injEq, PyData.tuple.injEq, List.cons.injEq, and_true, true_and, exists_eq_left, exists_eq_left', exists_eq_right, exists_and_left, exists_and_right, exists_const, exists_eq', exists_eq, ixk_enc0, ixk_enc1, not_true_eq_false, not_false_eq_true, and_self, enc_eq, dOk_enc, dOk_int, eqv_enc, datas_si, datas_map, intsOf_map, and_assoc, List.length_map, List.length_append, forall_const, imp_self, reduceCtorEq, false_and, and_false, decide_eq_true_eq, decide_eq_false_iff_not, Bool.not_eq_true', Bool.not_eq_false', ne_eq, Classical.not_not, Bool.true_eq_false, Bool.false_eq_true, Nat.reduceAdd, false_implies, true_implies, implies_true, sizeLine_eq, Nat.reduceLeDiff, decide_true, decide_false, Bool.not_true, Bool.not_false, decide_not])
def due0 : Option Bx → PyData
  | none => outD (.brk "way")
  | some _ => .none
def rd_end : TSD := (dSeq (dIfS (dNot (dTru (dCall 2 T__law_same (dCons (dCall 4 T_beat_of (dCons (dVar 3) (dCons (dVar 7) (dCons (dVar 13) (dCons (dVar 16) dNil))))) (dCons (dVar 14) dNil))))) (dRet (dC (.bool false))) dNext) (dSeq (dDrop (dApp (dVar 10) (dTup (dCons (dVar 13) (dCons (dVar 16) dNil))))) (dSeq (dDrop (dApp (dVar 11) (dVar 14))) (dIfS (dTestR (dOp qEq (dIxK 0 (dVar 14)) (dC (.str "given")))) (dAsg (dIxK 2 (dVar 14)) (dgName 7)) dNext))))
def rd_rest : TSD := (dSeq (dAsg (dCall 3 T__law_readings (dCons (dVar 1) (dCons (dVar 3) (dCons (dCall 3 T__law_known (dCons (dVar 8) (dCons (dVar 9) (dCons (dVar 2) dNil)))) dNil)))) (dgName 16)) (dSeq (dIfS (dTestR (dOp qIsN (dVar 14) (dC .none))) (dSeq (dIfS (dTestR (dOp qNotN (dVar 16) (dC .none))) (dSeq (dAsg (dCB cTup (dCons (dLcG (dRg1 (dCons (dVar 2) dNil)) (dgName 20) dYes rd_law_e2 [20] kFro) dNil)) (dgName 17)) (dDrop (dApp (dVar 8) (dTup (dCons (dVar 12) (dCons (dVar 17) dNil)))))) dNext) (dAsg (dCall 5 T__law_told (dCons (dVar 3) (dCons (dIxK 0 (dVar 7)) (dCons (dVar 13) (dCons (dCall 3 T__law_known (dCons (dVar 8) (dCons (dVar 9) (dCons (dVar 2) dNil)))) (dCons (dVar 16) dNil)))))) (dgName 14))) dNext) (dSeq (dIfS (dNot (dTru (dCall 2 T__law_same (dCons (dCall 4 T_beat_of (dCons (dVar 3) (dCons (dVar 7) (dCons (dVar 13) (dCons (dVar 16) dNil))))) (dCons (dVar 14) dNil))))) (dRet (dC (.bool false))) dNext) (dSeq (dDrop (dApp (dVar 10) (dTup (dCons (dVar 13) (dCons (dVar 16) dNil))))) (dSeq (dDrop (dApp (dVar 11) (dVar 14))) (dIfS (dTestR (dOp qEq (dIxK 0 (dVar 14)) (dC (.str "given")))) (dAsg (dIxK 2 (dVar 14)) (dgName 7)) dNext))))))
theorem beat_ok {n m c p s : Nat} {E0 : Bx} {P : Pil} {M : Int} {st : St} {now : Nat} {rs : Option (List Int)} (ok : POk n m c p s E0 P) (hnow : now < m) (hs : SOk n m c p M st) (hr : ROk n M rs) : OutOk n (beat P st now rs) := by
  unfold beat
  cases e : estNow P st now with
  | none => exact way_ok n
  | some E => exact tell_ok (seen_ok ok (est_ok ok hnow hs e) hr).1
theorem turn_end {d : EndsD} {scr : S} {row : List Int} {total : Int} {n m c p s : Nat} {E0 : Bx} {P : Pil} {t : Nat} (ok : POk n m c p s E0 P) (ht : t < 9) {srcs srcs' : List Src} {sh sh' : List Bx} {ins : List (Nat × Option (List Int))} {told : List Out} {st : St} {now : Nat} {rs : Option (List Int)} {q : Int} {o15 o17 : Option S}
    (r : Run n m c p s E0 P t srcs sh ins told st) (hn : now < m) (hr : ROk n (1300 + 2000 * (t : Nat)) rs) (hro : ROk n 100000 rs) (q0 : 0 ≤ q) (q1 : q ≤ 10000 + 100 * (t : Nat) + 50)
    (hk : ∀ k st', beat P st now rs = .giv k st' → KOk n srcs' sh' ∧ srcs'.length ≤ t + 2 ∧ sh'.length = t ∧ known srcs' sh' n = st'.es)
    (hz : ∀ ρ' cs', Inv scr row total n m c p s E0 P (t + 1) ρ' cs' → d.nx ρ' cs') :
    rd_end d (Sl4 scr n m s p P (.d (stD st)) (some (si (t : Int))) (some (si (now : Int))) (some (.d (outD (beat P st now rs)))) o15 (some (.d (rdD rs))) o17) (St4 row total q srcs' sh' ins told) := by
  have so : SOk n m c p (1300 + 2000 * (t : Nat)) st := ⟨r.so.1, r.so.2.1, r.so.2.2.1.mono (by omega), r.so.2.2.2⟩
  have hn3 := ok.n3
  have bok := beat_ok ok hn so hr
  have bg := fun k st' => beat_giv (k := k) (st' := st') ok hn so hr
  have out := fun S7 h7 => turn_out (scr := scr) (total := total) (row := row) (o12 := some (si (t : Int))) (o15 := o15) (o16 := some (.d (rdD rs))) (o17 := o17) (q := q) ok ht (S7 := S7) r hn hr hro q0 q1 hk (fun k st' h => (bg k st' h).1.2.2.1.1) bok h7
  have ms : (ins.map fun i => S.d (inD i)) ++ [S.d (inD (now, rs))] = (ins ++ [(now, rs)]).map fun i => S.d (inD i) := by rw [List.map_append]; rfl
  have mt : ∀ o, (told.map fun o => S.d (outD o)) ++ [S.d (outD o)] = (told ++ [o]).map fun o => S.d (outD o) := fun o => by rw [List.map_append]; rfl
  unfold rd_end
  refine stp fun T hT => ?_
  unfold Sl4 T__law_same T__law_sameN T_beat_of
  walk_at "fm"
  refine ⟨n, m, c, p, s, E0, P, rfl, _, st, rfl, rs, now, rfl, rfl, ok, hn, so, hr, by omega, by omega, rfl, sOk_d _ _ (sOk_mono (sOk_out bok (by omega))), ?_⟩
  rw [hT]
  refine stp fun T hT => ?_
  unfold St4
  walk_at "fm"
  refine ⟨⟨_, rfl⟩, _, rfl, by rw [List.length_map, r.il]; omega, ?_⟩
  have in_ : PyData.tuple [.int (now : Int), rdD rs] = inD (now, rs) := rfl
  rw [in_, ms, hT]
  refine stp fun T hT => ?_
  walk_at "fm"
  refine ⟨⟨_, rfl⟩, _, rfl, by rw [List.length_map, r.tl]; omega, ?_⟩
  rw [mt, hT]
  cases hb : beat P st now rs with
  | brk w =>
    rw [hb] at out
    unfold outD
    walk_at "fm"
    have q1 : (PyData.str "broken").eqv (PyData.str "given") = false := by rw [eqv_ss]; decide
    rw [q1]
    refine ⟨fun z => (by cases z), fun _ => hz _ _ (out _ rfl)⟩
  | giv k st' =>
    rw [hb] at out
    unfold outD
    walk_at "fm"
    have q1 : (PyData.str "given").eqv (PyData.str "given") = true := by rw [eqv_ss]; simp
    rw [q1]
    refine ⟨fun _ => hz _ _ (out _ rfl), fun z => (by cases z)⟩
end K44

set_option Elab.async false
set_option linter.all false
set_option maxRecDepth 100000
set_option maxHeartbeats 2000000
namespace K44
open PySem L2 FL FR
local macro_rules | `(tactic| walk_at "fl") => `(tactic| simp only [dSeq, dAsg, dgName, dVar, dC, dOp, dUn, dIxK, ixkR, itemsR, dTup, dLst, dCons, dNil, dCall, dCB, dIfS, dIf, dTestR, dTru, dTruR, dRet, dRetN, dNext, dDrop, dAnd, dOr, dNot, dAndV, dOrV, dNotV, dPar, dFor, dRg1, dRg2, dItems, dgTup, dgCons, dgNil, dZip, dZipR, dIsi, isTy, tgOf, tab, dApp, dgSub, dLstM, dVarF, dBreak, dCont, dSl, dSlR, dPart, dNoPart, dLcG, dChain, dAug, dEnum,
  qI, qI0, qNeg, qEq, qNe, qIsN, qNotN, isNone, eqOk, dIxR, cAbs, cInt, cLen, cSum, cMax2, cMin2, cTup, cList, cListM, eqv_ii, eqv_bb, kFro, kMut,
  endsD, sd1, sd2, sd3, getS, getC, datas, List.length_cons, List.length_nil, List.map_cons, List.map_nil, Option.map_some, List.set_cons_zero, List.set_cons_succ, List.replicate_succ, List.replicate_zero, List.getElem?_cons_zero, List.getElem?_cons_succ, List.cons_append, List.nil_append,
  Option.some.injEq, S.d.injEq, S.ref.injEq, PyData.int.injEq, PyData.bool.injEq, PyData.list.injEq, PyData.tuple.injEq, List.cons.injEq, and_true, true_and, exists_eq_left, exists_eq_left', exists_eq_right, exists_and_left, exists_and_right, exists_const, forall_const, imp_self, reduceCtorEq, false_and, and_false, decide_eq_true_eq, decide_eq_false_iff_not, Bool.not_eq_true', Bool.not_eq_false', ne_eq, Classical.not_not, Bool.true_eq_false, Bool.false_eq_true, Nat.reduceAdd, false_implies, true_implies, implies_true, sizeLine_eq, Nat.reduceLeDiff, decide_true, decide_false, Bool.not_true, Bool.not_false, decide_not])
local macro_rules | `(tactic| walk_at "fm") => `(tactic| simp only [rgS_len, wip, dSeq, ixk_l, ixk_t, ixk_r, ixr_l, ixr_t, ixr_s, ixr_r, tru_n, tru_b, tru_i, tru_l, tru_t, tru_s, tru_r, its_l, its_t, its_r, gtup_t, eqk_i, eqk_b, eqk_s, eqk_t, eqk_l, len_l, len_t, len_s, len_r, int_i, int_b, sum_l, sum_r, tup_l, tup_t, tup_r, lis_l, lis_t, lis_r, lim_l, lim_t, lim_r, zip_t, zip_l, sl_l, sl_t, sl_r, dAsg, dgName, dVar, dC, dOp, dUn, dIxK, dTup, dLst, dCons, dNil, dCall, dCB, dIfS, dIf, dTestR, dTru, dRet, dRetN, dNext, dDrop, dAnd, dOr, dNot, dAndV, dOrV, dNotV, dPar, dFor, dRg1, dRg2, dItems, dgCons, dgNil, dZip, dIsi, isTy, tgOf, tab, dApp, dgSub, dLstM, dVarF, dBreak, dCont, dSl, dPart, dNoPart, dLcG, dChain, dAug, dEnum,
  qI, qI0, qNeg, qEq, qNe, qIsN, qNotN, isNone, qIsB, qNotB, isB, addl_i, addl_t, addl_l, cAbs, cMax2, cMin2, eqv_ii, eqv_bb, kFro, kMut,
  endsD, sd1, sd2, sd3, sd4, sd5, dParN, dRep, dEnumT, mx1_l, mx1_r, qEqC, qNeC, qAddC, getS, getC, datas, List.length_cons, List.length_nil, List.map_cons, List.map_nil, Option.map_some, List.set_cons_zero, List.set_cons_succ, List.replicate_succ, List.replicate_zero, List.getElem?_cons_zero, List.getElem?_cons_succ, List.cons_append, List.nil_append,
  Option.some.injEq, S.d.injEq, S.ref.injEq, PyData.int.injEq, PyData.bool.injEq, PyData.list.injEq, PyData.tuple.injEq, List.cons.injEq, and_true, true_and, exists_eq_left, exists_eq_left', exists_eq_right, exists_and_left, exists_and_right, exists_const, exists_eq', exists_eq, ixk_enc0, ixk_enc1, not_true_eq_false, not_false_eq_true, and_self, enc_eq, dOk_enc, dOk_int, eqv_enc, datas_si, datas_map, intsOf_map, and_assoc, List.length_map, List.length_append, forall_const, imp_self, reduceCtorEq, false_and, and_false, decide_eq_true_eq, decide_eq_false_iff_not, Bool.not_eq_true', Bool.not_eq_false', ne_eq, Classical.not_not, Bool.true_eq_false, Bool.false_eq_true, Nat.reduceAdd, false_implies, true_implies, implies_true, sizeLine_eq, Nat.reduceLeDiff, decide_true, decide_false, Bool.not_true, Bool.not_false, decide_not])
theorem turn_rest {d : EndsD} {scr : S} {row : List Int} {total : Int} {n m c p s : Nat} {E0 : Bx} {P : Pil} {t : Nat} (ok : POk n m c p s E0 P) (D : Deal row total 0) (ht : t < 9) {srcs : List Src} {sh sh' : List Bx} {ins : List (Nat × Option (List Int))} {told : List Out} {st : St} {now : Nat} {q : Int} {o15 o16 o17 : Option S}
    (r : Run n m c p s E0 P t srcs sh ins told st) (hn : now < m) (q0 : 0 ≤ q) (q1 : q ≤ 10000 + 100 * (t : Nat) + 25) (hk : KOk n srcs sh') (hK : ∀ E, estNow P st now = some E → known srcs sh' n = E ∧ sh'.length = t) (hE : EOk n (100 + 2000 * (t : Nat) + 8) (known srcs sh' n))
    (hz : ∀ ρ' cs', Inv scr row total n m c p s E0 P (t + 1) ρ' cs' → d.nx ρ' cs') :
    rd_rest d (Sl4 scr n m s p P (.d (stD st)) (some (si (t : Int))) (some (si (now : Int))) (some (.d (due0 (estNow P st now)))) o15 o16 o17) (St4 row total q srcs sh' ins told) := by
  have hn1 := ok.n1
  have hn3 := ok.n3
  have hre := ok.re
  unfold rd_rest
  refine stp fun T hT => ?_
  unfold Sl4 St4 T__law_known
  walk_at "fm"
  refine ⟨n, rfl, srcs, rfl, sh', rfl, hk, by omega, ?_⟩
  unfold T__law_readings
  walk_at "fm"
  refine ⟨row, total, q, _, n, known srcs sh' n, rfl, rfl, D.next (by omega) (by omega), by omega, 100 + 2000 * (t : Nat) + 8, hE, hn1, hn3, by omega, fun rs q2 hrs g0 g1 => ?_⟩
  have hrs1 : ROk n 100000 rs := hrs.mono (by omega)
  have hrs2 : ROk n (1300 + 2000 * (t : Nat)) rs := hrs.mono (by omega)
  have fin := fun srcs' o17 hk' => turn_end (scr := scr) (srcs' := srcs') (sh' := sh') (q := q2) (o15 := o15) (o17 := o17) ok ht r hn hrs2 hrs1 (by omega) (by omega) hk' hz
  rw [hT]
  refine stp fun T hT => ?_
  have hT' : T = rd_end := hT
  cases he : estNow P st now with
  | none =>
    have hb : beat P st now rs = .brk "way" := by unfold beat; rw [he]; rfl
    rw [hb] at fin
    unfold due0 outD
    walk_at "fm"
    rw [hT']
    exact fin srcs o17 (fun k st' z => by cases z)
  | some E =>
    obtain ⟨e1, e2⟩ := hK E he
    have hb : beat P st now rs = tell P st.ph now (seen P E rs) rs.isSome := by unfold beat; rw [he]; rfl
    have hEE : EOk n (100 + 2000 * (t : Nat) + 8) E := by rw [← e1]; exact hE
    unfold due0
    have told_ : ∀ (srcs' : List Src) (o17 : Option S), KOk n srcs' sh' → srcs'.length ≤ t + 2 → known srcs' sh' n = seen P E rs → EOk n 1000000 (seen P E rs) →
        ixkR 0 (.d (stD st)) (St4 row total q2 srcs' sh' ins told) fun x cs1 => T__law_known [.ref 3, .ref 4, si (n : Int)] cs1 fun x1 cs1 => T__law_told [.d (pilD P), x, si (now : Int), x1, .d (rdD rs)] cs1 fun x cs1 =>
          T d (Sl4 scr n m s p P (.d (stD st)) (some (si (t : Int))) (some (si (now : Int))) (some x) o15 (some (.d (rdD rs))) o17) cs1 := fun srcs' o17 z1 z2 z3 z4 => by
      unfold St4 T__law_known T__law_told stD
      walk_at "fm"
      refine ⟨n, rfl, srcs', rfl, sh', rfl, z1, by omega, ?_⟩
      refine ⟨n, m, c, p, s, E0, P, rfl, known srcs' sh' n, rs, st.ph, rfl, now, rfl, rfl, rfl, ok, r.so.1, hn, by rw [z3]; exact z4, ?_⟩
      rw [z3, ← hb, hT']
      exact fin srcs' o17 fun k st' hg => ⟨z1, z2, e2, by
        rw [z3]
        rw [hb] at hg
        rw [(tell_giv hg).1]⟩
    unfold St4 Sl4 at told_
    cases rs with
    | none =>
      unfold rdD oD at told_ ⊢
      walk_at "fm"
      exact told_ srcs o17 hk (by have := r.sl; omega) e1 (hEE.mono (by omega))
    | some rr =>
      obtain ⟨rl, rb⟩ := hrs rr rfl
      have hF := readB_ok hre rl rb
      have hS : EOk n 1000000 (seen P E (some rr)) := met_ok (hEE.mono (by omega)) (hF.mono (by omega))
      have sl := r.sl
      have kok : KOk n (srcs ++ [(sh'.length, readB P.reads rr)]) sh' := by
        obtain ⟨k1, k2, k3, k4, k5⟩ := hk
        refine ⟨by simp, by simp; omega, k3, fun x hx => ?_, k5⟩
        rcases List.mem_append.mp hx with z | z
        · exact k4 x z
        · have : x = (sh'.length, readB P.reads rr) := by simpa using z
          subst this
          exact ⟨Nat.le_refl _, hF.1⟩
      have ks := known_src hk hF.1
      rw [e1] at ks
      unfold rdD oD intsD at told_ ⊢
      unfold pilD bxD at told_ ⊢
      walk_at "fm"
      refine ⟨by omega, by omega, by omega, ?_⟩
      rw [Int.toNat_natCast]
      refine comp_rng (fun w : Int × Int => S.d (spanD w)) (readB P.reads rr) hF.1.symm (fun i hi R hR => ?_) ?_
      · have i1 : i < P.reads.length := by rw [hre.1]; rw [hF.1] at hi; exact hi
        have i2 : i < rr.length := by rw [rl]; rw [hF.1] at hi; exact hi
        have eg : (readB P.reads rr)[i] = (rr[i] - P.reads[i].1, rr[i] + P.reads[i].2) := List.getElem_zipWith
        rw [eg] at hR
        unfold rd_law_e2
        walk_at "fm"
        refine ⟨_, atI_map PyData.int i2, _, atI_map spanD i1, ?_⟩
        rw [ixs0]
        refine ⟨_, rfl, _, rfl, _, atI_map PyData.int i2, _, atI_map spanD i1, ?_⟩
        rw [ixs1]
        exact ⟨_, rfl, _, rfl, hR⟩
      rw [e2] at kok ks
      have es : (srcs.map fun s => S.d (srcD s)) ++ [S.d (PyData.tuple [.int (t : Int), .tuple ((readB P.reads rr).map spanD)])] = (srcs ++ [(t, readB P.reads rr)]).map fun s => S.d (srcD s) := by rw [List.map_append]; rfl
      refine ⟨_, datas_fn _ _, ⟨_, rfl⟩, _, rfl, by rw [List.length_map]; omega, ?_⟩
      rw [es]
      exact told_ (srcs ++ [(t, readB P.reads rr)]) _ kok (by simp; omega) ks hS
end K44

set_option Elab.async false
set_option linter.all false
set_option maxRecDepth 100000
set_option maxHeartbeats 2000000
namespace K44
open PySem L2 FL FR
local macro_rules | `(tactic| walk_at "fl") => `(tactic| simp only [dSeq, dAsg, dgName, dVar, dC, dOp, dUn, dIxK, ixkR, itemsR, dTup, dLst, dCons, dNil, dCall, dCB, dIfS, dIf, dTestR, dTru, dTruR, dRet, dRetN, dNext, dDrop, dAnd, dOr, dNot, dAndV, dOrV, dNotV, dPar, dFor, dRg1, dRg2, dItems, dgTup, dgCons, dgNil, dZip, dZipR, dIsi, isTy, tgOf, tab, dApp, dgSub, dLstM, dVarF, dBreak, dCont, dSl, dSlR, dPart, dNoPart, dLcG, dChain, dAug, dEnum,
  qI, qI0, qNeg, qEq, qNe, qIsN, qNotN, isNone, eqOk, dIxR, cAbs, cInt, cLen, cSum, cMax2, cMin2, cTup, cList, cListM, eqv_ii, eqv_bb, kFro, kMut,
  endsD, sd1, sd2, sd3, getS, getC, datas, List.length_cons, List.length_nil, List.map_cons, List.map_nil, Option.map_some, List.set_cons_zero, List.set_cons_succ, List.replicate_succ, List.replicate_zero, List.getElem?_cons_zero, List.getElem?_cons_succ, List.cons_append, List.nil_append,
  Option.some.injEq, S.d.injEq, S.ref.injEq, PyData.int.injEq, PyData.bool.injEq, PyData.list.injEq, PyData.tuple.injEq, List.cons.injEq, and_true, true_and, exists_eq_left, exists_eq_left', exists_eq_right, exists_and_left, exists_and_right, exists_const, forall_const, imp_self, reduceCtorEq, false_and, and_false, decide_eq_true_eq, decide_eq_false_iff_not, Bool.not_eq_true', Bool.not_eq_false', ne_eq, Classical.not_not, Bool.true_eq_false, Bool.false_eq_true, Nat.reduceAdd, false_implies, true_implies, implies_true, sizeLine_eq, Nat.reduceLeDiff, decide_true, decide_false, Bool.not_true, Bool.not_false, decide_not])
local macro_rules | `(tactic| walk_at "fm") => `(tactic| simp only [rgS_len, wip, dSeq, ixk_l, ixk_t, ixk_r, ixr_l, ixr_t, ixr_s, ixr_r, tru_n, tru_b, tru_i, tru_l, tru_t, tru_s, tru_r, its_l, its_t, its_r, gtup_t, eqk_i, eqk_b, eqk_s, eqk_t, eqk_l, len_l, len_t, len_s, len_r, int_i, int_b, sum_l, sum_r, tup_l, tup_t, tup_r, lis_l, lis_t, lis_r, lim_l, lim_t, lim_r, zip_t, zip_l, sl_l, sl_t, sl_r, dAsg, dgName, dVar, dC, dOp, dUn, dIxK, dTup, dLst, dCons, dNil, dCall, dCB, dIfS, dIf, dTestR, dTru, dRet, dRetN, dNext, dDrop, dAnd, dOr, dNot, dAndV, dOrV, dNotV, dPar, dFor, dRg1, dRg2, dItems, dgCons, dgNil, dZip, dIsi, isTy, tgOf, tab, dApp, dgSub, dLstM, dVarF, dBreak, dCont, dSl, dPart, dNoPart, dLcG, dChain, dAug, dEnum,
  qI, qI0, qNeg, qEq, qNe, qIsN, qNotN, isNone, qIsB, qNotB, isB, addl_i, addl_t, addl_l, cAbs, cMax2, cMin2, eqv_ii, eqv_bb, kFro, kMut,
  endsD, sd1, sd2, sd3, sd4, sd5, dParN, dRep, dEnumT, mx1_l, mx1_r, qEqC, qNeC, qAddC, getS, getC, datas, List.length_cons, List.length_nil, List.map_cons, List.map_nil, Option.map_some, List.set_cons_zero, List.set_cons_succ, List.replicate_succ, List.replicate_zero, List.getElem?_cons_zero, List.getElem?_cons_succ, List.cons_append, List.nil_append,
  Option.some.injEq, S.d.injEq, S.ref.injEq, PyData.int.injEq, PyData.bool.injEq, PyData.list.injEq, PyData.tuple.injEq, List.cons.injEq, and_true, true_and, exists_eq_left, exists_eq_left', exists_eq_right, exists_and_left, exists_and_right, exists_const, exists_eq', exists_eq, ixk_enc0, ixk_enc1, not_true_eq_false, not_false_eq_true, and_self, enc_eq, dOk_enc, dOk_int, eqv_enc, datas_si, datas_map, intsOf_map, and_assoc, List.length_map, List.length_append, forall_const, imp_self, reduceCtorEq, false_and, and_false, decide_eq_true_eq, decide_eq_false_iff_not, Bool.not_eq_true', Bool.not_eq_false', ne_eq, Classical.not_not, Bool.true_eq_false, Bool.false_eq_true, Nat.reduceAdd, false_implies, true_implies, implies_true, sizeLine_eq, Nat.reduceLeDiff, decide_true, decide_false, Bool.not_true, Bool.not_false, decide_not])
theorem eqv_snoc (as : List PyData) (a : PyData) : PyData.eqv (.list (as ++ [a])) (.list []) = false := by
  rw [eqv_ll]
  cases as <;> exact eqvA_cn _ _
theorem outs_sh {n : Nat} {os : List Out} (h : ∀ o ∈ os, OutOk n o) (hn : n ≤ 100) (hl : os.length ≤ 100) : eqOk (.list (os.map outD)) (.list []) := ⟨sOk_sh (sOk_outs h hn hl), sOk_sh (n := 1) rfl⟩
/-- the loop's body -/
theorem law_turn {d : EndsD} {scr : S} {row : List Int} {total : Int} {n m c p s : Nat} {E0 : Bx} {P : Pil} {t : Nat} (ok : POk n m c p s E0 P) (D : Deal row total 0) (ht : t < 9) {ρ : Ev} {cs' : Sto}
    (hi : Inv scr row total n m c p s E0 P t ρ cs') (hz : ∀ ρ' cs', Inv scr row total n m c p s E0 P (t + 1) ρ' cs' → d.nx ρ' cs')
    (hbk : ∀ srcs sh ins told q S7 o12 o13 o14 o15 o16 o17, 0 ≤ q → Brk n m p s E0 P ins told → d.bk (Sl4 scr n m s p P S7 o12 o13 o14 o15 o16 o17) (St4 row total q srcs sh ins told)) :
    rd_law_b1 d (ρ.set 12 (some (si (t : Int)))) cs' := by
  obtain ⟨srcs, sh, ins, told, q, st, o12, o13, o14, o15, o16, o17, rfl, q0, q1, rfl, h⟩ := hi
  have hm1 := ok.m1
  have hn3 := ok.n3
  unfold rd_law_b1
  refine stp fun T hT => ?_
  have b1 : PyData.eqv (.str "broken") (.str "broken") = true := by rw [eqv_ss]; simp
  have b2 : PyData.eqv (.str "given") (.str "broken") = false := by rw [eqv_ss]; decide
  rcases h with r | b
  · -- it runs
    have next : T d (Sl4 scr n m s p P (.d (stD st)) (some (si (t : Int))) o13 o14 o15 o16 o17) (St4 row total q srcs sh ins told) := by
      rw [hT]
      refine stp fun T hT => ?_
      have hT' : T = rd_rest := hT
      have kE : EOk n (100 + 2000 * (t : Nat)) (known srcs sh n) := by rw [r.kn]; exact r.so.2.2.1
      have rest := fun now (q' : Int) o15 (hn : now < m) (h0 : 0 ≤ q') (h1 : q' ≤ 10000 + 100 * (t : Nat) + 25) sh' hk hK hE => turn_rest (d := d) (scr := scr) (q := q') (o15 := o15) (o16 := o16) (o17 := o17) (sh' := sh') (now := now) ok D ht r hn h0 h1 hk hK hE hz
      by_cases h0 : t = 0
      · have es := r.c0 h0
        have hsl := r.shl
        have go : ∀ (now : Nat) (q' : Int), now < m → 0 ≤ q' → q' ≤ 10000 + 100 * (t : Nat) + 25 → rd_rest d (Sl4 scr n m s p P (.d (stD st)) (some (si (t : Int))) (some (si (now : Int))) (some (.d (due0 (estNow P st now)))) o15 o16 o17) (St4 row total q' srcs sh ins told) := fun now q' hn e0 e1 =>
          rest now q' o15 hn e0 e1 sh r.K (fun E he => by
            rw [es] at he
            unfold estNow st0 at he
            simp only at he
            split at he
            · cases he
              refine ⟨by rw [r.kn, es]; rfl, by omega⟩
            · cases he) (kE.mono (by omega))
        have e1 : ∀ now : Nat, estNow P st now = if now = s then some E0 else none := fun now => by rw [es]; rfl
        unfold Sl4 St4 at *
        unfold T__law_take
        walk_at "fm"
        refine ⟨fun _ => ?_, fun z => absurd (by omega) z⟩
        refine ⟨row, total, q, _, rfl, D.next (by omega) (by omega), by decide, fun v v0 v1 => ⟨fun _ => ?_, fun _ => ?_⟩⟩
        · have g := go s (q + 1) ok.s0 (by omega) (by omega)
          rw [e1, if_pos rfl] at g
          rw [hT']
          exact g
        · refine ⟨row, total, q + 1, _, rfl, D.next (by omega) (by omega), by omega, fun v2 v20 v21 => ?_⟩
          obtain ⟨now, rfl⟩ : ∃ now : Nat, v2 = (now : Int) := ⟨v2.toNat, by omega⟩
          have g := go now (q + 1 + 1) (by omega) (by omega) (by omega)
          rw [e1] at g
          rw [hT']
          refine ⟨fun z => ?_, fun z => ?_⟩
          · rw [if_neg (by omega)] at g
            exact g
          · rw [if_pos (by omega)] at g
            exact g
      · obtain ⟨k, hk⟩ := r.c1 (by omega)
        obtain ⟨k0, k1⟩ := r.so.2.2.2 k hk
        have hsl := r.shl
        have hmd := r.so.2.1
        have K := r.K
        have kn := r.kn
        clear r
        obtain ⟨ph, md, es, cm⟩ := st
        simp only at hk hmd kn
        subst hk
        unfold Sl4 St4 at *
        unfold T__law_now stD oD at *
        walk_at "fm"
        refine ⟨fun z => absurd z (by omega), fun _ => ?_⟩
        refine ⟨row, total, q, _, n, m, c, p, s, E0, P, rfl, md, rfl, rfl, D.next (by omega) (by omega), by omega, ok, hmd, k0, k1, fun now q2 hn g0 g1 => ?_⟩
        obtain ⟨o1, o2, o3, o4⟩ := off_at ok hmd hn k0 k1
        unfold pilD offsD at *
        walk_at "fm"
        refine ⟨_, o1, ?_⟩
        unfold cmdD at *
        walk_at "fm"
        refine ⟨_, o2, ?_⟩
        unfold wayD at *
        walk_at "fm"
        refine ⟨_, o3, ?_⟩
        rw [hT']
        cases ho : off P md k now with
        | none =>
          have he : estNow P ⟨ph, md, es, some k⟩ now = none := by unfold estNow; simp only; rw [ho]; rfl
          have g := rest now q2 (some (.d .none)) hn (by omega) (by omega) sh K (fun E hE => by rw [he] at hE; cases hE) (kE.mono (by omega))
          rw [he] at g
          rw [show oD bxD (none : Option Bx) = PyData.none from rfl]
          walk_at "fm"
          exact g
        | some o =>
          have he : estNow P ⟨ph, md, es, some k⟩ now = some (gone es o) := by unfold estNow; simp only; rw [ho]; rfl
          have ol := o4 o ho
          have ks := known_shift K ol.1
          have gk : EOk n (100 + 2000 * (t : Nat) + 8) (known srcs (sh ++ [o]) n) := by rw [ks]; exact gone_ok kE ol
          have K' : KOk n srcs (sh ++ [o]) := by
            obtain ⟨k1, k2, k3, k4, k5⟩ := K
            refine ⟨k1, k2, by rw [List.length_append]; simp; omega, fun x hx => ⟨by have := (k4 x hx).1; rw [List.length_append]; omega, (k4 x hx).2⟩, fun x hx => ?_⟩
            rcases List.mem_append.mp hx with z | z
            · exact k5 x z
            · have : x = o := by simpa using z
              rw [this]; exact ol.1
          have g := rest now q2 (some (.d (bxD o))) hn (by omega) (by omega) (sh ++ [o]) K' (fun E hE => by
            rw [he] at hE
            cases hE
            exact ⟨by rw [ks, kn], by rw [List.length_append]; simp; omega⟩) gk
          rw [he] at g
          have es_ : (sh.map fun s => S.d (bxD s)) ++ [S.d (bxD o)] = (sh ++ [o]).map fun s => S.d (bxD s) := by rw [List.map_append]; rfl
          rw [← es_] at g
          rw [show oD bxD (some o) = bxD o from rfl]
          unfold bxD at *
          walk_at "fm"
          exact ⟨⟨_, rfl⟩, _, rfl, by rw [List.length_map]; omega, g⟩
    unfold Sl4 St4 at *
    walk_at "fm"
    refine ⟨_, cell_of (f := outD) rfl, outs_sh (fun o ho => (r.td o ho).1) (by omega) (by rw [r.tl]; omega), fun z => ?_, fun z => next⟩
    rcases List.eq_nil_or_concat told with e | ⟨l, o, e⟩
    · subst e
      rw [List.map_nil, eqv_ll, eqvA_n] at z
      cases z
    · rw [List.concat_eq_append] at e
      obtain ⟨_, k, st1, e2⟩ := r.td o (by rw [e]; simp)
      refine ⟨_, rfl, S.d (outD o), by rw [e, List.map_append]; exact atI_last _ _, ?_⟩
      rw [e2]
      refine ⟨_, rfl, _, rfl, trivial, fun z => ?_, fun _ => next⟩
      rw [b2] at z; cases z
  · obtain ⟨l, w, e⟩ := b.la
    have hh := fun o12 => hbk srcs sh ins told q (.d (stD st)) o12 o13 o14 o15 o16 o17 q0 b
    have bt := b.tl
    unfold Sl4 St4 at *
    walk_at "fm"
    refine ⟨_, cell_of (f := outD) rfl, outs_sh b.td (by omega) (by omega), fun z => ?_, fun z => ?_⟩
    · refine ⟨_, rfl, S.d (outD (.brk w)), by rw [e, List.map_append]; exact atI_last _ _, ?_⟩
      refine ⟨_, rfl, _, rfl, trivial, fun _ => hh _, fun z => ?_⟩
      rw [b1] at z; cases z
    · rw [e, List.map_append] at z
      have := eqv_snoc (l.map outD) (outD (.brk w))
      rw [show ([Out.brk w].map outD) = [outD (.brk w)] from rfl, this] at z
      cases z
end K44

set_option Elab.async false
set_option linter.all false
set_option maxRecDepth 100000
set_option maxHeartbeats 2000000
namespace K44
open PySem L2 FL FR
local macro_rules | `(tactic| walk_at "fl") => `(tactic| simp only [dSeq, dAsg, dgName, dVar, dC, dOp, dUn, dIxK, ixkR, itemsR, dTup, dLst, dCons, dNil, dCall, dCB, dIfS, dIf, dTestR, dTru, dTruR, dRet, dRetN, dNext, dDrop, dAnd, dOr, dNot, dAndV, dOrV, dNotV, dPar, dFor, dRg1, dRg2, dItems, dgTup, dgCons, dgNil, dZip, dZipR, dIsi, isTy, tgOf, tab, dApp, dgSub, dLstM, dVarF, dBreak, dCont, dSl, dSlR, dPart, dNoPart, dLcG, dChain, dAug, dEnum,
  qI, qI0, qNeg, qEq, qNe, qIsN, qNotN, isNone, eqOk, dIxR, cAbs, cInt, cLen, cSum, cMax2, cMin2, cTup, cList, cListM, eqv_ii, eqv_bb, kFro, kMut,
  endsD, sd1, sd2, sd3, getS, getC, datas, List.length_cons, List.length_nil, List.map_cons, List.map_nil, Option.map_some, List.set_cons_zero, List.set_cons_succ, List.replicate_succ, List.replicate_zero, List.getElem?_cons_zero, List.getElem?_cons_succ, List.cons_append, List.nil_append,
  Option.some.injEq, S.d.injEq, S.ref.injEq, PyData.int.injEq, PyData.bool.injEq, PyData.list.injEq, PyData.tuple.injEq, List.cons.injEq, and_true, true_and, exists_eq_left, exists_eq_left', exists_eq_right, exists_and_left, exists_and_right, exists_const, forall_const, imp_self, reduceCtorEq, false_and, and_false, decide_eq_true_eq, decide_eq_false_iff_not, Bool.not_eq_true', Bool.not_eq_false', ne_eq, Classical.not_not, Bool.true_eq_false, Bool.false_eq_true, Nat.reduceAdd, false_implies, true_implies, implies_true, sizeLine_eq, Nat.reduceLeDiff, decide_true, decide_false, Bool.not_true, Bool.not_false, decide_not])
local macro_rules | `(tactic| walk_at "fm") => `(tactic| simp only [rgS_len, wip, dSeq, ixk_l, ixk_t, ixk_r, ixr_l, ixr_t, ixr_s, ixr_r, tru_n, tru_b, tru_i, tru_l, tru_t, tru_s, tru_r, its_l, its_t, its_r, gtup_t, eqk_i, eqk_b, eqk_s, eqk_t, eqk_l, len_l, len_t, len_s, len_r, int_i, int_b, sum_l, sum_r, tup_l, tup_t, tup_r, lis_l, lis_t, lis_r, lim_l, lim_t, lim_r, zip_t, zip_l, sl_l, sl_t, sl_r, dAsg, dgName, dVar, dC, dOp, dUn, dIxK, dTup, dLst, dCons, dNil, dCall, dCB, dIfS, dIf, dTestR, dTru, dRet, dRetN, dNext, dDrop, dAnd, dOr, dNot, dAndV, dOrV, dNotV, dPar, dFor, dRg1, dRg2, dItems, dgCons, dgNil, dZip, dIsi, isTy, tgOf, tab, dApp, dgSub, dLstM, dVarF, dBreak, dCont, dSl, dPart, dNoPart, dLcG, dChain, dAug, dEnum,
  qI, qI0, qNeg, qEq, qNe, qIsN, qNotN, isNone, qIsB, qNotB, isB, addl_i, addl_t, addl_l, cAbs, cMax2, cMin2, eqv_ii, eqv_bb, kFro, kMut,
  endsD, sd1, sd2, sd3, sd4, sd5, dParN, dRep, dEnumT, mx1_l, mx1_r, qEqC, qNeC, qAddC, getS, getC, datas, List.length_cons, List.length_nil, List.map_cons, List.map_nil, Option.map_some, List.set_cons_zero, List.set_cons_succ, List.replicate_succ, List.replicate_zero, List.getElem?_cons_zero, List.getElem?_cons_succ, List.cons_append, List.nil_append,
  Option.some.injEq, S.d.injEq, S.ref.injEq, PyData.int.injEq, PyData.bool.injEq, PyData.list.injEq, PyData.tuple.injEq, List.cons.injEq, and_true, true_and, exists_eq_left, exists_eq_left', exists_eq_right, exists_and_left, exists_and_right, exists_const, exists_eq', exists_eq, ixk_enc0, ixk_enc1, not_true_eq_false, not_false_eq_true, and_self, enc_eq, dOk_enc, dOk_int, eqv_enc, datas_si, datas_map, intsOf_map, and_assoc, List.length_map, List.length_append, forall_const, imp_self, reduceCtorEq, false_and, and_false, decide_eq_true_eq, decide_eq_false_iff_not, Bool.not_eq_true', Bool.not_eq_false', ne_eq, Classical.not_not, Bool.true_eq_false, Bool.false_eq_true, Nat.reduceAdd, false_implies, true_implies, implies_true, sizeLine_eq, Nat.reduceLeDiff, decide_true, decide_false, Bool.not_true, Bool.not_false, decide_not])
structure Fin (n m p s : Nat) (E0 : Bx) (P : Pil) (ins : List (Nat × Option (List Int))) (told : List Out) : Prop where
  il : ins.length ≤ 9
  ii : ∀ i ∈ ins, i.1 < m ∧ ROk n 100000 i.2
  tl : told.length ≤ 9
  td : ∀ o ∈ told, OutOk n o
  dr : drv P (st0 p s E0) ins = told
  la : ∃ l o, told = l ++ [o] ∧ ((∃ k st, o = .giv k st) ∨ ((∃ w, o = .brk w) ∧ ∀ more, drv P (st0 p s E0) (ins ++ more) = told))
def rd_fin : TSD := (dSeq (dAsg (dLst (dCons (dTup (dCons (dC (.int 0)) (dCons (dC .none) dNil))) (dCons (dTup (dCons (dOp qSub (dVar 4) (dC (.int 1))) (dCons (dCB cTup (dCons (dRep (dCons (dC (.int 0)) dNil) (dVar 2)) dNil)) dNil))) dNil))) (dgName 18)) (dRet (dAndV (dCall 2 T__law_same (dCons (dCall 2 T_driven (dCons (dVar 3) (dCons (dVar 10) dNil))) (dCons (dVar 11) dNil))) (dOrV (dOp qEq (dIxK 0 (dOp dIxR (dVar 11) (dUn qNeg (dC (.int 1))))) (dC (.str "given"))) (dCall 2 T__law_same (dCons (dCall 2 T_driven (dCons (dVar 3) (dCons (dOp qAddC (dVar 10) (dVar 18)) dNil))) (dCons (dVar 11) dNil)))))))
theorem rep_flat (n : Nat) : (List.replicate n [PyData.int 0]).flatten = (List.replicate n (0 : Int)).map PyData.int := by
  induction n with
  | zero => rfl
  | succ n ih => rw [List.replicate_succ, List.replicate_succ, List.flatten_cons, List.map_cons, ih]; rfl
theorem law_fin {scr : S} {row : List Int} {total : Int} {n m c p s : Nat} {E0 : Bx} {P : Pil} {R : RK} {k0 : Nat} {nx : Ev → Sto → Prop} (ok : POk n m c p s E0 P) (hR : ∀ cs', R (sb true) cs') {srcs : List Src} {sh : List Bx} {ins : List (Nat × Option (List Int))} {told : List Out} {q : Int} {S7 : S} {o12 o13 o14 o15 o16 o17 : Option S}
    (f : Fin n m p s E0 P ins told) : rd_fin { nx := nx, rt := rtD k0 R, bk := fun _ _ => False, ct := fun _ _ => False } (Sl4 scr n m s p P S7 o12 o13 o14 o15 o16 o17) (St4 row total q srcs sh ins told) := by
  have hn1 := ok.n1
  have hn3 := ok.n3
  have hm1 := ok.m1
  have hm4 := ok.m4
  have g1 : PyData.eqv (.str "given") (.str "given") = true := by rw [eqv_ss]; simp
  have g2 : PyData.eqv (.str "broken") (.str "given") = false := by rw [eqv_ss]; decide
  obtain ⟨more, hmore⟩ : ∃ more : List (Nat × Option (List Int)), more = [(0, none), (m - 1, some (List.replicate n 0))] := ⟨_, rfl⟩
  have em : [PyData.tuple [.int 0, .none], .tuple [.int ((m : Int) - 1), .tuple (List.replicate (Int.toNat n) [PyData.int 0]).flatten]] = more.map inD := by
    rw [hmore, Int.toNat_natCast]
    have e1 : ((m : Int) - 1) = ((m - 1 : Nat) : Int) := by omega
    have e2 := rep_flat n
    rw [e1, e2]
    rfl
  unfold rd_fin
  refine stp fun T hT => ?_
  unfold Sl4
  walk_at "fm"
  refine ⟨by omega, by omega, by rw [Int.toNat_natCast]; omega, ?_⟩
  rw [em, hT]
  have so := sOk_d _ _ (sOk_mono1 _ _ (sOk_mono1 _ _ (sOk_outs f.td (by omega) (by have := f.tl; omega))))
  have ic : ∀ (ls : Sto), cellL (.ref 5) (St4 row total q srcs sh ins told) = some (.list (ins.map inD)) := fun _ => cell_of (f := inD) rfl
  have oc : cellL (.ref 6) (St4 row total q srcs sh ins told) = some (.list (told.map outD)) := cell_of (f := outD) rfl
  have mok : ∀ i ∈ more, i.1 < m ∧ ROk n 100000 i.2 := fun i hi => by
    rw [hmore] at hi
    simp only [List.mem_cons, List.not_mem_nil, or_false] at hi
    rcases hi with rfl | rfl
    · exact ⟨by simp only; omega, fun r hr => by cases hr⟩
    · refine ⟨by simp only; omega, fun r hr => ?_⟩
      cases hr
      refine ⟨by simp, fun v hv => ?_⟩
      have := List.eq_of_mem_replicate hv
      omega
  have ml : more.length = 2 := by rw [hmore]; rfl
  have il := f.il
  unfold T__law_same T__law_sameN T_driven
  walk_at "fm"
  obtain ⟨l, o, e, hla⟩ := f.la
  refine ⟨n, m, c, p, s, E0, P, rfl, ins, ic [], ok, ⟨by omega, f.ii⟩, by rw [f.dr]; exact oc, by rw [f.dr]; exact so, _, rfl, S.d (outD o), by rw [e, List.map_append]; exact atI_last _ _, ?_⟩
  rcases hla with ⟨k, st, rfl⟩ | ⟨⟨w, rfl⟩, hd⟩
  · refine ⟨_, rfl, _, rfl, trivial, fun _ => rt_l (hR _), fun z => ?_⟩
    rw [g1] at z; cases z
  · refine ⟨_, rfl, _, rfl, trivial, fun z => ?_, fun _ => ?_⟩
    · rw [g2] at z; cases z
    · refine ⟨ins.map inD, ic [], more.map inD, rfl, by rw [List.length_map, List.length_map]; omega, n, m, c, p, s, E0, P, rfl, ins ++ more, by rw [List.map_append]; rfl, ok, ⟨by rw [List.length_append]; omega, fun i hi => ?_⟩, by rw [hd]; exact oc, by rw [hd]; exact so, rt_l (hR _)⟩
      rcases List.mem_append.mp hi with z | z
      · exact f.ii i z
      · exact mok i z
theorem rg_map (n : Nat) : rgS 0 n = (List.range n).map fun i => si (i : Nat) := by
  unfold rgS
  refine List.map_congr_left fun i _ => ?_
  rw [Int.zero_add]
theorem range_one {m s : Nat} (h : s < m) (h4 : m ≤ 4) : (List.range m).filter (fun q => decide (q = s)) = [s] := by
  rcases ms_cases h h4 with ⟨rfl, rfl⟩ | ⟨rfl, rfl⟩ | ⟨rfl, rfl⟩ | ⟨rfl, rfl⟩ | ⟨rfl, rfl⟩ | ⟨rfl, rfl⟩ | ⟨rfl, rfl⟩ | ⟨rfl, rfl⟩ | ⟨rfl, rfl⟩ | ⟨rfl, rfl⟩ <;> rfl
theorem m_law : ∀ xs cs R, xs.length = 1 → Okc cs.length cs → T_law xs cs R → rd_law (endsD cs.length R) (startD 21 xs) cs := by
  rintro xs cs R hl hc ⟨rfl, ns, rfl, hn, h⟩
  unfold rd_law
  refine stp fun T hT => ?_
  unfold T__law_deal
  walk_at "fm"
  refine ⟨ns, rfl, hn, fun row total D => ?_⟩
  rw [hT]
  refine stp fun T hT => ?_
  unfold T__law_pick
  walk_at "fm"
  refine ⟨row, total, 0, [], rfl, D, by decide, fun d hd => ?_⟩
  obtain ⟨n, rfl, n1, n3⟩ : ∃ n : Nat, d = .int (n : Int) ∧ 1 ≤ n ∧ n ≤ 3 := by
    simp only [List.mem_cons, List.not_mem_nil, or_false] at hd
    rcases hd with rfl | rfl | rfl | rfl
    · exact ⟨3, rfl, by decide, by decide⟩
    · exact ⟨2, rfl, by decide, by decide⟩
    · exact ⟨1, rfl, by decide, by decide⟩
    · exact ⟨3, rfl, by decide, by decide⟩
  rw [hT]
  refine stp fun T hT => ?_
  unfold T__law_pilot
  walk_at "fm"
  refine ⟨row, total, _, [], n, rfl, rfl, D.next (by omega) (by omega), by omega, n1, n3, fun m c p s E P q ok q0 q1 => ?_⟩
  have hm1 := ok.m1
  have hm4 := ok.m4
  have hp1 := ok.p1
  rw [hT]
  refine stp fun T hT => ?_
  unfold pilD offsD
  walk_at "fm"
  rw [ok.ol, hT]
  refine stp fun T hT => ?_
  unfold T_is_fixed_pilot
  walk_at "fm"
  refine ⟨n, m, c, p, s, E, P, rfl, ok, ?_⟩
  rw [hT]
  refine stp fun T hT => ?_
  walk_at "fm"
  refine ⟨by omega, by omega, by omega, ?_⟩
  rw [Int.toNat_natCast, rg_map]
  have fl : P.firsts.length = m := by rw [ok.fs]; simp
  refine comp_flt (fun i : Nat => si (i : Nat)) (fun q => decide (q = s)) (fun i : Nat => si (i : Nat)) trivial _ _ (fun i hi Y Nn hy hnn => ?_) ⟨_, datas_fn _ _, ?_⟩
  · have him := List.mem_range.mp hi
    have gi : P.firsts.getD i none = if i = s then some E else none := by
      rw [ok.fs, List.getD_eq_getElem?_getD, List.getElem?_map, List.getElem?_range him]
      rfl
    have ai := atI_getD (oD bxD) none (as := P.firsts) (i := i) (by omega)
    rw [gi] at ai
    unfold rd_law_t1 rd_law_e1
    walk_at "fm"
    refine ⟨_, ai, ?_⟩
    by_cases e : i = s
    · rw [if_pos e, show oD bxD (some E) = bxD E from rfl]
      unfold bxD
      walk_at "fm"
      exact hy (decide_eq_true e)
    · rw [if_neg e, show oD bxD (none : Option Bx) = PyData.none from rfl]
      walk_at "fm"
      exact hnn (decide_eq_false e)
  rw [range_one ok.s0 hm4]
  refine ⟨_, rfl, ?_⟩
  rw [hT]
  refine stp fun T hT => ?_
  unfold tabsD
  walk_at "fm"
  rw [hT, ok.tl, show ((p : Int) - 1) = ((p - 1 : Nat) : Int) by omega]
  refine stp fun T hT => ?_
  obtain ⟨f1, f2⟩ := first_at ok
  have af := atI_getD (oD bxD) none f2
  rw [f1] at af
  walk_at "fm"
  refine ⟨_, af, ?_⟩
  rw [hT]
  refine stp fun T hT => ?_
  unfold T__law_same T__law_sameN T_first_state
  walk_at "fm"
  refine ⟨n, m, c, p, s, E, P, rfl, ok, rfl, sOk_d _ _ (sOk_mono1 _ _ (sOk_mono1 _ _ (sOk_mono1 _ _ (sOk_mono1 _ _ (sOk_st (st := st0 p s E) (by show E.length ≤ 100; rw [ok.e0.1]; omega)))))), ?_⟩
  rw [hT]
  refine stp fun T hT => ?_
  walk_at "fm"
  refine ⟨_, af, ?_⟩
  rw [hT]
  refine stp fun T hT => ?_
  have hT' : T = rd_fin := hT
  walk_at "fm"
  refine ⟨by omega, by omega, ?_⟩
  have fb : ∀ {ins told}, Brk n m p s E P ins told → Fin n m p s E P ins told := fun {ins told} b => by
    obtain ⟨l, w, e⟩ := b.la
    have := b.dr []
    rw [List.append_nil] at this
    exact ⟨b.il, b.ii, b.tl, b.td, this, l, _, e, .inr ⟨⟨w, rfl⟩, b.dr⟩⟩
  refine for_rng 9 (Inv (.d (.list (ns.map PyData.int))) row total n m c p s E P) ?_ (fun k ρ cs' hk hi Z hz => law_turn ok D hk hi hz fun srcs sh ins told q S7 o12 o13 o14 o15 o16 o17 h0 b => ?_) ?_
  · rintro ρ cs' ⟨srcs, sh, ins, told, q, st, o12, o13, o14, o15, o16, o17, rfl, _, _, rfl, hb⟩
    have hf : Fin n m p s E P ins told := by
      rcases hb with r | b
      · rcases List.eq_nil_or_concat told with e | ⟨l, o, e⟩
        · have := r.tl
          rw [e] at this
          simp at this
        · rw [List.concat_eq_append] at e
          obtain ⟨_, k, st1, e2⟩ := r.td o (by rw [e]; simp)
          have d0 := r.dr []
          rw [List.append_nil, show drv P st [] = [] by unfold drv; rfl, List.append_nil] at d0
          have il := r.il
          have tl := r.tl
          exact ⟨by omega, r.ii, by omega, fun o ho => (r.td o ho).1, d0, l, o, e, .inl ⟨k, st1, e2⟩⟩
      · exact fb b
    rw [hT']
    exact law_fin ok h hf
  · show T _ _ _
    rw [hT']
    exact law_fin ok h (fb b)
  · have e0 := ok.e0
    refine ⟨[(0, E)], [], [], [], q, st0 p s E, _, _, _, _, _, _, rfl, by omega, by omega, rfl, .inl ⟨⟨by simp, by simp, by simp, fun x hx => ?_, fun x hx => (by cases hx)⟩, by simp, rfl, known_0 E e0.1, ⟨by show p - 1 < p; omega, ok.s0, e0.mono (by decide), fun k hk => (by cases hk)⟩, fun _ => rfl, fun z => by omega, rfl, (fun x hx => (by cases hx)), rfl, (fun x hx => (by cases hx)), fun more => rfl⟩⟩
    have : x = (0, E) := by simpa using hx
    subst this
    exact ⟨Nat.le_refl _, e0.1⟩
end K44

set_option Elab.async false
set_option linter.all false
set_option maxRecDepth 100000
set_option maxHeartbeats 4000000
namespace K44
open PySem L2 FL FR
def top (i : Nat) : Stmt := PySem.Challenge.pw_surepilot_k44_whole_all_that_was_read.main.body.getD i (.Pass ⟨0, 0, 0, 0⟩)
structure Txt (K : PySem.W.Frag) (mg : Str → Option Value) : Prop where
  b_abs : mg "abs" = none
  b_len : mg "len" = none
  b_zip : mg "zip" = none
  b_tuple : mg "tuple" = none
  b_max : mg "max" = none
  b_min : mg "min" = none
  b_isinstance : mg "isinstance" = none
  b_int : mg "int" = none
  b_bool : mg "bool" = none
  b_sum : mg "sum" = none
  b_enumerate : mg "enumerate" = none
  b_range : mg "range" = none
  b_list : mg "list" = none
  b_str : mg "str" = none
  c_NOTHING : GlobD K mg "NOTHING" c_NOTHING
  c_BROKEN : GlobD K mg "BROKEN" c_BROKEN
  c_WAY : GlobD K mg "WAY" c_WAY
  c_EMPTY : GlobD K mg "EMPTY" c_EMPTY
  c_SPAN : GlobD K mg "SPAN" c_SPAN
  c_NONE : GlobD K mg "NONE" c_NONE
  c_GIVEN : GlobD K mg "GIVEN" c_GIVEN
  c_MOST_PHASES : GlobD K mg "MOST_PHASES" c_MOST_PHASES
section
variable {P : Program} {w : World} {K : PySem.W.Frag} {mg : Str → Option Value} {base : Heap}
abbrev s_greatest_divisor : Stmt := top 2
theorem sc_greatest_divisor : FnScope ["p", "q"] ["p", "q"] (defScope s_greatest_divisor) := ⟨rfl, rfl, rfl, by decide +kernel, rfl, by decide +kernel, by decide +kernel⟩
theorem ok_greatest_divisor {f : Addr} {fd : FuncData} (F : Fun K "greatest_divisor" "greatest_divisor" s_greatest_divisor f fd) (T : Txt K mg)  : FnOk P w K mg base CX0 1 f fd ["p", "q"] (spD K 2 T_greatest_divisor) := by
  refine fn_okD (k := 0) F sc_greatest_divisor rfl fun cdv A outer s H hr => ⟨rd_greatest_divisor, ?_, m_greatest_divisor⟩
  exact (ess_cons (es_while PassesOwn.never (et_ne hr.units (ee_var 1) ee_int)
    (ess_one (es_par 0 1 rfl sc_greatest_divisor.nd rfl rfl (by decide) rfl rfl (ea_cons (ee_var 1) (ea_cons (ee_mod (ee_var 0) (ee_var 1)) ea_nil)) (by rfl))))
    (ess_one (es_ret (ec_abs (by rfl) T.b_abs (ea_cons (ee_var 0) ea_nil)))))
abbrev s_compare : Stmt := top 3
theorem sc_compare : FnScope ["s", "t", "difference"] ["s", "t"] (defScope s_compare) := ⟨rfl, rfl, rfl, by decide +kernel, rfl, by decide +kernel, by decide +kernel⟩
theorem ok_compare {f : Addr} {fd : FuncData} (F : Fun K "compare" "compare" s_compare f fd) (T : Txt K mg)  : FnOk P w K mg base CX0 1 f fd ["s", "t"] (spD K 2 T_compare) := by
  refine fn_okD (k := 0) F sc_compare rfl fun cdv A outer s H hr => ⟨rd_compare, ?_, m_compare⟩
  exact (ess_cons (es_set 2 sc_compare.nd rfl (by first | exact Or.inl rfl | exact Or.inr rfl) (ee_sub (ee_mul (ee_ixk (n := 0) rfl (ee_var 0)) (ee_ixk (n := 1) rfl (ee_var 1))) (ee_mul (ee_ixk (n := 0) rfl (ee_var 1)) (ee_ixk (n := 1) rfl (ee_var 0)))))
    (ess_cons (es_if (et_lt (ee_var 2) ee_int)
    (ess_one (es_ret (ee_neg ee_int)))
    ess_nil)
    (ess_cons (es_if (et_gt (ee_var 2) ee_int)
    (ess_one (es_ret ee_int))
    ess_nil)
    (ess_one (es_ret ee_int)))))
abbrev s_is_ratio : Stmt := top 4
theorem sc_is_ratio : FnScope ["pair"] ["pair"] (defScope s_is_ratio) := ⟨rfl, rfl, rfl, by decide +kernel, rfl, by decide +kernel, by decide +kernel⟩
theorem ok_is_ratio {f : Addr} {fd : FuncData} (F : Fun K "is_ratio" "is_ratio" s_is_ratio f fd) (T : Txt K mg) (D_greatest_divisor : DefAt P w K mg base 1 "greatest_divisor" ["p", "q"] T_greatest_divisor) : FnOk P w K mg base CX0 2 f fd ["pair"] (spD K 1 T_is_ratio) := by
  refine fn_okD (k := 1) F sc_is_ratio rfl fun cdv A outer s H hr => ⟨rd_is_ratio, ?_, m_is_ratio⟩
  exact (ess_one (es_ret (ee_and (ee_ge (ee_ixk (n := 1) rfl (ee_var 0)) ee_int) (ee_one (ee_eq hr.units (ee_call D_greatest_divisor hr (by decide) (by rfl) (ea_cons (ee_ixk (n := 0) rfl (ee_var 0)) (ea_cons (ee_ixk (n := 1) rfl (ee_var 0)) ea_nil))) ee_int)))))
abbrev s_are_units : Stmt := top 6
theorem sc_are_units : FnScope ["n", "datum", "unit"] ["n", "datum"] (defScope s_are_units) := ⟨rfl, rfl, rfl, by decide +kernel, rfl, by decide +kernel, by decide +kernel⟩
theorem ok_are_units {f : Addr} {fd : FuncData} (F : Fun K "are_units" "are_units" s_are_units f fd) (T : Txt K mg) (D_compare : DefAt P w K mg base 1 "compare" ["s", "t"] T_compare) (D_is_ratio : DefAt P w K mg base 2 "is_ratio" ["pair"] T_is_ratio) : FnOk P w K mg base CX0 3 f fd ["n", "datum"] (spD K 2 T_are_units) := by
  refine fn_okD (k := 2) F sc_are_units rfl fun cdv A outer s H hr => ⟨rd_are_units, ?_, m_are_units⟩
  exact (ess_cons (es_if (et_ne hr.units (ec_len (by rfl) T.b_len (ea_cons (ee_var 1) ea_nil)) (ee_var 0))
    (ess_one (es_ret ee_bl))
    ess_nil)
    (ess_one (es_ret (ee_eq hr.units (ec_len (by rfl) T.b_len (ea_cons (ee_lcG (own := [("unit", 2)]) kok_fro (by decide) rfl sc_are_units.nd (ei_items (ee_var 1)) (blkOk_by (own := [("unit", 2)]) (N := ["n", "datum", "unit"]) (sc := defScope s_are_units) (by decide +kernel)) (fun _ _ _ _ _ => (eg_name (i := 2) sc_are_units.nd rfl (by first | exact Or.inl rfl | exact Or.inr rfl))) (fun _ _ _ _ _ => (epts_one (PW.pt (ew_or (et_not (et_tru (ee_call D_is_ratio hr (by decide) (by rfl) (ea_cons (ee_var 2) ea_nil)))) (ew_or1 (et_lt (ee_call D_compare hr (by decide) (by rfl) (ea_cons (ee_var 2) (ea_cons (ee_glob (by rfl) T.c_NOTHING) ea_nil))) ee_int)))))) (fun _ _ _ _ _ => ee_int)) ea_nil)) ee_int))))
abbrev s_is_inside : Stmt := top 7
theorem sc_is_inside : FnScope ["one", "other", "a", "b", "c", "d"] ["one", "other"] (defScope s_is_inside) := ⟨rfl, rfl, rfl, by decide +kernel, rfl, by decide +kernel, by decide +kernel⟩
theorem ok_is_inside {f : Addr} {fd : FuncData} (F : Fun K "is_inside" "is_inside" s_is_inside f fd) (T : Txt K mg)  : FnOk P w K mg base CX0 1 f fd ["one", "other"] (spD K 2 T_is_inside) := by
  refine fn_okD (k := 0) F sc_is_inside rfl fun cdv A outer s H hr => ⟨rd_is_inside, ?_, m_is_inside⟩
  exact (ess_one (es_ret (ee_eq hr.units (ec_len (by rfl) T.b_len (ea_cons (ee_lcG (own := [("a", 2), ("b", 3), ("c", 4), ("d", 5)]) kok_fro (by decide) rfl sc_is_inside.nd (ei_zip (by rfl) T.b_zip (ea_cons (ee_var 0) (ea_cons (ee_var 1) ea_nil))) (blkOk_by (own := [("a", 2), ("b", 3), ("c", 4), ("d", 5)]) (N := ["one", "other", "a", "b", "c", "d"]) (sc := defScope s_is_inside) (by decide +kernel)) (fun _ _ _ _ _ => (eg_tup rfl (egs_cons (ks := [2, 3, 4, 5]) (eg_tup rfl (egs_cons (ks := [2, 3]) (eg_name (i := 2) sc_is_inside.nd rfl (by first | exact Or.inl rfl | exact Or.inr rfl)) (egs_cons (ks := [3]) (eg_name (i := 3) sc_is_inside.nd rfl (by first | exact Or.inl rfl | exact Or.inr rfl)) (egs_nil (is := [])) (by decide) (by decide)) (by decide) (by decide))) (egs_cons (ks := [4, 5]) (eg_tup rfl (egs_cons (ks := [4, 5]) (eg_name (i := 4) sc_is_inside.nd rfl (by first | exact Or.inl rfl | exact Or.inr rfl)) (egs_cons (ks := [5]) (eg_name (i := 5) sc_is_inside.nd rfl (by first | exact Or.inl rfl | exact Or.inr rfl)) (egs_nil (is := [])) (by decide) (by decide)) (by decide) (by decide))) (egs_nil (is := [])) (by decide) (by decide)) (by decide) (by decide)))) (fun _ _ _ _ _ => (epts_one (PW.pt (ew_or (et_lt (ee_var 2) (ee_var 4)) (ew_or1 (et_gt (ee_var 3) (ee_var 5))))))) (fun _ _ _ _ _ => ee_int)) ea_nil)) ee_int)))
abbrev s_read_box : Stmt := top 9
theorem sc_read_box : FnScope ["reads", "readings", "r", "a", "b"] ["reads", "readings"] (defScope s_read_box) := ⟨rfl, rfl, rfl, by decide +kernel, rfl, by decide +kernel, by decide +kernel⟩
theorem ok_read_box {f : Addr} {fd : FuncData} (F : Fun K "read_box" "read_box" s_read_box f fd) (T : Txt K mg)  : FnOk P w K mg base CX0 1 f fd ["reads", "readings"] (spD K 2 T_read_box) := by
  refine fn_okD (k := 0) F sc_read_box rfl fun cdv A outer s H hr => ⟨rd_read_box, ?_, m_read_box⟩
  exact (ess_one (es_ret (ec_tuple (by rfl) T.b_tuple (ea_cons (ee_lcG (own := [("r", 2), ("a", 3), ("b", 4)]) kok_fro (by decide) rfl sc_read_box.nd (ei_zip (by rfl) T.b_zip (ea_cons (ee_var 0) (ea_cons (ee_var 1) ea_nil))) (blkOk_by (own := [("r", 2), ("a", 3), ("b", 4)]) (N := ["reads", "readings", "r", "a", "b"]) (sc := defScope s_read_box) (by decide +kernel)) (fun _ _ _ _ _ => (eg_tup rfl (egs_cons (ks := [3, 4, 2]) (eg_tup rfl (egs_cons (ks := [3, 4]) (eg_name (i := 3) sc_read_box.nd rfl (by first | exact Or.inl rfl | exact Or.inr rfl)) (egs_cons (ks := [4]) (eg_name (i := 4) sc_read_box.nd rfl (by first | exact Or.inl rfl | exact Or.inr rfl)) (egs_nil (is := [])) (by decide) (by decide)) (by decide) (by decide))) (egs_cons (ks := [2]) (eg_name (i := 2) sc_read_box.nd rfl (by first | exact Or.inl rfl | exact Or.inr rfl)) (egs_nil (is := [])) (by decide) (by decide)) (by decide) (by decide)))) (fun _ _ _ _ _ => epts_nil) (fun _ _ _ _ _ => (ee_tup (ea_cons (ee_sub (ee_var 2) (ee_var 3)) (ea_cons (ee_add (ee_var 2) (ee_var 4)) ea_nil))))) ea_nil))))
abbrev s_gone_on : Stmt := top 10
theorem sc_gone_on : FnScope ["estimate", "offset", "lo", "hi", "a", "b"] ["estimate", "offset"] (defScope s_gone_on) := ⟨rfl, rfl, rfl, by decide +kernel, rfl, by decide +kernel, by decide +kernel⟩
theorem ok_gone_on {f : Addr} {fd : FuncData} (F : Fun K "gone_on" "gone_on" s_gone_on f fd) (T : Txt K mg)  : FnOk P w K mg base CX0 1 f fd ["estimate", "offset"] (spD K 2 T_gone_on) := by
  refine fn_okD (k := 0) F sc_gone_on rfl fun cdv A outer s H hr => ⟨rd_gone_on, ?_, m_gone_on⟩
  exact (ess_one (es_ret (ec_tuple (by rfl) T.b_tuple (ea_cons (ee_lcG (own := [("lo", 2), ("hi", 3), ("a", 4), ("b", 5)]) kok_fro (by decide) rfl sc_gone_on.nd (ei_zip (by rfl) T.b_zip (ea_cons (ee_var 0) (ea_cons (ee_var 1) ea_nil))) (blkOk_by (own := [("lo", 2), ("hi", 3), ("a", 4), ("b", 5)]) (N := ["estimate", "offset", "lo", "hi", "a", "b"]) (sc := defScope s_gone_on) (by decide +kernel)) (fun _ _ _ _ _ => (eg_tup rfl (egs_cons (ks := [2, 3, 4, 5]) (eg_tup rfl (egs_cons (ks := [2, 3]) (eg_name (i := 2) sc_gone_on.nd rfl (by first | exact Or.inl rfl | exact Or.inr rfl)) (egs_cons (ks := [3]) (eg_name (i := 3) sc_gone_on.nd rfl (by first | exact Or.inl rfl | exact Or.inr rfl)) (egs_nil (is := [])) (by decide) (by decide)) (by decide) (by decide))) (egs_cons (ks := [4, 5]) (eg_tup rfl (egs_cons (ks := [4, 5]) (eg_name (i := 4) sc_gone_on.nd rfl (by first | exact Or.inl rfl | exact Or.inr rfl)) (egs_cons (ks := [5]) (eg_name (i := 5) sc_gone_on.nd rfl (by first | exact Or.inl rfl | exact Or.inr rfl)) (egs_nil (is := [])) (by decide) (by decide)) (by decide) (by decide))) (egs_nil (is := [])) (by decide) (by decide)) (by decide) (by decide)))) (fun _ _ _ _ _ => epts_nil) (fun _ _ _ _ _ => (ee_tup (ea_cons (ee_add (ee_var 2) (ee_var 4)) (ea_cons (ee_add (ee_var 3) (ee_var 5)) ea_nil))))) ea_nil))))
abbrev s_met_boxes : Stmt := top 11
theorem sc_met_boxes : FnScope ["one", "other", "found", "a", "b", "c", "d", "lo", "hi"] ["one", "other"] (defScope s_met_boxes) := ⟨rfl, rfl, rfl, by decide +kernel, rfl, by decide +kernel, by decide +kernel⟩
theorem ok_met_boxes {f : Addr} {fd : FuncData} (F : Fun K "met_boxes" "met_boxes" s_met_boxes f fd) (T : Txt K mg)  : FnOk P w K mg base CX0 1 f fd ["one", "other"] (spD K 2 T_met_boxes) := by
  refine fn_okD (k := 0) F sc_met_boxes rfl fun cdv A outer s H hr => ⟨rd_met_boxes, ?_, m_met_boxes⟩
  exact (ess_cons (es_set 2 sc_met_boxes.nd rfl (by first | exact Or.inl rfl | exact Or.inr rfl) (ec_tuple (by rfl) T.b_tuple (ea_cons (ee_lcG (own := [("a", 3), ("b", 4), ("c", 5), ("d", 6)]) kok_fro (by decide) rfl sc_met_boxes.nd (ei_zip (by rfl) T.b_zip (ea_cons (ee_var 0) (ea_cons (ee_var 1) ea_nil))) (blkOk_by (own := [("a", 3), ("b", 4), ("c", 5), ("d", 6)]) (N := ["one", "other", "found", "a", "b", "c", "d", "lo", "hi"]) (sc := defScope s_met_boxes) (by decide +kernel)) (fun _ _ _ _ _ => (eg_tup rfl (egs_cons (ks := [3, 4, 5, 6]) (eg_tup rfl (egs_cons (ks := [3, 4]) (eg_name (i := 3) sc_met_boxes.nd rfl (by first | exact Or.inl rfl | exact Or.inr rfl)) (egs_cons (ks := [4]) (eg_name (i := 4) sc_met_boxes.nd rfl (by first | exact Or.inl rfl | exact Or.inr rfl)) (egs_nil (is := [])) (by decide) (by decide)) (by decide) (by decide))) (egs_cons (ks := [5, 6]) (eg_tup rfl (egs_cons (ks := [5, 6]) (eg_name (i := 5) sc_met_boxes.nd rfl (by first | exact Or.inl rfl | exact Or.inr rfl)) (egs_cons (ks := [6]) (eg_name (i := 6) sc_met_boxes.nd rfl (by first | exact Or.inl rfl | exact Or.inr rfl)) (egs_nil (is := [])) (by decide) (by decide)) (by decide) (by decide))) (egs_nil (is := [])) (by decide) (by decide)) (by decide) (by decide)))) (fun _ _ _ _ _ => epts_nil) (fun _ _ _ _ _ => (ee_tup (ea_cons (ec_max2 rfl (by rfl) T.b_max (ea_cons (ee_var 3) (ea_cons (ee_var 5) ea_nil))) (ea_cons (ec_min2 rfl (by rfl) T.b_min (ea_cons (ee_var 4) (ea_cons (ee_var 6) ea_nil))) ea_nil))))) ea_nil)))
    (ess_one (es_ret (ee_if (et_gt (ec_len (by rfl) T.b_len (ea_cons (ee_lcG (own := [("lo", 7), ("hi", 8)]) kok_fro (by decide) rfl sc_met_boxes.nd (ei_items (ee_var 2)) (blkOk_by (own := [("lo", 7), ("hi", 8)]) (N := ["one", "other", "found", "a", "b", "c", "d", "lo", "hi"]) (sc := defScope s_met_boxes) (by decide +kernel)) (fun _ _ _ _ _ => (eg_tup rfl (egs_cons (ks := [7, 8]) (eg_name (i := 7) sc_met_boxes.nd rfl (by first | exact Or.inl rfl | exact Or.inr rfl)) (egs_cons (ks := [8]) (eg_name (i := 8) sc_met_boxes.nd rfl (by first | exact Or.inl rfl | exact Or.inr rfl)) (egs_nil (is := [])) (by decide) (by decide)) (by decide) (by decide)))) (fun _ _ _ _ _ => (epts_one (et_gt (ee_var 7) (ee_var 8)))) (fun _ _ _ _ _ => ee_int)) ea_nil)) ee_int) ee_non (ee_var 2)))))
abbrev s_is_number : Stmt := top 13
theorem sc_is_number : FnScope ["datum"] ["datum"] (defScope s_is_number) := ⟨rfl, rfl, rfl, by decide +kernel, rfl, by decide +kernel, by decide +kernel⟩
theorem ok_is_number {f : Addr} {fd : FuncData} (F : Fun K "is_number" "is_number" s_is_number f fd) (T : Txt K mg)  : FnOk P w K mg base CX0 1 f fd ["datum"] (spD K 1 T_is_number) := by
  refine fn_okD (k := 0) F sc_is_number rfl fun cdv A outer s H hr => ⟨rd_is_number, ?_, m_is_number⟩
  exact (ess_one (es_ret (ee_and (ee_isi .int (by rfl) T.b_isinstance (by rfl) T.b_int (by decide +kernel) (ee_var 0)) (ee_one (ee_not (ee_isi .bool (by rfl) T.b_isinstance (by rfl) T.b_bool (by decide +kernel) (ee_var 0)))))))
abbrev s_least_sum : Stmt := top 15
theorem sc_least_sum : FnScope ["test", "whole", "factors", "number", "factor", "lo", "hi"] ["test", "whole"] (defScope s_least_sum) := ⟨rfl, rfl, rfl, by decide +kernel, rfl, by decide +kernel, by decide +kernel⟩
theorem ok_least_sum {f : Addr} {fd : FuncData} (F : Fun K "least_sum" "least_sum" s_least_sum f fd) (T : Txt K mg)  : FnOk P w K mg base CX0 1 f fd ["test", "whole"] (spD K 2 T_least_sum) := by
  refine fn_okD (k := 0) F sc_least_sum rfl fun cdv A outer s H hr => ⟨rd_least_sum, ?_, m_least_sum⟩
  exact (ess_cons (es_asg (ee_var 0) (eg_tup rfl (egs_cons (ks := [2, 3]) (eg_name (i := 2) sc_least_sum.nd rfl (by first | exact Or.inl rfl | exact Or.inr rfl)) (egs_cons (ks := [3]) (eg_name (i := 3) sc_least_sum.nd rfl (by first | exact Or.inl rfl | exact Or.inr rfl)) (egs_nil (is := [])) (by decide) (by decide)) (by decide) (by decide))))
    (ess_one (es_ret (ee_add (ee_var 3) (ec_sum rfl (by rfl) T.b_sum (ea_cons (ee_lcG (own := [("factor", 4), ("lo", 5), ("hi", 6)]) kok_fro (by decide) rfl sc_least_sum.nd (ei_zip (by rfl) T.b_zip (ea_cons (ee_var 2) (ea_cons (ee_var 1) ea_nil))) (blkOk_by (own := [("factor", 4), ("lo", 5), ("hi", 6)]) (N := ["test", "whole", "factors", "number", "factor", "lo", "hi"]) (sc := defScope s_least_sum) (by decide +kernel)) (fun _ _ _ _ _ => (eg_tup rfl (egs_cons (ks := [4, 5, 6]) (eg_name (i := 4) sc_least_sum.nd rfl (by first | exact Or.inl rfl | exact Or.inr rfl)) (egs_cons (ks := [5, 6]) (eg_tup rfl (egs_cons (ks := [5, 6]) (eg_name (i := 5) sc_least_sum.nd rfl (by first | exact Or.inl rfl | exact Or.inr rfl)) (egs_cons (ks := [6]) (eg_name (i := 6) sc_least_sum.nd rfl (by first | exact Or.inl rfl | exact Or.inr rfl)) (egs_nil (is := [])) (by decide) (by decide)) (by decide) (by decide))) (egs_nil (is := [])) (by decide) (by decide)) (by decide) (by decide)))) (fun _ _ _ _ _ => epts_nil) (fun _ _ _ _ _ => (ec_min2 rfl (by rfl) T.b_min (ea_cons (ee_mul (ee_var 4) (ee_var 5)) (ea_cons (ee_mul (ee_var 4) (ee_var 6)) ea_nil))))) ea_nil))))))
abbrev s_holds_for : Stmt := top 16
theorem sc_holds_for : FnScope ["test", "whole"] ["test", "whole"] (defScope s_holds_for) := ⟨rfl, rfl, rfl, by decide +kernel, rfl, by decide +kernel, by decide +kernel⟩
theorem ok_holds_for {f : Addr} {fd : FuncData} (F : Fun K "holds_for" "holds_for" s_holds_for f fd) (T : Txt K mg) (D_least_sum : DefAt P w K mg base 1 "least_sum" ["test", "whole"] T_least_sum) : FnOk P w K mg base CX0 2 f fd ["test", "whole"] (spD K 2 T_holds_for) := by
  refine fn_okD (k := 1) F sc_holds_for rfl fun cdv A outer s H hr => ⟨rd_holds_for, ?_, m_holds_for⟩
  exact (ess_one (es_ret (ee_ge (ee_call D_least_sum hr (by decide) (by rfl) (ea_cons (ee_var 0) (ea_cons (ee_var 1) ea_nil))) ee_int)))
abbrev s_row_holds : Stmt := top 17
theorem sc_row_holds : FnScope ["row", "whole", "test"] ["row", "whole"] (defScope s_row_holds) := ⟨rfl, rfl, rfl, by decide +kernel, rfl, by decide +kernel, by decide +kernel⟩
theorem ok_row_holds {f : Addr} {fd : FuncData} (F : Fun K "row_holds" "row_holds" s_row_holds f fd) (T : Txt K mg) (D_holds_for : DefAt P w K mg base 2 "holds_for" ["test", "whole"] T_holds_for) : FnOk P w K mg base CX0 3 f fd ["row", "whole"] (spD K 2 T_row_holds) := by
  refine fn_okD (k := 2) F sc_row_holds rfl fun cdv A outer s H hr => ⟨rd_row_holds, ?_, m_row_holds⟩
  exact (ess_cons (es_for PassesOwn.never rfl (ei_items (ee_ixk (n := 0) rfl (ee_var 0))) (eg_name (i := 2) sc_row_holds.nd rfl (by first | exact Or.inl rfl | exact Or.inr rfl))
    (ess_one (es_if (et_not (et_tru (ee_call D_holds_for hr (by decide) (by rfl) (ea_cons (ee_var 2) (ea_cons (ee_var 1) ea_nil)))))
    (ess_one (es_ret ee_bl))
    ess_nil)))
    (ess_one (es_ret ee_bl)))
abbrev s_command_in : Stmt := top 18
theorem sc_command_in : FnScope ["table", "whole", "row"] ["table", "whole"] (defScope s_command_in) := ⟨rfl, rfl, rfl, by decide +kernel, rfl, by decide +kernel, by decide +kernel⟩
theorem ok_command_in {f : Addr} {fd : FuncData} (F : Fun K "command_in" "command_in" s_command_in f fd) (T : Txt K mg) (D_row_holds : DefAt P w K mg base 3 "row_holds" ["row", "whole"] T_row_holds) : FnOk P w K mg base CX0 4 f fd ["table", "whole"] (spD K 2 T_command_in) := by
  refine fn_okD (k := 3) F sc_command_in rfl fun cdv A outer s H hr => ⟨rd_command_in, ?_, m_command_in⟩
  exact (ess_cons (es_for PassesOwn.never rfl (ei_items (ee_var 0)) (eg_name (i := 2) sc_command_in.nd rfl (by first | exact Or.inl rfl | exact Or.inr rfl))
    (ess_one (es_if (et_tru (ee_call D_row_holds hr (by decide) (by rfl) (ea_cons (ee_var 2) (ea_cons (ee_var 1) ea_nil))))
    (ess_one (es_ret (ee_ixk (n := 1) rfl (ee_var 2))))
    ess_nil)))
    (ess_one (es_ret ee_non)))
abbrev s_first_state : Stmt := top 27
theorem sc_first_state : FnScope ["pilot", "firsts", "mode", "index", "first"] ["pilot"] (defScope s_first_state) := ⟨rfl, rfl, rfl, by decide +kernel, rfl, by decide +kernel, by decide +kernel⟩
theorem ok_first_state {f : Addr} {fd : FuncData} (F : Fun K "first_state" "first_state" s_first_state f fd) (T : Txt K mg)  : FnOk P w K mg base CX0 1 f fd ["pilot"] (spD K 1 T_first_state) := by
  refine fn_okD (k := 0) F sc_first_state rfl fun cdv A outer s H hr => ⟨rd_first_state, ?_, m_first_state⟩
  exact (ess_cons (es_set 1 sc_first_state.nd rfl (by first | exact Or.inl rfl | exact Or.inr rfl) (ee_ixk (n := 5) rfl (ee_var 0)))
    (ess_cons (es_set 2 sc_first_state.nd rfl (by first | exact Or.inl rfl | exact Or.inr rfl) (ee_ixk (n := 0) rfl (ee_lcG (own := [("index", 3), ("first", 4)]) kok_fro (by decide) rfl sc_first_state.nd (ei_enumT (by rfl) T.b_enumerate (ea_cons (ee_var 1) ea_nil)) (blkOk_by (own := [("index", 3), ("first", 4)]) (N := ["pilot", "firsts", "mode", "index", "first"]) (sc := defScope s_first_state) (by decide +kernel)) (fun _ _ _ _ _ => (eg_tup rfl (egs_cons (ks := [3, 4]) (eg_name (i := 3) sc_first_state.nd rfl (by first | exact Or.inl rfl | exact Or.inr rfl)) (egs_cons (ks := [4]) (eg_name (i := 4) sc_first_state.nd rfl (by first | exact Or.inl rfl | exact Or.inr rfl)) (egs_nil (is := [])) (by decide) (by decide)) (by decide) (by decide)))) (fun _ _ _ _ _ => (epts_one (et_notN (ee_var 4) ee_non))) (fun _ _ _ _ _ => (ee_var 3)))))
    (ess_one (es_ret (ee_tup (ea_cons (ee_sub (ec_len (by rfl) T.b_len (ea_cons (ee_ixk (n := 3) rfl (ee_var 0)) ea_nil)) ee_int) (ea_cons (ee_var 2) (ea_cons (ee_ix (ee_var 1) (ee_var 2)) (ea_cons ee_non ea_nil)))))))))
abbrev s_estimate_now : Stmt := top 28
theorem sc_estimate_now : FnScope ["pilot", "state", "now", "_", "mode", "estimate", "command", "offset"] ["pilot", "state", "now"] (defScope s_estimate_now) := ⟨rfl, rfl, rfl, by decide +kernel, rfl, by decide +kernel, by decide +kernel⟩
theorem ok_estimate_now {f : Addr} {fd : FuncData} (F : Fun K "estimate_now" "estimate_now" s_estimate_now f fd) (T : Txt K mg) (D_gone_on : DefAt P w K mg base 1 "gone_on" ["estimate", "offset"] T_gone_on) : FnOk P w K mg base CX0 2 f fd ["pilot", "state", "now"] (spD K 3 T_estimate_now) := by
  refine fn_okD (k := 1) F sc_estimate_now rfl fun cdv A outer s H hr => ⟨rd_estimate_now, ?_, m_estimate_now⟩
  exact (ess_cons (es_asg (ee_var 1) (eg_tup rfl (egs_cons (ks := [3, 4, 5, 6]) (eg_name (i := 3) sc_estimate_now.nd rfl (by first | exact Or.inl rfl | exact Or.inr rfl)) (egs_cons (ks := [4, 5, 6]) (eg_name (i := 4) sc_estimate_now.nd rfl (by first | exact Or.inl rfl | exact Or.inr rfl)) (egs_cons (ks := [5, 6]) (eg_name (i := 5) sc_estimate_now.nd rfl (by first | exact Or.inl rfl | exact Or.inr rfl)) (egs_cons (ks := [6]) (eg_name (i := 6) sc_estimate_now.nd rfl (by first | exact Or.inl rfl | exact Or.inr rfl)) (egs_nil (is := [])) (by decide) (by decide)) (by decide) (by decide)) (by decide) (by decide)) (by decide) (by decide))))
    (ess_cons (es_if (et_isN (ee_var 6) ee_non)
    (ess_one (es_ret (ee_if (et_eq hr.units (ee_var 2) (ee_var 4)) (ee_var 5) ee_non)))
    ess_nil)
    (ess_cons (es_set 7 sc_estimate_now.nd rfl (by first | exact Or.inl rfl | exact Or.inr rfl) (ee_ix (ee_ix (ee_ix (ee_ixk (n := 1) rfl (ee_var 0)) (ee_var 4)) (ee_var 6)) (ee_var 2)))
    (ess_one (es_ret (ee_if (et_isN (ee_var 7) ee_non) ee_non (ee_call D_gone_on hr (by decide) (by rfl) (ea_cons (ee_var 5) (ea_cons (ee_var 7) ea_nil)))))))))
abbrev s_beat_of : Stmt := top 29
theorem sc_beat_of : FnScope ["pilot", "state", "now", "readings", "estimate", "phase", "command"] ["pilot", "state", "now", "readings"] (defScope s_beat_of) := ⟨rfl, rfl, rfl, by decide +kernel, rfl, by decide +kernel, by decide +kernel⟩
theorem ok_beat_of {f : Addr} {fd : FuncData} (F : Fun K "beat_of" "beat_of" s_beat_of f fd) (T : Txt K mg) (D_is_inside : DefAt P w K mg base 1 "is_inside" ["one", "other"] T_is_inside) (D_read_box : DefAt P w K mg base 1 "read_box" ["reads", "readings"] T_read_box) (D_met_boxes : DefAt P w K mg base 1 "met_boxes" ["one", "other"] T_met_boxes) (D_command_in : DefAt P w K mg base 4 "command_in" ["table", "whole"] T_command_in) (D_estimate_now : DefAt P w K mg base 2 "estimate_now" ["pilot", "state", "now"] T_estimate_now) : FnOk P w K mg base CX0 5 f fd ["pilot", "state", "now", "readings"] (spD K 4 T_beat_of) := by
  refine fn_okD (k := 4) F sc_beat_of rfl fun cdv A outer s H hr => ⟨rd_beat_of, ?_, m_beat_of⟩
  exact (ess_cons (es_set 4 sc_beat_of.nd rfl (by first | exact Or.inl rfl | exact Or.inr rfl) (ee_call D_estimate_now hr (by decide) (by rfl) (ea_cons (ee_var 0) (ea_cons (ee_var 1) (ea_cons (ee_var 2) ea_nil)))))
    (ess_cons (es_if (et_isN (ee_var 4) ee_non)
    (ess_one (es_ret (ee_tup (ea_cons (ee_glob (by rfl) T.c_BROKEN) (ea_cons (ee_glob (by rfl) T.c_WAY) ea_nil)))))
    ess_nil)
    (ess_cons (es_if (et_notN (ee_var 3) ee_non)
    (ess_one (es_set 4 sc_beat_of.nd rfl (by first | exact Or.inl rfl | exact Or.inr rfl) (ee_call D_met_boxes hr (by decide) (by rfl) (ea_cons (ee_var 4) (ea_cons (ee_call D_read_box hr (by decide) (by rfl) (ea_cons (ee_ixk (n := 2) rfl (ee_var 0)) (ea_cons (ee_var 3) ea_nil))) ea_nil)))))
    ess_nil)
    (ess_cons (es_if (et_isN (ee_var 4) ee_non)
    (ess_one (es_ret (ee_tup (ea_cons (ee_glob (by rfl) T.c_BROKEN) (ea_cons (ee_glob (by rfl) T.c_EMPTY) ea_nil)))))
    ess_nil)
    (ess_cons (es_if (et_not (et_tru (ee_call D_is_inside hr (by decide) (by rfl) (ea_cons (ee_var 4) (ea_cons (ee_ix (ee_ixk (n := 4) rfl (ee_var 0)) (ee_var 2)) ea_nil)))))
    (ess_one (es_ret (ee_tup (ea_cons (ee_glob (by rfl) T.c_BROKEN) (ea_cons (ee_glob (by rfl) T.c_SPAN) ea_nil)))))
    ess_nil)
    (ess_cons (es_set 5 sc_beat_of.nd rfl (by first | exact Or.inl rfl | exact Or.inr rfl) (ee_ixk (n := 0) rfl (ee_var 1)))
    (ess_cons (es_set 6 sc_beat_of.nd rfl (by first | exact Or.inl rfl | exact Or.inr rfl) (ee_call D_command_in hr (by decide) (by rfl) (ea_cons (ee_ix (ee_ix (ee_ixk (n := 3) rfl (ee_var 0)) (ee_var 5)) (ee_var 2)) (ea_cons (ee_var 4) ea_nil))))
    (ess_cons (es_if (et_isN (ee_var 6) ee_non)
    (ess_one (es_ret (ee_tup (ea_cons (ee_glob (by rfl) T.c_BROKEN) (ea_cons (ee_glob (by rfl) T.c_NONE) ea_nil)))))
    ess_nil)
    (ess_one (es_ret (ee_tup (ea_cons (ee_glob (by rfl) T.c_GIVEN) (ea_cons (ee_var 6) (ea_cons (ee_tup (ea_cons (ec_max2 rfl (by rfl) T.b_max (ea_cons (ee_sub (ee_var 5) ee_int) (ea_cons ee_int ea_nil))) (ea_cons (ee_var 2) (ea_cons (ee_var 4) (ea_cons (ee_var 6) ea_nil))))) ea_nil))))))))))))))
abbrev s_driven : Stmt := top 30
theorem sc_driven : FnScope ["pilot", "inputs", "state", "found", "now", "readings", "outcome"] ["pilot", "inputs"] (defScope s_driven) := ⟨rfl, rfl, rfl, by decide +kernel, rfl, by decide +kernel, by decide +kernel⟩
theorem ok_driven {f : Addr} {fd : FuncData} (F : Fun K "driven" "driven" s_driven f fd) (T : Txt K mg) (D_first_state : DefAt P w K mg base 1 "first_state" ["pilot"] T_first_state) (D_beat_of : DefAt P w K mg base 5 "beat_of" ["pilot", "state", "now", "readings"] T_beat_of) : FnOk P w K mg base CX0 6 f fd ["pilot", "inputs"] (spD K 2 T_driven) := by
  refine fn_okD (k := 5) F sc_driven rfl fun cdv A outer s H hr => ⟨rd_driven, ?_, m_driven⟩
  exact (ess_cons (es_set 2 sc_driven.nd rfl (by first | exact Or.inl rfl | exact Or.inr rfl) (ee_call D_first_state hr (by decide) (by rfl) (ea_cons (ee_var 0) ea_nil)))
    (ess_cons (es_set 3 sc_driven.nd rfl (by first | exact Or.inl rfl | exact Or.inr rfl) (ee_lstM ea_nil))
    (ess_cons (es_for PassesOwn.never rfl (ei_items (ee_var 1)) (eg_tup rfl (egs_cons (ks := [4, 5]) (eg_name (i := 4) sc_driven.nd rfl (by first | exact Or.inl rfl | exact Or.inr rfl)) (egs_cons (ks := [5]) (eg_name (i := 5) sc_driven.nd rfl (by first | exact Or.inl rfl | exact Or.inr rfl)) (egs_nil (is := [])) (by decide) (by decide)) (by decide) (by decide)))
    (ess_cons (es_set 6 sc_driven.nd rfl (by first | exact Or.inl rfl | exact Or.inr rfl) (ee_call D_beat_of hr (by decide) (by rfl) (ea_cons (ee_var 0) (ea_cons (ee_var 2) (ea_cons (ee_var 4) (ea_cons (ee_var 5) ea_nil))))))
    (ess_cons (es_expr (ee_app (ee_var 3) (ee_var 6)))
    (ess_cons (es_if (et_eq hr.units (ee_ixk (n := 0) rfl (ee_var 6)) (ee_glob (by rfl) T.c_BROKEN))
    (ess_one (es_ret (ee_varF 3)))
    ess_nil)
    (ess_one (es_set 2 sc_driven.nd rfl (by first | exact Or.inl rfl | exact Or.inr rfl) (ee_ixk (n := 2) rfl (ee_var 6))))))))
    (ess_one (es_ret (ee_varF 3))))))
abbrev s_is_pair : Stmt := top 32
theorem sc_is_pair : FnScope ["datum"] ["datum"] (defScope s_is_pair) := ⟨rfl, rfl, rfl, by decide +kernel, rfl, by decide +kernel, by decide +kernel⟩
theorem ok_is_pair {f : Addr} {fd : FuncData} (F : Fun K "is_pair" "is_pair" s_is_pair f fd) (T : Txt K mg) (D_is_number : DefAt P w K mg base 1 "is_number" ["datum"] T_is_number) : FnOk P w K mg base CX0 2 f fd ["datum"] (spD K 1 T_is_pair) := by
  refine fn_okD (k := 1) F sc_is_pair rfl fun cdv A outer s H hr => ⟨rd_is_pair, ?_, m_is_pair⟩
  exact (ess_one (es_ret (ee_and (ee_isi .tuple (by rfl) T.b_isinstance (by rfl) T.b_tuple (by decide +kernel) (ee_var 0)) (ee_and (ee_eq hr.units (ec_len (by rfl) T.b_len (ea_cons (ee_var 0) ea_nil)) ee_int) (ee_and (ee_call D_is_number hr (by decide) (by rfl) (ea_cons (ee_ixk (n := 0) rfl (ee_var 0)) ea_nil)) (ee_one (ee_call D_is_number hr (by decide) (by rfl) (ea_cons (ee_ixk (n := 1) rfl (ee_var 0)) ea_nil))))))))
abbrev s_are_pairs : Stmt := top 31
theorem sc_are_pairs : FnScope ["n", "datum", "pair"] ["n", "datum"] (defScope s_are_pairs) := ⟨rfl, rfl, rfl, by decide +kernel, rfl, by decide +kernel, by decide +kernel⟩
theorem ok_are_pairs {f : Addr} {fd : FuncData} (F : Fun K "are_pairs" "are_pairs" s_are_pairs f fd) (T : Txt K mg) (D_is_pair : DefAt P w K mg base 2 "is_pair" ["datum"] T_is_pair) : FnOk P w K mg base CX0 3 f fd ["n", "datum"] (spD K 2 T_are_pairs) := by
  refine fn_okD (k := 2) F sc_are_pairs rfl fun cdv A outer s H hr => ⟨rd_are_pairs, ?_, m_are_pairs⟩
  exact (ess_cons (es_if (PW.pt (ew_or (et_not (et_tru (ee_isi .tuple (by rfl) T.b_isinstance (by rfl) T.b_tuple (by decide +kernel) (ee_var 1)))) (ew_or1 (et_ne hr.units (ec_len (by rfl) T.b_len (ea_cons (ee_var 1) ea_nil)) (ee_var 0)))))
    (ess_one (es_ret ee_bl))
    ess_nil)
    (ess_one (es_ret (ee_eq hr.units (ec_len (by rfl) T.b_len (ea_cons (ee_lcG (own := [("pair", 2)]) kok_fro (by decide) rfl sc_are_pairs.nd (ei_items (ee_var 1)) (blkOk_by (own := [("pair", 2)]) (N := ["n", "datum", "pair"]) (sc := defScope s_are_pairs) (by decide +kernel)) (fun _ _ _ _ _ => (eg_name (i := 2) sc_are_pairs.nd rfl (by first | exact Or.inl rfl | exact Or.inr rfl))) (fun _ _ _ _ _ => (epts_one (et_not (et_tru (ee_call D_is_pair hr (by decide) (by rfl) (ea_cons (ee_var 2) ea_nil)))))) (fun _ _ _ _ _ => ee_int)) ea_nil)) ee_int))))
abbrev s_are_risen : Stmt := top 33
theorem sc_are_risen : FnScope ["datum", "lo", "hi"] ["datum"] (defScope s_are_risen) := ⟨rfl, rfl, rfl, by decide +kernel, rfl, by decide +kernel, by decide +kernel⟩
theorem ok_are_risen {f : Addr} {fd : FuncData} (F : Fun K "are_risen" "are_risen" s_are_risen f fd) (T : Txt K mg)  : FnOk P w K mg base CX0 1 f fd ["datum"] (spD K 1 T_are_risen) := by
  refine fn_okD (k := 0) F sc_are_risen rfl fun cdv A outer s H hr => ⟨rd_are_risen, ?_, m_are_risen⟩
  exact (ess_one (es_ret (ee_eq hr.units (ec_len (by rfl) T.b_len (ea_cons (ee_lcG (own := [("lo", 1), ("hi", 2)]) kok_fro (by decide) rfl sc_are_risen.nd (ei_items (ee_var 0)) (blkOk_by (own := [("lo", 1), ("hi", 2)]) (N := ["datum", "lo", "hi"]) (sc := defScope s_are_risen) (by decide +kernel)) (fun _ _ _ _ _ => (eg_tup rfl (egs_cons (ks := [1, 2]) (eg_name (i := 1) sc_are_risen.nd rfl (by first | exact Or.inl rfl | exact Or.inr rfl)) (egs_cons (ks := [2]) (eg_name (i := 2) sc_are_risen.nd rfl (by first | exact Or.inl rfl | exact Or.inr rfl)) (egs_nil (is := [])) (by decide) (by decide)) (by decide) (by decide)))) (fun _ _ _ _ _ => (epts_one (et_gt (ee_var 1) (ee_var 2)))) (fun _ _ _ _ _ => ee_int)) ea_nil)) ee_int)))
abbrev s_is_whole_test : Stmt := top 34
theorem sc_is_whole_test : FnScope ["n", "datum", "factor"] ["n", "datum"] (defScope s_is_whole_test) := ⟨rfl, rfl, rfl, by decide +kernel, rfl, by decide +kernel, by decide +kernel⟩
theorem ok_is_whole_test {f : Addr} {fd : FuncData} (F : Fun K "is_whole_test" "is_whole_test" s_is_whole_test f fd) (T : Txt K mg) (D_is_number : DefAt P w K mg base 1 "is_number" ["datum"] T_is_number) : FnOk P w K mg base CX0 2 f fd ["n", "datum"] (spD K 2 T_is_whole_test) := by
  refine fn_okD (k := 1) F sc_is_whole_test rfl fun cdv A outer s H hr => ⟨rd_is_whole_test, ?_, m_is_whole_test⟩
  exact (ess_cons (es_if (PW.pt (ew_or (et_not (et_tru (ee_isi .tuple (by rfl) T.b_isinstance (by rfl) T.b_tuple (by decide +kernel) (ee_var 1)))) (ew_or (et_ne hr.units (ec_len (by rfl) T.b_len (ea_cons (ee_var 1) ea_nil)) ee_int) (ew_or (et_not (et_tru (ee_isi .tuple (by rfl) T.b_isinstance (by rfl) T.b_tuple (by decide +kernel) (ee_ixk (n := 0) rfl (ee_var 1))))) (ew_or1 (et_ne hr.units (ec_len (by rfl) T.b_len (ea_cons (ee_ixk (n := 0) rfl (ee_var 1)) ea_nil)) (ee_var 0)))))))
    (ess_one (es_ret ee_bl))
    ess_nil)
    (ess_one (es_ret (ee_and (ee_call D_is_number hr (by decide) (by rfl) (ea_cons (ee_ixk (n := 1) rfl (ee_var 1)) ea_nil)) (ee_one (ee_eq hr.units (ec_len (by rfl) T.b_len (ea_cons (ee_lcG (own := [("factor", 2)]) kok_fro (by decide) rfl sc_is_whole_test.nd (ei_items (ee_ixk (n := 0) rfl (ee_var 1))) (blkOk_by (own := [("factor", 2)]) (N := ["n", "datum", "factor"]) (sc := defScope s_is_whole_test) (by decide +kernel)) (fun _ _ _ _ _ => (eg_name (i := 2) sc_is_whole_test.nd rfl (by first | exact Or.inl rfl | exact Or.inr rfl))) (fun _ _ _ _ _ => (epts_one (et_not (et_tru (ee_call D_is_number hr (by decide) (by rfl) (ea_cons (ee_var 2) ea_nil)))))) (fun _ _ _ _ _ => ee_int)) ea_nil)) ee_int))))))
abbrev s_is_whole_row : Stmt := top 35
theorem sc_is_whole_row : FnScope ["n", "commands", "datum", "test"] ["n", "commands", "datum"] (defScope s_is_whole_row) := ⟨rfl, rfl, rfl, by decide +kernel, rfl, by decide +kernel, by decide +kernel⟩
theorem ok_is_whole_row {f : Addr} {fd : FuncData} (F : Fun K "is_whole_row" "is_whole_row" s_is_whole_row f fd) (T : Txt K mg) (D_is_number : DefAt P w K mg base 1 "is_number" ["datum"] T_is_number) (D_is_whole_test : DefAt P w K mg base 2 "is_whole_test" ["n", "datum"] T_is_whole_test) : FnOk P w K mg base CX0 3 f fd ["n", "commands", "datum"] (spD K 3 T_is_whole_row) := by
  refine fn_okD (k := 2) F sc_is_whole_row rfl fun cdv A outer s H hr => ⟨rd_is_whole_row, ?_, m_is_whole_row⟩
  exact (ess_cons (es_if (PW.pt (ew_or (et_not (et_tru (ee_isi .tuple (by rfl) T.b_isinstance (by rfl) T.b_tuple (by decide +kernel) (ee_var 2)))) (ew_or (et_ne hr.units (ec_len (by rfl) T.b_len (ea_cons (ee_var 2) ea_nil)) ee_int) (ew_or1 (et_not (et_tru (ee_isi .tuple (by rfl) T.b_isinstance (by rfl) T.b_tuple (by decide +kernel) (ee_ixk (n := 0) rfl (ee_var 2)))))))))
    (ess_one (es_ret ee_bl))
    ess_nil)
    (ess_cons (es_if (PW.pt (ew_or (et_not (et_tru (ee_call D_is_number hr (by decide) (by rfl) (ea_cons (ee_ixk (n := 1) rfl (ee_var 2)) ea_nil)))) (ew_or1 (et_not (et_chain sim_B0 sim_B0 op_le op_lt ee_int (ee_ixk (n := 1) rfl (ee_var 2)) (ee_var 1))))))
    (ess_one (es_ret ee_bl))
    ess_nil)
    (ess_one (es_ret (ee_eq hr.units (ec_len (by rfl) T.b_len (ea_cons (ee_lcG (own := [("test", 3)]) kok_fro (by decide) rfl sc_is_whole_row.nd (ei_items (ee_ixk (n := 0) rfl (ee_var 2))) (blkOk_by (own := [("test", 3)]) (N := ["n", "commands", "datum", "test"]) (sc := defScope s_is_whole_row) (by decide +kernel)) (fun _ _ _ _ _ => (eg_name (i := 3) sc_is_whole_row.nd rfl (by first | exact Or.inl rfl | exact Or.inr rfl))) (fun _ _ _ _ _ => (epts_one (et_not (et_tru (ee_call D_is_whole_test hr (by decide) (by rfl) (ea_cons (ee_var 0) (ea_cons (ee_var 3) ea_nil))))))) (fun _ _ _ _ _ => ee_int)) ea_nil)) ee_int)))))
abbrev s_are_phases : Stmt := top 36
theorem sc_are_phases : FnScope ["n", "modes", "commands", "datum", "phase", "table", "row"] ["n", "modes", "commands", "datum"] (defScope s_are_phases) := ⟨rfl, rfl, rfl, by decide +kernel, rfl, by decide +kernel, by decide +kernel⟩
theorem ok_are_phases {f : Addr} {fd : FuncData} (F : Fun K "are_phases" "are_phases" s_are_phases f fd) (T : Txt K mg) (D_is_whole_row : DefAt P w K mg base 3 "is_whole_row" ["n", "commands", "datum"] T_is_whole_row) : FnOk P w K mg base CX0 4 f fd ["n", "modes", "commands", "datum"] (spD K 4 T_are_phases) := by
  refine fn_okD (k := 3) F sc_are_phases rfl fun cdv A outer s H hr => ⟨rd_are_phases, ?_, m_are_phases⟩
  exact (ess_cons (es_if (PW.pt (ew_or (et_not (et_tru (ee_isi .tuple (by rfl) T.b_isinstance (by rfl) T.b_tuple (by decide +kernel) (ee_var 3)))) (ew_or1 (et_not (et_chain sim_B0 sim_B0 op_le op_le ee_int (ec_len (by rfl) T.b_len (ea_cons (ee_var 3) ea_nil)) (ee_glob (by rfl) T.c_MOST_PHASES))))))
    (ess_one (es_ret ee_bl))
    ess_nil)
    (ess_cons (es_for PassesOwn.never rfl (ei_items (ee_var 3)) (eg_name (i := 4) sc_are_phases.nd rfl (by first | exact Or.inl rfl | exact Or.inr rfl))
    (ess_cons (es_if (PW.pt (ew_or (et_not (et_tru (ee_isi .tuple (by rfl) T.b_isinstance (by rfl) T.b_tuple (by decide +kernel) (ee_var 4)))) (ew_or1 (et_ne hr.units (ec_len (by rfl) T.b_len (ea_cons (ee_var 4) ea_nil)) (ee_var 1)))))
    (ess_one (es_ret ee_bl))
    ess_nil)
    (ess_one (es_for PassesOwn.never rfl (ei_items (ee_var 4)) (eg_name (i := 5) sc_are_phases.nd rfl (by first | exact Or.inl rfl | exact Or.inr rfl))
    (ess_one (es_if (PW.pt (ew_or (et_not (et_tru (ee_isi .tuple (by rfl) T.b_isinstance (by rfl) T.b_tuple (by decide +kernel) (ee_var 5)))) (ew_or1 (et_gt (ec_len (by rfl) T.b_len (ea_cons (ee_lcG (own := [("row", 6)]) kok_fro (by decide) rfl sc_are_phases.nd (ei_items (ee_var 5)) (blkOk_by (own := [("row", 6)]) (N := ["n", "modes", "commands", "datum", "phase", "table", "row"]) (sc := defScope s_are_phases) (by decide +kernel)) (fun _ _ _ _ _ => (eg_name (i := 6) sc_are_phases.nd rfl (by first | exact Or.inl rfl | exact Or.inr rfl))) (fun _ _ _ _ _ => (epts_one (et_not (et_tru (ee_call D_is_whole_row hr (by decide) (by rfl) (ea_cons (ee_var 0) (ea_cons (ee_var 2) (ea_cons (ee_var 6) ea_nil)))))))) (fun _ _ _ _ _ => ee_int)) ea_nil)) ee_int))))
    (ess_one (es_ret ee_bl))
    ess_nil))))))
    (ess_one (es_ret ee_bl))))
abbrev s_are_offsets : Stmt := top 37
theorem sc_are_offsets : FnScope ["n", "modes", "commands", "datum", "row", "told", "offset"] ["n", "modes", "commands", "datum"] (defScope s_are_offsets) := ⟨rfl, rfl, rfl, by decide +kernel, rfl, by decide +kernel, by decide +kernel⟩
theorem ok_are_offsets {f : Addr} {fd : FuncData} (F : Fun K "are_offsets" "are_offsets" s_are_offsets f fd) (T : Txt K mg) (D_are_pairs : DefAt P w K mg base 3 "are_pairs" ["n", "datum"] T_are_pairs) : FnOk P w K mg base CX0 4 f fd ["n", "modes", "commands", "datum"] (spD K 4 T_are_offsets) := by
  refine fn_okD (k := 3) F sc_are_offsets rfl fun cdv A outer s H hr => ⟨rd_are_offsets, ?_, m_are_offsets⟩
  exact (ess_cons (es_if (PW.pt (ew_or (et_not (et_tru (ee_isi .tuple (by rfl) T.b_isinstance (by rfl) T.b_tuple (by decide +kernel) (ee_var 3)))) (ew_or1 (et_ne hr.units (ec_len (by rfl) T.b_len (ea_cons (ee_var 3) ea_nil)) (ee_var 1)))))
    (ess_one (es_ret ee_bl))
    ess_nil)
    (ess_cons (es_for PassesOwn.never rfl (ei_items (ee_var 3)) (eg_name (i := 4) sc_are_offsets.nd rfl (by first | exact Or.inl rfl | exact Or.inr rfl))
    (ess_cons (es_if (PW.pt (ew_or (et_not (et_tru (ee_isi .tuple (by rfl) T.b_isinstance (by rfl) T.b_tuple (by decide +kernel) (ee_var 4)))) (ew_or1 (et_ne hr.units (ec_len (by rfl) T.b_len (ea_cons (ee_var 4) ea_nil)) (ee_var 2)))))
    (ess_one (es_ret ee_bl))
    ess_nil)
    (ess_one (es_for PassesOwn.never rfl (ei_items (ee_var 4)) (eg_name (i := 5) sc_are_offsets.nd rfl (by first | exact Or.inl rfl | exact Or.inr rfl))
    (ess_cons (es_if (PW.pt (ew_or (et_not (et_tru (ee_isi .tuple (by rfl) T.b_isinstance (by rfl) T.b_tuple (by decide +kernel) (ee_var 5)))) (ew_or1 (et_ne hr.units (ec_len (by rfl) T.b_len (ea_cons (ee_var 5) ea_nil)) (ee_var 1)))))
    (ess_one (es_ret ee_bl))
    ess_nil)
    (ess_one (es_if (et_gt (ec_len (by rfl) T.b_len (ea_cons (ee_lcG (own := [("offset", 6)]) kok_fro (by decide) rfl sc_are_offsets.nd (ei_items (ee_var 5)) (blkOk_by (own := [("offset", 6)]) (N := ["n", "modes", "commands", "datum", "row", "told", "offset"]) (sc := defScope s_are_offsets) (by decide +kernel)) (fun _ _ _ _ _ => (eg_name (i := 6) sc_are_offsets.nd rfl (by first | exact Or.inl rfl | exact Or.inr rfl))) (fun _ _ _ _ _ => (epts_one (PW.pt (ew_and (et_notN (ee_var 6) ee_non) (ew_and1 (et_not (et_tru (ee_call D_are_pairs hr (by decide) (by rfl) (ea_cons (ee_var 0) (ea_cons (ee_var 6) ea_nil)))))))))) (fun _ _ _ _ _ => ee_int)) ea_nil)) ee_int)
    (ess_one (es_ret ee_bl))
    ess_nil)))))))
    (ess_one (es_ret ee_bl))))
abbrev s_are_boxes : Stmt := top 38
theorem sc_are_boxes : FnScope ["n", "modes", "datum", "may_be_none", "box"] ["n", "modes", "datum", "may_be_none"] (defScope s_are_boxes) := ⟨rfl, rfl, rfl, by decide +kernel, rfl, by decide +kernel, by decide +kernel⟩
theorem ok_are_boxes {f : Addr} {fd : FuncData} (F : Fun K "are_boxes" "are_boxes" s_are_boxes f fd) (T : Txt K mg) (D_are_pairs : DefAt P w K mg base 3 "are_pairs" ["n", "datum"] T_are_pairs) (D_are_risen : DefAt P w K mg base 1 "are_risen" ["datum"] T_are_risen) : FnOk P w K mg base CX0 4 f fd ["n", "modes", "datum", "may_be_none"] (spD K 4 T_are_boxes) := by
  refine fn_okD (k := 3) F sc_are_boxes rfl fun cdv A outer s H hr => ⟨rd_are_boxes, ?_, m_are_boxes⟩
  exact (ess_cons (es_if (PW.pt (ew_or (et_not (et_tru (ee_isi .tuple (by rfl) T.b_isinstance (by rfl) T.b_tuple (by decide +kernel) (ee_var 2)))) (ew_or1 (et_ne hr.units (ec_len (by rfl) T.b_len (ea_cons (ee_var 2) ea_nil)) (ee_var 1)))))
    (ess_one (es_ret ee_bl))
    ess_nil)
    (ess_cons (es_for PassesOwn.never rfl (ei_items (ee_var 2)) (eg_name (i := 4) sc_are_boxes.nd rfl (by first | exact Or.inl rfl | exact Or.inr rfl))
    (ess_one (es_if (et_isN (ee_var 4) ee_non)
    (ess_one (es_if (et_not (et_tru (ee_var 3)))
    (ess_one (es_ret ee_bl))
    ess_nil))
    (ess_one (es_if (PW.pt (ew_or (et_not (et_tru (ee_call D_are_pairs hr (by decide) (by rfl) (ea_cons (ee_var 0) (ea_cons (ee_var 4) ea_nil))))) (ew_or1 (et_not (et_tru (ee_call D_are_risen hr (by decide) (by rfl) (ea_cons (ee_var 4) ea_nil)))))))
    (ess_one (es_ret ee_bl))
    ess_nil)))))
    (ess_one (es_ret ee_bl))))
abbrev s_are_unit_pairs : Stmt := top 39
theorem sc_are_unit_pairs : FnScope ["datum", "unit"] ["datum"] (defScope s_are_unit_pairs) := ⟨rfl, rfl, rfl, by decide +kernel, rfl, by decide +kernel, by decide +kernel⟩
theorem ok_are_unit_pairs {f : Addr} {fd : FuncData} (F : Fun K "are_unit_pairs" "are_unit_pairs" s_are_unit_pairs f fd) (T : Txt K mg) (D_are_units : DefAt P w K mg base 3 "are_units" ["n", "datum"] T_are_units) (D_is_pair : DefAt P w K mg base 2 "is_pair" ["datum"] T_is_pair) : FnOk P w K mg base CX0 4 f fd ["datum"] (spD K 1 T_are_unit_pairs) := by
  refine fn_okD (k := 3) F sc_are_unit_pairs rfl fun cdv A outer s H hr => ⟨rd_are_unit_pairs, ?_, m_are_unit_pairs⟩
  exact (ess_cons (es_if (PW.pt (ew_or (et_not (et_tru (ee_isi .tuple (by rfl) T.b_isinstance (by rfl) T.b_tuple (by decide +kernel) (ee_var 0)))) (ew_or (et_not (et_chain sim_B0 sim_B0 op_le op_le ee_int (ec_len (by rfl) T.b_len (ea_cons (ee_var 0) ea_nil)) ee_int)) (ew_or1 (et_gt (ec_len (by rfl) T.b_len (ea_cons (ee_lcG (own := [("unit", 1)]) kok_fro (by decide) rfl sc_are_unit_pairs.nd (ei_items (ee_var 0)) (blkOk_by (own := [("unit", 1)]) (N := ["datum", "unit"]) (sc := defScope s_are_unit_pairs) (by decide +kernel)) (fun _ _ _ _ _ => (eg_name (i := 1) sc_are_unit_pairs.nd rfl (by first | exact Or.inl rfl | exact Or.inr rfl))) (fun _ _ _ _ _ => (epts_one (et_not (et_tru (ee_call D_is_pair hr (by decide) (by rfl) (ea_cons (ee_var 1) ea_nil)))))) (fun _ _ _ _ _ => ee_int)) ea_nil)) ee_int)))))
    (ess_one (es_ret ee_bl))
    ess_nil)
    (ess_one (es_ret (ee_call D_are_units hr (by decide) (by rfl) (ea_cons (ec_len (by rfl) T.b_len (ea_cons (ee_var 0) ea_nil)) (ea_cons (ee_var 0) ea_nil))))))
abbrev s_is_fixed_pilot : Stmt := top 40
theorem sc_is_fixed_pilot : FnScope ["datum", "n", "offsets", "modes", "commands", "first"] ["datum"] (defScope s_is_fixed_pilot) := ⟨rfl, rfl, rfl, by decide +kernel, rfl, by decide +kernel, by decide +kernel⟩
theorem ok_is_fixed_pilot {f : Addr} {fd : FuncData} (F : Fun K "is_fixed_pilot" "is_fixed_pilot" s_is_fixed_pilot f fd) (T : Txt K mg) (D_are_pairs : DefAt P w K mg base 3 "are_pairs" ["n", "datum"] T_are_pairs) (D_are_phases : DefAt P w K mg base 4 "are_phases" ["n", "modes", "commands", "datum"] T_are_phases) (D_are_offsets : DefAt P w K mg base 4 "are_offsets" ["n", "modes", "commands", "datum"] T_are_offsets) (D_are_boxes : DefAt P w K mg base 4 "are_boxes" ["n", "modes", "datum", "may_be_none"] T_are_boxes) (D_are_unit_pairs : DefAt P w K mg base 4 "are_unit_pairs" ["datum"] T_are_unit_pairs) : FnOk P w K mg base CX0 5 f fd ["datum"] (spD K 1 T_is_fixed_pilot) := by
  refine fn_okD (k := 4) F sc_is_fixed_pilot rfl fun cdv A outer s H hr => ⟨rd_is_fixed_pilot, ?_, m_is_fixed_pilot⟩
  exact (ess_cons (es_if (PW.pt (ew_or (et_not (et_tru (ee_isi .tuple (by rfl) T.b_isinstance (by rfl) T.b_tuple (by decide +kernel) (ee_var 0)))) (ew_or (et_ne hr.units (ec_len (by rfl) T.b_len (ea_cons (ee_var 0) ea_nil)) ee_int) (ew_or1 (et_not (et_tru (ee_call D_are_unit_pairs hr (by decide) (by rfl) (ea_cons (ee_ixk (n := 0) rfl (ee_var 0)) ea_nil))))))))
    (ess_one (es_ret ee_bl))
    ess_nil)
    (ess_cons (es_set 1 sc_is_fixed_pilot.nd rfl (by first | exact Or.inl rfl | exact Or.inr rfl) (ec_len (by rfl) T.b_len (ea_cons (ee_ixk (n := 0) rfl (ee_var 0)) ea_nil)))
    (ess_cons (es_set 2 sc_is_fixed_pilot.nd rfl (by first | exact Or.inl rfl | exact Or.inr rfl) (ee_ixk (n := 1) rfl (ee_var 0)))
    (ess_cons (es_if (PW.pt (ew_or (et_not (et_tru (ee_isi .tuple (by rfl) T.b_isinstance (by rfl) T.b_tuple (by decide +kernel) (ee_var 2)))) (ew_or (et_not (et_chain sim_B0 sim_B0 op_le op_le ee_int (ec_len (by rfl) T.b_len (ea_cons (ee_var 2) ea_nil)) ee_int)) (ew_or1 (et_not (et_tru (ee_isi .tuple (by rfl) T.b_isinstance (by rfl) T.b_tuple (by decide +kernel) (ee_ixk (n := 0) rfl (ee_var 2)))))))))
    (ess_one (es_ret ee_bl))
    ess_nil)
    (ess_cons (es_set 3 sc_is_fixed_pilot.nd rfl (by first | exact Or.inl rfl | exact Or.inr rfl) (ec_len (by rfl) T.b_len (ea_cons (ee_var 2) ea_nil)))
    (ess_cons (es_set 4 sc_is_fixed_pilot.nd rfl (by first | exact Or.inl rfl | exact Or.inr rfl) (ec_len (by rfl) T.b_len (ea_cons (ee_ixk (n := 0) rfl (ee_var 2)) ea_nil)))
    (ess_cons (es_if (PW.pt (ew_or (et_not (et_chain sim_B0 sim_B0 op_le op_le ee_int (ee_var 4) ee_int)) (ew_or (et_not (et_tru (ee_call D_are_offsets hr (by decide) (by rfl) (ea_cons (ee_var 1) (ea_cons (ee_var 3) (ea_cons (ee_var 4) (ea_cons (ee_var 2) ea_nil))))))) (ew_or1 (et_not (et_tru (ee_call D_are_pairs hr (by decide) (by rfl) (ea_cons (ee_var 1) (ea_cons (ee_ixk (n := 2) rfl (ee_var 0)) ea_nil)))))))))
    (ess_one (es_ret ee_bl))
    ess_nil)
    (ess_cons (es_if (PW.pt (ew_or (et_not (et_tru (ee_call D_are_phases hr (by decide) (by rfl) (ea_cons (ee_var 1) (ea_cons (ee_var 3) (ea_cons (ee_var 4) (ea_cons (ee_ixk (n := 3) rfl (ee_var 0)) ea_nil))))))) (ew_or1 (et_not (et_tru (ee_call D_are_boxes hr (by decide) (by rfl) (ea_cons (ee_var 1) (ea_cons (ee_var 3) (ea_cons (ee_ixk (n := 4) rfl (ee_var 0)) (ea_cons ee_bl ea_nil))))))))))
    (ess_one (es_ret ee_bl))
    ess_nil)
    (ess_one (es_ret (ee_and (ee_call D_are_boxes hr (by decide) (by rfl) (ea_cons (ee_var 1) (ea_cons (ee_var 3) (ea_cons (ee_ixk (n := 5) rfl (ee_var 0)) (ea_cons ee_bl ea_nil))))) (ee_one (ee_eq hr.units (ec_len (by rfl) T.b_len (ea_cons (ee_lcG (own := [("first", 5)]) kok_fro (by decide) rfl sc_is_fixed_pilot.nd (ei_items (ee_ixk (n := 5) rfl (ee_var 0))) (blkOk_by (own := [("first", 5)]) (N := ["datum", "n", "offsets", "modes", "commands", "first"]) (sc := defScope s_is_fixed_pilot) (by decide +kernel)) (fun _ _ _ _ _ => (eg_name (i := 5) sc_is_fixed_pilot.nd rfl (by first | exact Or.inl rfl | exact Or.inr rfl))) (fun _ _ _ _ _ => (epts_one (et_notN (ee_var 5) ee_non))) (fun _ _ _ _ _ => ee_int)) ea_nil)) ee_int)))))))))))))
abbrev s__law_deal : Stmt := top 42
theorem sc__law_deal : FnScope ["script", "row", "k", "cell", "turn", "total"] ["script"] (defScope s__law_deal) := ⟨rfl, rfl, rfl, by decide +kernel, rfl, by decide +kernel, by decide +kernel⟩
theorem ok__law_deal {f : Addr} {fd : FuncData} (F : Fun K "_law_deal" "_law_deal" s__law_deal f fd) (T : Txt K mg)  : FnOk P w K mg base CX0 1 f fd ["script"] (spD K 1 T__law_deal) := by
  refine fn_okD (k := 0) F sc__law_deal rfl fun cdv A outer s H hr => ⟨rd__law_deal, ?_, m__law_deal⟩
  exact (ess_cons (es_set 1 sc__law_deal.nd rfl (by first | exact Or.inl rfl | exact Or.inr rfl) (ee_lstM ea_nil))
    (ess_cons (es_for PassesOwn.never rfl (ei_rg1 (by rfl) T.b_range (ea_cons (ec_min2 rfl (by rfl) T.b_min (ea_cons (ec_len (by rfl) T.b_len (ea_cons (ee_var 0) ea_nil)) (ea_cons ee_int ea_nil))) ea_nil)) (eg_name (i := 2) sc__law_deal.nd rfl (by first | exact Or.inl rfl | exact Or.inr rfl))
    (ess_cons (es_set 3 sc__law_deal.nd rfl (by first | exact Or.inl rfl | exact Or.inr rfl) (ec_abs (by rfl) T.b_abs (ea_cons (ec_int (by rfl) T.b_int (ea_cons (ee_ix (ee_var 0) (ee_var 2)) ea_nil)) ea_nil)))
    (ess_one (es_if (et_ge (ee_var 3) (ee_pow ee_int ee_int))
    (ess_one (es_for PassesOwn.never rfl (ei_rg1 (by rfl) T.b_range (ea_cons ee_int ea_nil)) (eg_name (i := 4) sc__law_deal.nd rfl (by first | exact Or.inl rfl | exact Or.inr rfl))
    (ess_one (es_if (et_gt (ee_var 3) ee_int)
    (ess_cons (es_expr (ee_app (ee_var 1) (ee_mod (ee_var 3) ee_int)))
    (ess_one (es_set 3 sc__law_deal.nd rfl (by first | exact Or.inl rfl | exact Or.inr rfl) (ee_div (ee_var 3) ee_int))))
    ess_nil))))
    (ess_cons (es_set 3 sc__law_deal.nd rfl (by first | exact Or.inl rfl | exact Or.inr rfl) (ee_add (ee_add (ee_mul (ee_mod (ee_var 3) ee_int) ee_int) (ee_mul (ee_var 2) ee_int)) ee_int))
    (ess_one (es_for PassesOwn.never rfl (ei_rg1 (by rfl) T.b_range (ea_cons ee_int ea_nil)) (eg_name (i := 4) sc__law_deal.nd rfl (by first | exact Or.inl rfl | exact Or.inr rfl))
    (ess_cons (es_set 3 sc__law_deal.nd rfl (by first | exact Or.inl rfl | exact Or.inr rfl) (ee_mod (ee_add (ee_add (ee_mul (ee_var 3) ee_int) ee_int) (ee_var 4)) ee_int))
    (ess_one (es_expr (ee_app (ee_var 1) (ee_mod (ee_div (ee_var 3) ee_int) ee_int))))))))))))
    (ess_cons (es_set 5 sc__law_deal.nd rfl (by first | exact Or.inl rfl | exact Or.inr rfl) (ee_add (ec_sum rfl (by rfl) T.b_sum (ea_cons (ee_var 1) ea_nil)) (ec_len (by rfl) T.b_len (ea_cons (ee_var 0) ea_nil))))
    (ess_one (es_ret (ee_lstM (ea_cons (ee_varF 1) (ea_cons (ee_lstM (ea_cons ee_int ea_nil)) (ea_cons (ee_var 5) ea_nil)))))))))
abbrev s__law_take : Stmt := top 43
theorem sc__law_take : FnScope ["deal", "many", "at"] ["deal", "many"] (defScope s__law_take) := ⟨rfl, rfl, rfl, by decide +kernel, rfl, by decide +kernel, by decide +kernel⟩
theorem ok__law_take {f : Addr} {fd : FuncData} (F : Fun K "_law_take" "_law_take" s__law_take f fd) (T : Txt K mg)  : FnOk P w K mg base CX0 1 f fd ["deal", "many"] (spD K 2 T__law_take) := by
  refine fn_okD (k := 0) F sc__law_take rfl fun cdv A outer s H hr => ⟨rd__law_take, ?_, m__law_take⟩
  exact (ess_cons (es_set 2 sc__law_take.nd rfl (by first | exact Or.inl rfl | exact Or.inr rfl) (ee_ixk (n := 0) rfl (ee_ixk (n := 1) rfl (ee_var 0))))
    (ess_cons (es_asg (ee_add (ee_var 2) ee_int) (eg_sub (ee_ixk (n := 1) rfl (ee_var 0)) ee_int))
    (ess_cons (es_if (et_lt (ee_var 2) (ec_len (by rfl) T.b_len (ea_cons (ee_ixk (n := 0) rfl (ee_var 0)) ea_nil)))
    (ess_one (es_ret (ee_mod (ee_ix (ee_ixk (n := 0) rfl (ee_var 0)) (ee_var 2)) (ee_var 1))))
    ess_nil)
    (ess_one (es_ret (ee_mod (ee_div (ee_add (ee_add (ee_mul (ee_var 2) ee_int) (ee_mul (ee_ixk (n := 2) rfl (ee_var 0)) ee_int)) (ee_mul (ee_mul (ee_var 2) (ee_var 2)) ee_int)) ee_int) (ee_var 1)))))))
abbrev s__law_pick : Stmt := top 44
theorem sc__law_pick : FnScope ["deal", "things"] ["deal", "things"] (defScope s__law_pick) := ⟨rfl, rfl, rfl, by decide +kernel, rfl, by decide +kernel, by decide +kernel⟩
theorem ok__law_pick {f : Addr} {fd : FuncData} (F : Fun K "_law_pick" "_law_pick" s__law_pick f fd) (T : Txt K mg) (D__law_take : DefAt P w K mg base 1 "_law_take" ["deal", "many"] T__law_take) : FnOk P w K mg base CX0 2 f fd ["deal", "things"] (spD K 2 T__law_pick) := by
  refine fn_okD (k := 1) F sc__law_pick rfl fun cdv A outer s H hr => ⟨rd__law_pick, ?_, m__law_pick⟩
  exact (ess_one (es_ret (ee_ix (ee_var 1) (ee_call D__law_take hr (by decide) (by rfl) (ea_cons (ee_var 0) (ea_cons (ec_len (by rfl) T.b_len (ea_cons (ee_var 1) ea_nil)) ea_nil))))))
abbrev s__law_same : Stmt := top 45
theorem sc__law_same : FnScope ["a", "b", "k"] ["a", "b"] (defScope s__law_same) := ⟨rfl, rfl, rfl, by decide +kernel, rfl, by decide +kernel, by decide +kernel⟩
theorem ok__law_same {f : Addr} {fd : FuncData} {k : Nat} {Tself T2 : DSp} (hm : ∀ xs cs R, xs.length = 2 → Okc cs.length cs → T2 xs cs R → rd__law_same Tself (endsD cs.length R) (startD 3 xs) cs) (F : Fun K "_law_same" "_law_same" s__law_same f fd) (T : Txt K mg)  (Dself : DefAt P w K mg base k "_law_same" ["a", "b"] Tself) : FnOk P w K mg base CX0 (k + 1) f fd ["a", "b"] (spD K 2 T2) := by
  refine fn_okD (k := k + 0) F sc__law_same rfl fun cdv A outer s H hr => ⟨rd__law_same Tself, ?_, hm⟩
  have hj : k ≤ k + 0 := Nat.le_add_right _ _
  exact (ess_cons (es_if (PW.pt (ew_or (et_tru (ee_isi .tuple (by rfl) T.b_isinstance (by rfl) T.b_tuple (by decide +kernel) (ee_var 1))) (ew_or1 (et_tru (ee_isi .list (by rfl) T.b_isinstance (by rfl) T.b_list (by decide +kernel) (ee_var 1))))))
    (ess_cons (es_if (PW.pt (ew_or (PW.pt (ew_and (et_tru (ee_isi .tuple (by rfl) T.b_isinstance (by rfl) T.b_tuple (by decide +kernel) (ee_var 1))) (ew_and1 (et_not (et_tru (ee_isi .tuple (by rfl) T.b_isinstance (by rfl) T.b_tuple (by decide +kernel) (ee_var 0))))))) (ew_or1 (PW.pt (ew_and (et_tru (ee_isi .list (by rfl) T.b_isinstance (by rfl) T.b_list (by decide +kernel) (ee_var 1))) (ew_and1 (et_not (et_tru (ee_isi .list (by rfl) T.b_isinstance (by rfl) T.b_list (by decide +kernel) (ee_var 0))))))))))
    (ess_one (es_ret ee_bl))
    ess_nil)
    (ess_cons (es_if (et_ne hr.units (ec_len (by rfl) T.b_len (ea_cons (ee_var 0) ea_nil)) (ec_len (by rfl) T.b_len (ea_cons (ee_var 1) ea_nil)))
    (ess_one (es_ret ee_bl))
    ess_nil)
    (ess_cons (es_for PassesOwn.never rfl (ei_rg1 (by rfl) T.b_range (ea_cons (ec_len (by rfl) T.b_len (ea_cons (ee_var 1) ea_nil)) ea_nil)) (eg_name (i := 2) sc__law_same.nd rfl (by first | exact Or.inl rfl | exact Or.inr rfl))
    (ess_one (es_if (et_not (et_tru (ee_call Dself hr hj (by rfl) (ea_cons (ee_ix (ee_var 0) (ee_var 2)) (ea_cons (ee_ix (ee_var 1) (ee_var 2)) ea_nil)))))
    (ess_one (es_ret ee_bl))
    ess_nil)))
    (ess_one (es_ret ee_bl)))))
    ess_nil)
    (ess_cons (es_if (PW.pt (ew_or (et_tru (ee_isi .bool (by rfl) T.b_isinstance (by rfl) T.b_bool (by decide +kernel) (ee_var 0))) (ew_or1 (et_tru (ee_isi .bool (by rfl) T.b_isinstance (by rfl) T.b_bool (by decide +kernel) (ee_var 1))))))
    (ess_one (es_ret (ee_and (ee_isi .bool (by rfl) T.b_isinstance (by rfl) T.b_bool (by decide +kernel) (ee_var 0)) (ee_and (ee_isi .bool (by rfl) T.b_isinstance (by rfl) T.b_bool (by decide +kernel) (ee_var 1)) (ee_one (ee_eq hr.units (ee_var 0) (ee_var 1)))))))
    ess_nil)
    (ess_cons (es_if (et_tru (ee_isi .int (by rfl) T.b_isinstance (by rfl) T.b_int (by decide +kernel) (ee_var 1)))
    (ess_one (es_ret (ee_and (ee_isi .int (by rfl) T.b_isinstance (by rfl) T.b_int (by decide +kernel) (ee_var 0)) (ee_one (ee_eq hr.units (ee_var 0) (ee_var 1))))))
    ess_nil)
    (ess_cons (es_if (et_tru (ee_isi .str (by rfl) T.b_isinstance (by rfl) T.b_str (by decide +kernel) (ee_var 1)))
    (ess_one (es_ret (ee_and (ee_isi .str (by rfl) T.b_isinstance (by rfl) T.b_str (by decide +kernel) (ee_var 0)) (ee_one (ee_eq hr.units (ee_var 0) (ee_var 1))))))
    ess_nil)
    (ess_one (es_ret (ee_and (ee_isN (ee_var 0) ee_non) (ee_one (ee_isN (ee_var 1) ee_non)))))))))
abbrev s__law_pair : Stmt := top 46
theorem sc__law_pair : FnScope ["deal", "low", "many", "wide", "lo"] ["deal", "low", "many", "wide"] (defScope s__law_pair) := ⟨rfl, rfl, rfl, by decide +kernel, rfl, by decide +kernel, by decide +kernel⟩
theorem ok__law_pair {f : Addr} {fd : FuncData} (F : Fun K "_law_pair" "_law_pair" s__law_pair f fd) (T : Txt K mg) (D__law_take : DefAt P w K mg base 1 "_law_take" ["deal", "many"] T__law_take) : FnOk P w K mg base CX0 2 f fd ["deal", "low", "many", "wide"] (spD K 4 T__law_pair) := by
  refine fn_okD (k := 1) F sc__law_pair rfl fun cdv A outer s H hr => ⟨rd__law_pair, ?_, m__law_pair⟩
  exact (ess_cons (es_set 4 sc__law_pair.nd rfl (by first | exact Or.inl rfl | exact Or.inr rfl) (ee_add (ee_var 1) (ee_call D__law_take hr (by decide) (by rfl) (ea_cons (ee_var 0) (ea_cons (ee_var 2) ea_nil)))))
    (ess_one (es_ret (ee_tup (ea_cons (ee_var 4) (ea_cons (ee_add (ee_var 4) (ee_call D__law_take hr (by decide) (by rfl) (ea_cons (ee_var 0) (ea_cons (ee_var 3) ea_nil)))) ea_nil))))))
abbrev s__law_row : Stmt := top 47
theorem sc__law_row : FnScope ["deal", "n", "commands", "tests", "turn", "factors", "k"] ["deal", "n", "commands"] (defScope s__law_row) := ⟨rfl, rfl, rfl, by decide +kernel, rfl, by decide +kernel, by decide +kernel⟩
theorem ok__law_row {f : Addr} {fd : FuncData} (F : Fun K "_law_row" "_law_row" s__law_row f fd) (T : Txt K mg) (D__law_take : DefAt P w K mg base 1 "_law_take" ["deal", "many"] T__law_take) : FnOk P w K mg base CX0 2 f fd ["deal", "n", "commands"] (spD K 3 T__law_row) := by
  refine fn_okD (k := 1) F sc__law_row rfl fun cdv A outer s H hr => ⟨rd__law_row, ?_, m__law_row⟩
  exact (ess_cons (es_set 3 sc__law_row.nd rfl (by first | exact Or.inl rfl | exact Or.inr rfl) (ee_lstM ea_nil))
    (ess_cons (es_for PassesOwn.never rfl (ei_rg1 (by rfl) T.b_range (ea_cons (ee_call D__law_take hr (by decide) (by rfl) (ea_cons (ee_var 0) (ea_cons ee_int ea_nil))) ea_nil)) (eg_name (i := 4) sc__law_row.nd rfl (by first | exact Or.inl rfl | exact Or.inr rfl))
    (ess_cons (es_set 5 sc__law_row.nd rfl (by first | exact Or.inl rfl | exact Or.inr rfl) (ec_tuple (by rfl) T.b_tuple (ea_cons (ee_lcG (own := [("k", 6)]) kok_fro (by decide) rfl sc__law_row.nd (ei_rg1 (by rfl) T.b_range (ea_cons (ee_var 1) ea_nil)) (blkOk_by (own := [("k", 6)]) (N := ["deal", "n", "commands", "tests", "turn", "factors", "k"]) (sc := defScope s__law_row) (by decide +kernel)) (fun _ _ _ _ _ => (eg_name (i := 6) sc__law_row.nd rfl (by first | exact Or.inl rfl | exact Or.inr rfl))) (fun _ _ _ _ _ => epts_nil) (fun _ _ _ _ _ => (ee_sub (ee_call D__law_take hr (by decide) (by rfl) (ea_cons (ee_var 0) (ea_cons ee_int ea_nil))) ee_int))) ea_nil)))
    (ess_one (es_expr (ee_app (ee_var 3) (ee_tup (ea_cons (ee_var 5) (ea_cons (ee_sub (ee_call D__law_take hr (by decide) (by rfl) (ea_cons (ee_var 0) (ea_cons ee_int ea_nil))) ee_int) ea_nil))))))))
    (ess_one (es_ret (ee_tup (ea_cons (ec_tuple (by rfl) T.b_tuple (ea_cons (ee_var 3) ea_nil)) (ea_cons (ee_call D__law_take hr (by decide) (by rfl) (ea_cons (ee_var 0) (ea_cons (ee_var 2) ea_nil))) ea_nil)))))))
abbrev s__law_offset : Stmt := top 48
theorem sc__law_offset : FnScope ["deal", "n", "k"] ["deal", "n"] (defScope s__law_offset) := ⟨rfl, rfl, rfl, by decide +kernel, rfl, by decide +kernel, by decide +kernel⟩
theorem ok__law_offset {f : Addr} {fd : FuncData} (F : Fun K "_law_offset" "_law_offset" s__law_offset f fd) (T : Txt K mg) (D__law_take : DefAt P w K mg base 1 "_law_take" ["deal", "many"] T__law_take) (D__law_pair : DefAt P w K mg base 2 "_law_pair" ["deal", "low", "many", "wide"] T__law_pair) : FnOk P w K mg base CX0 3 f fd ["deal", "n"] (spD K 2 T__law_offset) := by
  refine fn_okD (k := 2) F sc__law_offset rfl fun cdv A outer s H hr => ⟨rd__law_offset, ?_, m__law_offset⟩
  exact (ess_cons (es_if (et_eq hr.units (ee_call D__law_take hr (by decide) (by rfl) (ea_cons (ee_var 0) (ea_cons ee_int ea_nil))) ee_int)
    (ess_one (es_ret ee_non))
    ess_nil)
    (ess_one (es_ret (ec_tuple (by rfl) T.b_tuple (ea_cons (ee_lcG (own := [("k", 2)]) kok_fro (by decide) rfl sc__law_offset.nd (ei_rg1 (by rfl) T.b_range (ea_cons (ee_var 1) ea_nil)) (blkOk_by (own := [("k", 2)]) (N := ["deal", "n", "k"]) (sc := defScope s__law_offset) (by decide +kernel)) (fun _ _ _ _ _ => (eg_name (i := 2) sc__law_offset.nd rfl (by first | exact Or.inl rfl | exact Or.inr rfl))) (fun _ _ _ _ _ => epts_nil) (fun _ _ _ _ _ => (ee_call D__law_pair hr (by decide) (by rfl) (ea_cons (ee_var 0) (ea_cons (ee_neg ee_int) (ea_cons ee_int (ea_cons ee_int ea_nil))))))) ea_nil)))))
abbrev s__law_pilot : Stmt := top 49
theorem sc__law_pilot : FnScope ["deal", "n", "modes", "commands", "phases", "units", "offsets", "q", "row", "reads", "tables", "j", "phase", "rows", "spans", "start", "first", "k", "c", "r", "turn", "span", "lo", "hi"] ["deal", "n"] (defScope s__law_pilot) := ⟨rfl, rfl, rfl, by decide +kernel, rfl, by decide +kernel, by decide +kernel⟩
theorem ok__law_pilot {f : Addr} {fd : FuncData} (F : Fun K "_law_pilot" "_law_pilot" s__law_pilot f fd) (T : Txt K mg) (D__law_take : DefAt P w K mg base 1 "_law_take" ["deal", "many"] T__law_take) (D__law_pick : DefAt P w K mg base 2 "_law_pick" ["deal", "things"] T__law_pick) (D__law_pair : DefAt P w K mg base 2 "_law_pair" ["deal", "low", "many", "wide"] T__law_pair) (D__law_row : DefAt P w K mg base 2 "_law_row" ["deal", "n", "commands"] T__law_row) (D__law_offset : DefAt P w K mg base 3 "_law_offset" ["deal", "n"] T__law_offset) : FnOk P w K mg base CX0 4 f fd ["deal", "n"] (spD K 2 T__law_pilot) := by
  refine fn_okD (k := 3) F sc__law_pilot rfl fun cdv A outer s H hr => ⟨rd__law_pilot, ?_, m__law_pilot⟩
  exact (ess_cons (by first
      | exact es_par3 2 3 4 rfl sc__law_pilot.nd rfl rfl rfl (by decide) (by decide) (by decide) rfl rfl rfl (ea_cons (ee_add ee_int (ee_call D__law_take hr (by decide) (by rfl) (ea_cons (ee_var 0) (ea_cons ee_int ea_nil)))) (ea_cons (ee_add ee_int (ee_call D__law_take hr (by decide) (by rfl) (ea_cons (ee_var 0) (ea_cons ee_int ea_nil)))) (ea_cons (ee_add ee_int (ee_call D__law_take hr (by decide) (by rfl) (ea_cons (ee_var 0) (ea_cons ee_int ea_nil)))) ea_nil))) (by rfl)
      | exact es_parN (n := 3) rfl (ea_cons (ee_add ee_int (ee_call D__law_take hr (by decide) (by rfl) (ea_cons (ee_var 0) (ea_cons ee_int ea_nil)))) (ea_cons (ee_add ee_int (ee_call D__law_take hr (by decide) (by rfl) (ea_cons (ee_var 0) (ea_cons ee_int ea_nil)))) (ea_cons (ee_add ee_int (ee_call D__law_take hr (by decide) (by rfl) (ea_cons (ee_var 0) (ea_cons ee_int ea_nil)))) ea_nil))) (egs_cons (ks := [2, 3, 4]) (eg_name (i := 2) sc__law_pilot.nd rfl (by first | exact Or.inl rfl | exact Or.inr rfl)) (egs_cons (ks := [3, 4]) (eg_name (i := 3) sc__law_pilot.nd rfl (by first | exact Or.inl rfl | exact Or.inr rfl)) (egs_cons (ks := [4]) (eg_name (i := 4) sc__law_pilot.nd rfl (by first | exact Or.inl rfl | exact Or.inr rfl)) (egs_nil (is := [])) (by decide) (by decide)) (by decide) (by decide)) (by decide) (by decide)))
    (ess_cons (es_set 5 sc__law_pilot.nd rfl (by first | exact Or.inl rfl | exact Or.inr rfl) (ec_tuple (by rfl) T.b_tuple (ea_cons (ee_lcG (own := [("k", 17)]) kok_fro (by decide) rfl sc__law_pilot.nd (ei_rg1 (by rfl) T.b_range (ea_cons (ee_var 1) ea_nil)) (blkOk_by (own := [("k", 17)]) (N := ["deal", "n", "modes", "commands", "phases", "units", "offsets", "q", "row", "reads", "tables", "j", "phase", "rows", "spans", "start", "first", "k", "c", "r", "turn", "span", "lo", "hi"]) (sc := defScope s__law_pilot) (by decide +kernel)) (fun _ _ _ _ _ => (eg_name (i := 17) sc__law_pilot.nd rfl (by first | exact Or.inl rfl | exact Or.inr rfl))) (fun _ _ _ _ _ => epts_nil) (fun _ _ _ _ _ => (ee_call D__law_pick hr (by decide) (by rfl) (ea_cons (ee_var 0) (ea_cons (ee_lst (ea_cons (ee_tup (ea_cons ee_int (ea_cons ee_int ea_nil))) (ea_cons (ee_tup (ea_cons ee_int (ea_cons ee_int ea_nil))) (ea_cons (ee_tup (ea_cons ee_int (ea_cons ee_int ea_nil))) ea_nil)))) ea_nil))))) ea_nil)))
    (ess_cons (es_set 6 sc__law_pilot.nd rfl (by first | exact Or.inl rfl | exact Or.inr rfl) (ee_lstM ea_nil))
    (ess_cons (es_for PassesOwn.never rfl (ei_rg1 (by rfl) T.b_range (ea_cons (ee_var 2) ea_nil)) (eg_name (i := 7) sc__law_pilot.nd rfl (by first | exact Or.inl rfl | exact Or.inr rfl))
    (ess_cons (by first
      | exact es_setLcG 8 (own := [("c", 18)]) kok_fro (by decide) rfl sc__law_pilot.nd rfl rfl (sw_true rfl rfl rfl (by decide +kernel)) (ei_rg1 (by rfl) T.b_range (ea_cons (ee_var 3) ea_nil)) (blkOk_by (own := [("c", 18)]) (N := ["deal", "n", "modes", "commands", "phases", "units", "offsets", "q", "row", "reads", "tables", "j", "phase", "rows", "spans", "start", "first", "k", "c", "r", "turn", "span", "lo", "hi"]) (sc := defScope s__law_pilot) (by decide +kernel)) (fun _ _ _ _ _ => (eg_name (i := 18) sc__law_pilot.nd rfl (by first | exact Or.inl rfl | exact Or.inr rfl))) (fun _ _ _ _ _ => epts_nil) (fun _ _ _ _ _ => (ec_tuple (by rfl) T.b_tuple (ea_cons (ee_lcG (own := [("r", 19)]) kok_fro (by decide) rfl sc__law_pilot.nd (ei_rg1 (by rfl) T.b_range (ea_cons (ee_var 2) ea_nil)) (blkOk_by (own := [("r", 19)]) (N := ["deal", "n", "modes", "commands", "phases", "units", "offsets", "q", "row", "reads", "tables", "j", "phase", "rows", "spans", "start", "first", "k", "c", "r", "turn", "span", "lo", "hi"]) (sc := _) (by first | rfl | with_unfolding_all rfl)) (fun _ _ _ _ _ => (eg_name (i := 19) sc__law_pilot.nd rfl (by first | exact Or.inl rfl | exact Or.inr rfl))) (fun _ _ _ _ _ => epts_nil) (fun _ _ _ _ _ => (ee_call D__law_offset hr (by decide) (by rfl) (ea_cons (ee_var 0) (ea_cons (ee_var 1) ea_nil))))) ea_nil)))
      | exact es_set 8 sc__law_pilot.nd rfl (by first | exact Or.inl rfl | exact Or.inr rfl) (ee_lcG (own := [("c", 18)]) kok_fro (by decide) rfl sc__law_pilot.nd (ei_rg1 (by rfl) T.b_range (ea_cons (ee_var 3) ea_nil)) (blkOk_by (own := [("c", 18)]) (N := ["deal", "n", "modes", "commands", "phases", "units", "offsets", "q", "row", "reads", "tables", "j", "phase", "rows", "spans", "start", "first", "k", "c", "r", "turn", "span", "lo", "hi"]) (sc := defScope s__law_pilot) (by decide +kernel)) (fun _ _ _ _ _ => (eg_name (i := 18) sc__law_pilot.nd rfl (by first | exact Or.inl rfl | exact Or.inr rfl))) (fun _ _ _ _ _ => epts_nil) (fun _ _ _ _ _ => (ec_tuple (by rfl) T.b_tuple (ea_cons (ee_lcG (own := [("r", 19)]) kok_fro (by decide) rfl sc__law_pilot.nd (ei_rg1 (by rfl) T.b_range (ea_cons (ee_var 2) ea_nil)) (blkOk_by (own := [("r", 19)]) (N := ["deal", "n", "modes", "commands", "phases", "units", "offsets", "q", "row", "reads", "tables", "j", "phase", "rows", "spans", "start", "first", "k", "c", "r", "turn", "span", "lo", "hi"]) (sc := _) (by first | rfl | with_unfolding_all rfl)) (fun _ _ _ _ _ => (eg_name (i := 19) sc__law_pilot.nd rfl (by first | exact Or.inl rfl | exact Or.inr rfl))) (fun _ _ _ _ _ => epts_nil) (fun _ _ _ _ _ => (ee_call D__law_offset hr (by decide) (by rfl) (ea_cons (ee_var 0) (ea_cons (ee_var 1) ea_nil))))) ea_nil)))))
    (ess_one (es_expr (ee_app (ee_var 6) (ec_tuple (by rfl) T.b_tuple (ea_cons (ee_var 8) ea_nil)))))))
    (ess_cons (es_set 9 sc__law_pilot.nd rfl (by first | exact Or.inl rfl | exact Or.inr rfl) (ec_tuple (by rfl) T.b_tuple (ea_cons (ee_lcG (own := [("k", 17)]) kok_fro (by decide) rfl sc__law_pilot.nd (ei_rg1 (by rfl) T.b_range (ea_cons (ee_var 1) ea_nil)) (blkOk_by (own := [("k", 17)]) (N := ["deal", "n", "modes", "commands", "phases", "units", "offsets", "q", "row", "reads", "tables", "j", "phase", "rows", "spans", "start", "first", "k", "c", "r", "turn", "span", "lo", "hi"]) (sc := defScope s__law_pilot) (by decide +kernel)) (fun _ _ _ _ _ => (eg_name (i := 17) sc__law_pilot.nd rfl (by first | exact Or.inl rfl | exact Or.inr rfl))) (fun _ _ _ _ _ => epts_nil) (fun _ _ _ _ _ => (ee_tup (ea_cons (ee_call D__law_take hr (by decide) (by rfl) (ea_cons (ee_var 0) (ea_cons ee_int ea_nil))) (ea_cons (ee_add ee_int (ee_call D__law_take hr (by decide) (by rfl) (ea_cons (ee_var 0) (ea_cons ee_int ea_nil)))) ea_nil))))) ea_nil)))
    (ess_cons (es_set 10 sc__law_pilot.nd rfl (by first | exact Or.inl rfl | exact Or.inr rfl) (ee_lstM ea_nil))
    (ess_cons (es_for PassesOwn.never rfl (ei_rg1 (by rfl) T.b_range (ea_cons (ee_var 4) ea_nil)) (eg_name (i := 11) sc__law_pilot.nd rfl (by first | exact Or.inl rfl | exact Or.inr rfl))
    (ess_cons (es_set 12 sc__law_pilot.nd rfl (by first | exact Or.inl rfl | exact Or.inr rfl) (ee_lstM ea_nil))
    (ess_cons (es_for PassesOwn.never rfl (ei_rg1 (by rfl) T.b_range (ea_cons (ee_var 2) ea_nil)) (eg_name (i := 7) sc__law_pilot.nd rfl (by first | exact Or.inl rfl | exact Or.inr rfl))
    (ess_cons (by first
      | exact es_setLcG 13 (own := [("turn", 20)]) kok_mut (by decide) rfl sc__law_pilot.nd rfl rfl (sw_true rfl rfl rfl (by decide +kernel)) (ei_rg1 (by rfl) T.b_range (ea_cons (ee_call D__law_take hr (by decide) (by rfl) (ea_cons (ee_var 0) (ea_cons ee_int ea_nil))) ea_nil)) (blkOk_by (own := [("turn", 20)]) (N := ["deal", "n", "modes", "commands", "phases", "units", "offsets", "q", "row", "reads", "tables", "j", "phase", "rows", "spans", "start", "first", "k", "c", "r", "turn", "span", "lo", "hi"]) (sc := defScope s__law_pilot) (by decide +kernel)) (fun _ _ _ _ _ => (eg_name (i := 20) sc__law_pilot.nd rfl (by first | exact Or.inl rfl | exact Or.inr rfl))) (fun _ _ _ _ _ => epts_nil) (fun _ _ _ _ _ => (ee_call D__law_row hr (by decide) (by rfl) (ea_cons (ee_var 0) (ea_cons (ee_var 1) (ea_cons (ee_var 3) ea_nil)))))
      | exact es_set 13 sc__law_pilot.nd rfl (by first | exact Or.inl rfl | exact Or.inr rfl) (ee_lcG (own := [("turn", 20)]) kok_mut (by decide) rfl sc__law_pilot.nd (ei_rg1 (by rfl) T.b_range (ea_cons (ee_call D__law_take hr (by decide) (by rfl) (ea_cons (ee_var 0) (ea_cons ee_int ea_nil))) ea_nil)) (blkOk_by (own := [("turn", 20)]) (N := ["deal", "n", "modes", "commands", "phases", "units", "offsets", "q", "row", "reads", "tables", "j", "phase", "rows", "spans", "start", "first", "k", "c", "r", "turn", "span", "lo", "hi"]) (sc := defScope s__law_pilot) (by decide +kernel)) (fun _ _ _ _ _ => (eg_name (i := 20) sc__law_pilot.nd rfl (by first | exact Or.inl rfl | exact Or.inr rfl))) (fun _ _ _ _ _ => epts_nil) (fun _ _ _ _ _ => (ee_call D__law_row hr (by decide) (by rfl) (ea_cons (ee_var 0) (ea_cons (ee_var 1) (ea_cons (ee_var 3) ea_nil)))))))
    (ess_cons (es_if (et_gt (ee_call D__law_take hr (by decide) (by rfl) (ea_cons (ee_var 0) (ea_cons ee_int ea_nil))) ee_int)
    (ess_one (es_expr (ee_app (ee_var 13) (ee_tup (ea_cons (ee_tup ea_nil) (ea_cons (ee_call D__law_take hr (by decide) (by rfl) (ea_cons (ee_var 0) (ea_cons (ee_var 3) ea_nil))) ea_nil))))))
    ess_nil)
    (ess_one (es_expr (ee_app (ee_var 12) (ec_tuple (by rfl) T.b_tuple (ea_cons (ee_var 13) ea_nil))))))))
    (ess_one (es_expr (ee_app (ee_var 10) (ec_tuple (by rfl) T.b_tuple (ea_cons (ee_var 12) ea_nil))))))))
    (ess_cons (es_set 14 sc__law_pilot.nd rfl (by first | exact Or.inl rfl | exact Or.inr rfl) (ec_tuple (by rfl) T.b_tuple (ea_cons (ee_lcG (own := [("q", 7)]) kok_fro (by decide) rfl sc__law_pilot.nd (ei_rg1 (by rfl) T.b_range (ea_cons (ee_var 2) ea_nil)) (blkOk_by (own := [("q", 7)]) (N := ["deal", "n", "modes", "commands", "phases", "units", "offsets", "q", "row", "reads", "tables", "j", "phase", "rows", "spans", "start", "first", "k", "c", "r", "turn", "span", "lo", "hi"]) (sc := defScope s__law_pilot) (by decide +kernel)) (fun _ _ _ _ _ => (eg_name (i := 7) sc__law_pilot.nd rfl (by first | exact Or.inl rfl | exact Or.inr rfl))) (fun _ _ _ _ _ => epts_nil) (fun _ _ _ _ _ => (ec_tuple (by rfl) T.b_tuple (ea_cons (ee_lcG (own := [("k", 17)]) kok_fro (by decide) rfl sc__law_pilot.nd (ei_rg1 (by rfl) T.b_range (ea_cons (ee_var 1) ea_nil)) (blkOk_by (own := [("k", 17)]) (N := ["deal", "n", "modes", "commands", "phases", "units", "offsets", "q", "row", "reads", "tables", "j", "phase", "rows", "spans", "start", "first", "k", "c", "r", "turn", "span", "lo", "hi"]) (sc := _) (by first | rfl | with_unfolding_all rfl)) (fun _ _ _ _ _ => (eg_name (i := 17) sc__law_pilot.nd rfl (by first | exact Or.inl rfl | exact Or.inr rfl))) (fun _ _ _ _ _ => epts_nil) (fun _ _ _ _ _ => (ee_call D__law_pair hr (by decide) (by rfl) (ea_cons (ee_var 0) (ea_cons (ee_neg ee_int) (ea_cons ee_int (ea_cons ee_int ea_nil))))))) ea_nil)))) ea_nil)))
    (ess_cons (es_set 14 sc__law_pilot.nd rfl (by first | exact Or.inl rfl | exact Or.inr rfl) (ec_tuple (by rfl) T.b_tuple (ea_cons (ee_lcG (own := [("span", 21)]) kok_fro (by decide) rfl sc__law_pilot.nd (ei_items (ee_var 14)) (blkOk_by (own := [("span", 21)]) (N := ["deal", "n", "modes", "commands", "phases", "units", "offsets", "q", "row", "reads", "tables", "j", "phase", "rows", "spans", "start", "first", "k", "c", "r", "turn", "span", "lo", "hi"]) (sc := defScope s__law_pilot) (by decide +kernel)) (fun _ _ _ _ _ => (eg_name (i := 21) sc__law_pilot.nd rfl (by first | exact Or.inl rfl | exact Or.inr rfl))) (fun _ _ _ _ _ => epts_nil) (fun _ _ _ _ _ => (ec_tuple (by rfl) T.b_tuple (ea_cons (ee_lcG (own := [("lo", 22), ("hi", 23)]) kok_fro (by decide) rfl sc__law_pilot.nd (ei_items (ee_var 21)) (blkOk_by (own := [("lo", 22), ("hi", 23)]) (N := ["deal", "n", "modes", "commands", "phases", "units", "offsets", "q", "row", "reads", "tables", "j", "phase", "rows", "spans", "start", "first", "k", "c", "r", "turn", "span", "lo", "hi"]) (sc := _) (by first | rfl | with_unfolding_all rfl)) (fun _ _ _ _ _ => (eg_tup rfl (egs_cons (ks := [22, 23]) (eg_name (i := 22) sc__law_pilot.nd rfl (by first | exact Or.inl rfl | exact Or.inr rfl)) (egs_cons (ks := [23]) (eg_name (i := 23) sc__law_pilot.nd rfl (by first | exact Or.inl rfl | exact Or.inr rfl)) (egs_nil (is := [])) (by decide) (by decide)) (by decide) (by decide)))) (fun _ _ _ _ _ => epts_nil) (fun _ _ _ _ _ => (ee_tup (ea_cons (ee_var 22) (ea_cons (ee_add ee_int (ee_call D__law_take hr (by decide) (by rfl) (ea_cons (ee_var 0) (ea_cons ee_int ea_nil)))) ea_nil))))) ea_nil)))) ea_nil)))
    (ess_cons (es_set 15 sc__law_pilot.nd rfl (by first | exact Or.inl rfl | exact Or.inr rfl) (ee_call D__law_take hr (by decide) (by rfl) (ea_cons (ee_var 0) (ea_cons (ee_var 2) ea_nil))))
    (ess_cons (es_set 16 sc__law_pilot.nd rfl (by first | exact Or.inl rfl | exact Or.inr rfl) (ec_tuple (by rfl) T.b_tuple (ea_cons (ee_lcG (own := [("k", 17)]) kok_fro (by decide) rfl sc__law_pilot.nd (ei_rg1 (by rfl) T.b_range (ea_cons (ee_var 1) ea_nil)) (blkOk_by (own := [("k", 17)]) (N := ["deal", "n", "modes", "commands", "phases", "units", "offsets", "q", "row", "reads", "tables", "j", "phase", "rows", "spans", "start", "first", "k", "c", "r", "turn", "span", "lo", "hi"]) (sc := defScope s__law_pilot) (by decide +kernel)) (fun _ _ _ _ _ => (eg_name (i := 17) sc__law_pilot.nd rfl (by first | exact Or.inl rfl | exact Or.inr rfl))) (fun _ _ _ _ _ => epts_nil) (fun _ _ _ _ _ => (ee_call D__law_pair hr (by decide) (by rfl) (ea_cons (ee_var 0) (ea_cons (ee_neg ee_int) (ea_cons ee_int (ea_cons ee_int ea_nil))))))) ea_nil)))
    (ess_one (es_ret (ee_tup (ea_cons (ee_var 5) (ea_cons (ec_tuple (by rfl) T.b_tuple (ea_cons (ee_var 6) ea_nil)) (ea_cons (ee_var 9) (ea_cons (ec_tuple (by rfl) T.b_tuple (ea_cons (ee_var 10) ea_nil)) (ea_cons (ee_var 14) (ea_cons (ec_tuple (by rfl) T.b_tuple (ea_cons (ee_lcG (own := [("q", 7)]) kok_fro (by decide) rfl sc__law_pilot.nd (ei_rg1 (by rfl) T.b_range (ea_cons (ee_var 2) ea_nil)) (blkOk_by (own := [("q", 7)]) (N := ["deal", "n", "modes", "commands", "phases", "units", "offsets", "q", "row", "reads", "tables", "j", "phase", "rows", "spans", "start", "first", "k", "c", "r", "turn", "span", "lo", "hi"]) (sc := defScope s__law_pilot) (by decide +kernel)) (fun _ _ _ _ _ => (eg_name (i := 7) sc__law_pilot.nd rfl (by first | exact Or.inl rfl | exact Or.inr rfl))) (fun _ _ _ _ _ => epts_nil) (fun _ _ _ _ _ => (ee_if (et_eq hr.units (ee_var 7) (ee_var 15)) (ee_var 16) ee_non))) ea_nil)) ea_nil))))))))))))))))))))
abbrev s__law_known : Stmt := top 50
theorem sc__law_known : FnScope ["sources", "shifts", "n", "found", "k", "lows", "highs", "time", "box", "low", "high", "shift"] ["sources", "shifts", "n"] (defScope s__law_known) := ⟨rfl, rfl, rfl, by decide +kernel, rfl, by decide +kernel, by decide +kernel⟩
theorem ok__law_known {f : Addr} {fd : FuncData} (F : Fun K "_law_known" "_law_known" s__law_known f fd) (T : Txt K mg)  : FnOk P w K mg base CX0 1 f fd ["sources", "shifts", "n"] (spD K 3 T__law_known) := by
  refine fn_okD (k := 0) F sc__law_known rfl fun cdv A outer s H hr => ⟨rd__law_known, ?_, m__law_known⟩
  exact (ess_cons (es_set 3 sc__law_known.nd rfl (by first | exact Or.inl rfl | exact Or.inr rfl) (ee_lstM ea_nil))
    (ess_cons (es_for PassesOwn.never rfl (ei_rg1 (by rfl) T.b_range (ea_cons (ee_var 2) ea_nil)) (eg_name (i := 4) sc__law_known.nd rfl (by first | exact Or.inl rfl | exact Or.inr rfl))
    (ess_cons (es_par 5 6 rfl sc__law_known.nd rfl rfl (by decide) rfl rfl (ea_cons (ee_lstM ea_nil) (ea_cons (ee_lstM ea_nil) ea_nil)) (by rfl))
    (ess_cons (es_for PassesOwn.never rfl (ei_items (ee_var 0)) (eg_tup rfl (egs_cons (ks := [7, 8]) (eg_name (i := 7) sc__law_known.nd rfl (by first | exact Or.inl rfl | exact Or.inr rfl)) (egs_cons (ks := [8]) (eg_name (i := 8) sc__law_known.nd rfl (by first | exact Or.inl rfl | exact Or.inr rfl)) (egs_nil (is := [])) (by decide) (by decide)) (by decide) (by decide)))
    (ess_cons (es_asg (ee_ix (ee_var 8) (ee_var 4)) (eg_tup rfl (egs_cons (ks := [9, 10]) (eg_name (i := 9) sc__law_known.nd rfl (by first | exact Or.inl rfl | exact Or.inr rfl)) (egs_cons (ks := [10]) (eg_name (i := 10) sc__law_known.nd rfl (by first | exact Or.inl rfl | exact Or.inr rfl)) (egs_nil (is := [])) (by decide) (by decide)) (by decide) (by decide))))
    (ess_cons (es_for PassesOwn.never rfl (ei_items (ee_sl (ee_var 1) (eo_some (ee_var 7)) eo_none)) (eg_name (i := 11) sc__law_known.nd rfl (by first | exact Or.inl rfl | exact Or.inr rfl))
    (ess_cons (es_set 9 sc__law_known.nd rfl (by first | exact Or.inl rfl | exact Or.inr rfl) (ee_add (ee_var 9) (ee_ixk (n := 0) rfl (ee_ix (ee_var 11) (ee_var 4)))))
    (ess_one (es_set 10 sc__law_known.nd rfl (by first | exact Or.inl rfl | exact Or.inr rfl) (ee_add (ee_var 10) (ee_ixk (n := 1) rfl (ee_ix (ee_var 11) (ee_var 4))))))))
    (ess_cons (es_expr (ee_app (ee_var 5) (ee_var 9)))
    (ess_one (es_expr (ee_app (ee_var 6) (ee_var 10))))))))
    (ess_one (es_expr (ee_app (ee_var 3) (ee_tup (ea_cons (ec_max1 rfl (by rfl) T.b_max (ea_cons (ee_var 5) ea_nil)) (ea_cons (ec_min1 rfl (by rfl) T.b_min (ea_cons (ee_var 6) ea_nil)) ea_nil)))))))))
    (ess_one (es_ret (ec_tuple (by rfl) T.b_tuple (ea_cons (ee_var 3) ea_nil))))))
abbrev s__law_command : Stmt := top 51
theorem sc__law_command : FnScope ["table", "known", "tests", "command", "failed", "factors", "rest", "least", "k"] ["table", "known"] (defScope s__law_command) := ⟨rfl, rfl, rfl, by decide +kernel, rfl, by decide +kernel, by decide +kernel⟩
theorem ok__law_command {f : Addr} {fd : FuncData} (F : Fun K "_law_command" "_law_command" s__law_command f fd) (T : Txt K mg)  : FnOk P w K mg base CX0 1 f fd ["table", "known"] (spD K 2 T__law_command) := by
  refine fn_okD (k := 0) F sc__law_command rfl fun cdv A outer s H hr => ⟨rd__law_command, ?_, m__law_command⟩
  exact (ess_cons (es_for PassesOwn.never rfl (ei_items (ee_var 0)) (eg_tup rfl (egs_cons (ks := [2, 3]) (eg_name (i := 2) sc__law_command.nd rfl (by first | exact Or.inl rfl | exact Or.inr rfl)) (egs_cons (ks := [3]) (eg_name (i := 3) sc__law_command.nd rfl (by first | exact Or.inl rfl | exact Or.inr rfl)) (egs_nil (is := [])) (by decide) (by decide)) (by decide) (by decide)))
    (ess_cons (es_set 4 sc__law_command.nd rfl (by first | exact Or.inl rfl | exact Or.inr rfl) ee_int)
    (ess_cons (es_for PassesOwn.never rfl (ei_items (ee_var 2)) (eg_tup rfl (egs_cons (ks := [5, 6]) (eg_name (i := 5) sc__law_command.nd rfl (by first | exact Or.inl rfl | exact Or.inr rfl)) (egs_cons (ks := [6]) (eg_name (i := 6) sc__law_command.nd rfl (by first | exact Or.inl rfl | exact Or.inr rfl)) (egs_nil (is := [])) (by decide) (by decide)) (by decide) (by decide)))
    (ess_cons (es_set 7 sc__law_command.nd rfl (by first | exact Or.inl rfl | exact Or.inr rfl) (ee_var 6))
    (ess_cons (es_for PassesOwn.never rfl (ei_rg1 (by rfl) T.b_range (ea_cons (ec_len (by rfl) T.b_len (ea_cons (ee_var 1) ea_nil)) ea_nil)) (eg_name (i := 8) sc__law_command.nd rfl (by first | exact Or.inl rfl | exact Or.inr rfl))
    (ess_one (es_set 7 sc__law_command.nd rfl (by first | exact Or.inl rfl | exact Or.inr rfl) (ee_add (ee_var 7) (ec_min2 rfl (by rfl) T.b_min (ea_cons (ee_mul (ee_ix (ee_var 5) (ee_var 8)) (ee_ixk (n := 0) rfl (ee_ix (ee_var 1) (ee_var 8)))) (ea_cons (ee_mul (ee_ix (ee_var 5) (ee_var 8)) (ee_ixk (n := 1) rfl (ee_ix (ee_var 1) (ee_var 8)))) ea_nil)))))))
    (ess_one (es_set 4 sc__law_command.nd rfl (by first | exact Or.inl rfl | exact Or.inr rfl) (ee_add (ee_var 4) (ec_int (by rfl) T.b_int (ea_cons (ee_lt (ee_var 7) ee_int) ea_nil))))))))
    (ess_one (es_if (et_eq hr.units (ee_var 4) ee_int)
    (ess_one (es_ret (ee_var 3)))
    ess_nil)))))
    (ess_one (es_ret ee_non)))
abbrev s__law_readings : Stmt := top 52
theorem sc__law_readings : FnScope ["deal", "pilot", "known", "way", "found", "lo", "hi"] ["deal", "pilot", "known"] (defScope s__law_readings) := ⟨rfl, rfl, rfl, by decide +kernel, rfl, by decide +kernel, by decide +kernel⟩
theorem ok__law_readings {f : Addr} {fd : FuncData} (F : Fun K "_law_readings" "_law_readings" s__law_readings f fd) (T : Txt K mg) (D__law_take : DefAt P w K mg base 1 "_law_take" ["deal", "many"] T__law_take) (D__law_pick : DefAt P w K mg base 2 "_law_pick" ["deal", "things"] T__law_pick) : FnOk P w K mg base CX0 3 f fd ["deal", "pilot", "known"] (spD K 3 T__law_readings) := by
  refine fn_okD (k := 2) F sc__law_readings rfl fun cdv A outer s H hr => ⟨rd__law_readings, ?_, m__law_readings⟩
  exact (ess_cons (es_set 3 sc__law_readings.nd rfl (by first | exact Or.inl rfl | exact Or.inr rfl) (ee_call D__law_take hr (by decide) (by rfl) (ea_cons (ee_var 0) (ea_cons ee_int ea_nil))))
    (ess_cons (es_if (et_lt (ee_var 3) ee_int)
    (ess_one (es_ret ee_non))
    ess_nil)
    (ess_cons (es_set 4 sc__law_readings.nd rfl (by first | exact Or.inl rfl | exact Or.inr rfl) (ee_lstM ea_nil))
    (ess_cons (es_for PassesOwn.never rfl (ei_items (ee_var 2)) (eg_tup rfl (egs_cons (ks := [5, 6]) (eg_name (i := 5) sc__law_readings.nd rfl (by first | exact Or.inl rfl | exact Or.inr rfl)) (egs_cons (ks := [6]) (eg_name (i := 6) sc__law_readings.nd rfl (by first | exact Or.inl rfl | exact Or.inr rfl)) (egs_nil (is := [])) (by decide) (by decide)) (by decide) (by decide)))
    (ess_one (es_expr (ee_app (ee_var 4) (ee_add (ee_sub (ee_var 5) ee_int) (ee_call D__law_take hr (by decide) (by rfl) (ea_cons (ee_var 0) (ea_cons (ec_max2 rfl (by rfl) T.b_max (ea_cons ee_int (ea_cons (ec_min2 rfl (by rfl) T.b_min (ea_cons ee_int (ea_cons (ee_add (ee_sub (ee_var 6) (ee_var 5)) ee_int) ea_nil))) ea_nil))) ea_nil))))))))
    (ess_cons (es_if (et_eq hr.units (ee_var 3) ee_int)
    (ess_one (es_asg (ee_call D__law_pick hr (by decide) (by rfl) (ea_cons (ee_var 0) (ea_cons (ee_lst (ea_cons ee_int (ea_cons (ee_neg ee_int) ea_nil))) ea_nil))) (eg_sub (ee_var 4) (ee_call D__law_take hr (by decide) (by rfl) (ea_cons (ee_var 0) (ea_cons (ec_len (by rfl) T.b_len (ea_cons (ee_var 4) ea_nil)) ea_nil))))))
    ess_nil)
    (ess_one (es_ret (ec_tuple (by rfl) T.b_tuple (ea_cons (ee_var 4) ea_nil)))))))))
abbrev s__law_told : Stmt := top 53
theorem sc__law_told : FnScope ["pilot", "phase", "now", "known", "readings", "k", "command", "lo", "hi"] ["pilot", "phase", "now", "known", "readings"] (defScope s__law_told) := ⟨rfl, rfl, rfl, by decide +kernel, rfl, by decide +kernel, by decide +kernel⟩
theorem ok__law_told {f : Addr} {fd : FuncData} (F : Fun K "_law_told" "_law_told" s__law_told f fd) (T : Txt K mg) (D__law_command : DefAt P w K mg base 1 "_law_command" ["table", "known"] T__law_command) : FnOk P w K mg base CX0 2 f fd ["pilot", "phase", "now", "known", "readings"] (spD K 5 T__law_told) := by
  refine fn_okD (k := 1) F sc__law_told rfl fun cdv A outer s H hr => ⟨rd__law_told, ?_, m__law_told⟩
  exact (ess_cons (es_if (PW.pt (ew_and (et_notN (ee_var 4) ee_non) (ew_and1 (et_gt (ec_len (by rfl) T.b_len (ea_cons (ee_lcG (own := [("lo", 7), ("hi", 8)]) kok_fro (by decide) rfl sc__law_told.nd (ei_items (ee_var 3)) (blkOk_by (own := [("lo", 7), ("hi", 8)]) (N := ["pilot", "phase", "now", "known", "readings", "k", "command", "lo", "hi"]) (sc := defScope s__law_told) (by decide +kernel)) (fun _ _ _ _ _ => (eg_tup rfl (egs_cons (ks := [7, 8]) (eg_name (i := 7) sc__law_told.nd rfl (by first | exact Or.inl rfl | exact Or.inr rfl)) (egs_cons (ks := [8]) (eg_name (i := 8) sc__law_told.nd rfl (by first | exact Or.inl rfl | exact Or.inr rfl)) (egs_nil (is := [])) (by decide) (by decide)) (by decide) (by decide)))) (fun _ _ _ _ _ => (epts_one (et_gt (ee_var 7) (ee_var 8)))) (fun _ _ _ _ _ => ee_int)) ea_nil)) ee_int))))
    (ess_one (es_ret (ee_tup (ea_cons ee_str (ea_cons ee_str ea_nil)))))
    ess_nil)
    (ess_cons (es_for PassesOwn.never rfl (ei_rg1 (by rfl) T.b_range (ea_cons (ec_len (by rfl) T.b_len (ea_cons (ee_var 3) ea_nil)) ea_nil)) (eg_name (i := 5) sc__law_told.nd rfl (by first | exact Or.inl rfl | exact Or.inr rfl))
    (ess_one (es_if (PW.pt (ew_or (et_lt (ee_ixk (n := 0) rfl (ee_ix (ee_var 3) (ee_var 5))) (ee_ixk (n := 0) rfl (ee_ix (ee_ix (ee_ixk (n := 4) rfl (ee_var 0)) (ee_var 2)) (ee_var 5)))) (ew_or1 (et_gt (ee_ixk (n := 1) rfl (ee_ix (ee_var 3) (ee_var 5))) (ee_ixk (n := 1) rfl (ee_ix (ee_ix (ee_ixk (n := 4) rfl (ee_var 0)) (ee_var 2)) (ee_var 5)))))))
    (ess_one (es_ret (ee_tup (ea_cons ee_str (ea_cons ee_str ea_nil)))))
    ess_nil)))
    (ess_cons (es_set 6 sc__law_told.nd rfl (by first | exact Or.inl rfl | exact Or.inr rfl) (ee_call D__law_command hr (by decide) (by rfl) (ea_cons (ee_ix (ee_ix (ee_ixk (n := 3) rfl (ee_var 0)) (ee_var 1)) (ee_var 2)) (ea_cons (ee_var 3) ea_nil))))
    (ess_cons (es_if (et_isN (ee_var 6) ee_non)
    (ess_one (es_ret (ee_tup (ea_cons ee_str (ea_cons ee_str ea_nil)))))
    ess_nil)
    (ess_one (es_ret (ee_tup (ea_cons ee_str (ea_cons (ee_var 6) (ea_cons (ee_tup (ea_cons (ec_max2 rfl (by rfl) T.b_max (ea_cons (ee_sub (ee_var 1) ee_int) (ea_cons ee_int ea_nil))) (ea_cons (ee_var 2) (ea_cons (ee_var 3) (ea_cons (ee_var 6) ea_nil))))) ea_nil))))))))))
abbrev s__law_now : Stmt := top 54
theorem sc__law_now : FnScope ["deal", "pilot", "was", "command", "now", "turn"] ["deal", "pilot", "was", "command"] (defScope s__law_now) := ⟨rfl, rfl, rfl, by decide +kernel, rfl, by decide +kernel, by decide +kernel⟩
theorem ok__law_now {f : Addr} {fd : FuncData} (F : Fun K "_law_now" "_law_now" s__law_now f fd) (T : Txt K mg) (D__law_take : DefAt P w K mg base 1 "_law_take" ["deal", "many"] T__law_take) : FnOk P w K mg base CX0 2 f fd ["deal", "pilot", "was", "command"] (spD K 4 T__law_now) := by
  refine fn_okD (k := 1) F sc__law_now rfl fun cdv A outer s H hr => ⟨rd__law_now, ?_, m__law_now⟩
  exact (ess_cons (es_set 4 sc__law_now.nd rfl (by first | exact Or.inl rfl | exact Or.inr rfl) (ee_call D__law_take hr (by decide) (by rfl) (ea_cons (ee_var 0) (ea_cons (ec_len (by rfl) T.b_len (ea_cons (ee_ixk (n := 1) rfl (ee_var 1)) ea_nil)) ea_nil))))
    (ess_cons (es_for PassesOwn.never rfl (ei_rg1 (by rfl) T.b_range (ea_cons ee_int ea_nil)) (eg_name (i := 5) sc__law_now.nd rfl (by first | exact Or.inl rfl | exact Or.inr rfl))
    (ess_one (es_if (et_isN (ee_ix (ee_ix (ee_ix (ee_ixk (n := 1) rfl (ee_var 1)) (ee_var 2)) (ee_var 3)) (ee_var 4)) ee_non)
    (ess_one (es_set 4 sc__law_now.nd rfl (by first | exact Or.inl rfl | exact Or.inr rfl) (ee_call D__law_take hr (by decide) (by rfl) (ea_cons (ee_var 0) (ea_cons (ec_len (by rfl) T.b_len (ea_cons (ee_ixk (n := 1) rfl (ee_var 1)) ea_nil)) ea_nil)))))
    ess_nil)))
    (ess_one (es_ret (ee_var 4)))))
abbrev s_law : Stmt := top 55
theorem sc_law : FnScope ["script", "deal", "n", "pilot", "modes", "start", "phase", "state", "sources", "shifts", "inputs", "told", "turn", "now", "due", "shift", "readings", "box", "more", "q", "k"] ["script"] (defScope s_law) := ⟨rfl, rfl, rfl, by decide +kernel, rfl, by decide +kernel, by decide +kernel⟩
theorem ok_law {f : Addr} {fd : FuncData} (F : Fun K "law" "law" s_law f fd) (T : Txt K mg) (D_first_state : DefAt P w K mg base 1 "first_state" ["pilot"] T_first_state) (D_beat_of : DefAt P w K mg base 5 "beat_of" ["pilot", "state", "now", "readings"] T_beat_of) (D_driven : DefAt P w K mg base 6 "driven" ["pilot", "inputs"] T_driven) (D_is_fixed_pilot : DefAt P w K mg base 5 "is_fixed_pilot" ["datum"] T_is_fixed_pilot) (D__law_deal : DefAt P w K mg base 1 "_law_deal" ["script"] T__law_deal) (D__law_take : DefAt P w K mg base 1 "_law_take" ["deal", "many"] T__law_take) (D__law_pick : DefAt P w K mg base 2 "_law_pick" ["deal", "things"] T__law_pick) (D__law_same : DefAt P w K mg base 8 "_law_same" ["a", "b"] T__law_same) (D__law_pilot : DefAt P w K mg base 4 "_law_pilot" ["deal", "n"] T__law_pilot) (D__law_known : DefAt P w K mg base 1 "_law_known" ["sources", "shifts", "n"] T__law_known) (D__law_readings : DefAt P w K mg base 3 "_law_readings" ["deal", "pilot", "known"] T__law_readings) (D__law_told : DefAt P w K mg base 2 "_law_told" ["pilot", "phase", "now", "known", "readings"] T__law_told) (D__law_now : DefAt P w K mg base 2 "_law_now" ["deal", "pilot", "was", "command"] T__law_now) : FnOk P w K mg base CX0 9 f fd ["script"] (spD K 1 T_law) := by
  refine fn_okD (k := 8) F sc_law rfl fun cdv A outer s H hr => ⟨rd_law, ?_, m_law⟩
  exact (ess_cons (es_set 1 sc_law.nd rfl (by first | exact Or.inl rfl | exact Or.inr rfl) (ee_call D__law_deal hr (by decide) (by rfl) (ea_cons (ee_var 0) ea_nil)))
    (ess_cons (es_set 2 sc_law.nd rfl (by first | exact Or.inl rfl | exact Or.inr rfl) (ee_call D__law_pick hr (by decide) (by rfl) (ea_cons (ee_var 1) (ea_cons (ee_lst (ea_cons ee_int (ea_cons ee_int (ea_cons ee_int (ea_cons ee_int ea_nil))))) ea_nil))))
    (ess_cons (es_set 3 sc_law.nd rfl (by first | exact Or.inl rfl | exact Or.inr rfl) (ee_call D__law_pilot hr (by decide) (by rfl) (ea_cons (ee_var 1) (ea_cons (ee_var 2) ea_nil))))
    (ess_cons (es_set 4 sc_law.nd rfl (by first | exact Or.inl rfl | exact Or.inr rfl) (ec_len (by rfl) T.b_len (ea_cons (ee_ixk (n := 1) rfl (ee_var 3)) ea_nil)))
    (ess_cons (es_if (et_notB (ee_call D_is_fixed_pilot hr (by decide) (by rfl) (ea_cons (ee_var 3) ea_nil)) ee_bl)
    (ess_one (es_ret ee_bl))
    ess_nil)
    (ess_cons (es_set 5 sc_law.nd rfl (by first | exact Or.inl rfl | exact Or.inr rfl) (ee_ixk (n := 0) rfl (ee_lcG (own := [("q", 19)]) kok_fro (by decide) rfl sc_law.nd (ei_rg1 (by rfl) T.b_range (ea_cons (ee_var 4) ea_nil)) (blkOk_by (own := [("q", 19)]) (N := ["script", "deal", "n", "pilot", "modes", "start", "phase", "state", "sources", "shifts", "inputs", "told", "turn", "now", "due", "shift", "readings", "box", "more", "q", "k"]) (sc := defScope s_law) (by decide +kernel)) (fun _ _ _ _ _ => (eg_name (i := 19) sc_law.nd rfl (by first | exact Or.inl rfl | exact Or.inr rfl))) (fun _ _ _ _ _ => (epts_one (et_notN (ee_ix (ee_ixk (n := 5) rfl (ee_var 3)) (ee_var 19)) ee_non))) (fun _ _ _ _ _ => (ee_var 19)))))
    (ess_cons (es_set 6 sc_law.nd rfl (by first | exact Or.inl rfl | exact Or.inr rfl) (ee_sub (ec_len (by rfl) T.b_len (ea_cons (ee_ixk (n := 3) rfl (ee_var 3)) ea_nil)) ee_int))
    (ess_cons (es_set 7 sc_law.nd rfl (by first | exact Or.inl rfl | exact Or.inr rfl) (ee_tup (ea_cons (ee_var 6) (ea_cons (ee_var 5) (ea_cons (ee_ix (ee_ixk (n := 5) rfl (ee_var 3)) (ee_var 5)) (ea_cons ee_non ea_nil))))))
    (ess_cons (es_if (et_not (et_tru (ee_call D__law_same hr (by decide) (by rfl) (ea_cons (ee_call D_first_state hr (by decide) (by rfl) (ea_cons (ee_var 3) ea_nil)) (ea_cons (ee_var 7) ea_nil)))))
    (ess_one (es_ret ee_bl))
    ess_nil)
    (ess_cons (es_parN (n := 4) rfl (ea_cons (ee_lstM (ea_cons (ee_tup (ea_cons ee_int (ea_cons (ee_ix (ee_ixk (n := 5) rfl (ee_var 3)) (ee_var 5)) ea_nil))) ea_nil)) (ea_cons (ee_lstM ea_nil) (ea_cons (ee_lstM ea_nil) (ea_cons (ee_lstM ea_nil) ea_nil)))) (egs_cons (ks := [8, 9, 10, 11]) (eg_name (i := 8) sc_law.nd rfl (by first | exact Or.inl rfl | exact Or.inr rfl)) (egs_cons (ks := [9, 10, 11]) (eg_name (i := 9) sc_law.nd rfl (by first | exact Or.inl rfl | exact Or.inr rfl)) (egs_cons (ks := [10, 11]) (eg_name (i := 10) sc_law.nd rfl (by first | exact Or.inl rfl | exact Or.inr rfl)) (egs_cons (ks := [11]) (eg_name (i := 11) sc_law.nd rfl (by first | exact Or.inl rfl | exact Or.inr rfl)) (egs_nil (is := [])) (by decide) (by decide)) (by decide) (by decide)) (by decide) (by decide)) (by decide) (by decide)))
    (ess_cons (es_for PassesOwn.never rfl (ei_rg1 (by rfl) T.b_range (ea_cons ee_int ea_nil)) (eg_name (i := 12) sc_law.nd rfl (by first | exact Or.inl rfl | exact Or.inr rfl))
    (ess_cons (es_if (PW.pt (ew_and (et_neC hr.units (ee_var 11) (ee_lst ea_nil)) (ew_and1 (et_eq hr.units (ee_ixk (n := 0) rfl (ee_ix (ee_var 11) (ee_neg ee_int))) ee_str))))
    (ess_one es_break)
    ess_nil)
    (ess_cons (es_if (et_eq hr.units (ee_var 12) ee_int)
    (ess_cons (es_set 13 sc_law.nd rfl (by first | exact Or.inl rfl | exact Or.inr rfl) (ee_if (et_gt (ee_call D__law_take hr (by decide) (by rfl) (ea_cons (ee_var 1) (ea_cons ee_int ea_nil))) ee_int) (ee_var 5) (ee_call D__law_take hr (by decide) (by rfl) (ea_cons (ee_var 1) (ea_cons (ee_var 4) ea_nil)))))
    (ess_one (es_set 14 sc_law.nd rfl (by first | exact Or.inl rfl | exact Or.inr rfl) (ee_if (et_ne hr.units (ee_var 13) (ee_var 5)) (ee_tup (ea_cons ee_str (ea_cons ee_str ea_nil))) ee_non))))
    (ess_cons (es_set 13 sc_law.nd rfl (by first | exact Or.inl rfl | exact Or.inr rfl) (ee_call D__law_now hr (by decide) (by rfl) (ea_cons (ee_var 1) (ea_cons (ee_var 3) (ea_cons (ee_ixk (n := 1) rfl (ee_var 7)) (ea_cons (ee_ixk (n := 3) rfl (ee_var 7)) ea_nil))))))
    (ess_cons (es_set 15 sc_law.nd rfl (by first | exact Or.inl rfl | exact Or.inr rfl) (ee_ix (ee_ix (ee_ix (ee_ixk (n := 1) rfl (ee_var 3)) (ee_ixk (n := 1) rfl (ee_var 7))) (ee_ixk (n := 3) rfl (ee_var 7))) (ee_var 13)))
    (ess_cons (es_set 14 sc_law.nd rfl (by first | exact Or.inl rfl | exact Or.inr rfl) (ee_if (et_isN (ee_var 15) ee_non) (ee_tup (ea_cons ee_str (ea_cons ee_str ea_nil))) ee_non))
    (ess_one (es_if (et_notN (ee_var 15) ee_non)
    (ess_one (es_expr (ee_app (ee_var 9) (ee_var 15))))
    ess_nil))))))
    (ess_cons (es_set 16 sc_law.nd rfl (by first | exact Or.inl rfl | exact Or.inr rfl) (ee_call D__law_readings hr (by decide) (by rfl) (ea_cons (ee_var 1) (ea_cons (ee_var 3) (ea_cons (ee_call D__law_known hr (by decide) (by rfl) (ea_cons (ee_var 8) (ea_cons (ee_var 9) (ea_cons (ee_var 2) ea_nil)))) ea_nil)))))
    (ess_cons (es_if (et_isN (ee_var 14) ee_non)
    (ess_cons (es_if (et_notN (ee_var 16) ee_non)
    (ess_cons (es_set 17 sc_law.nd rfl (by first | exact Or.inl rfl | exact Or.inr rfl) (ec_tuple (by rfl) T.b_tuple (ea_cons (ee_lcG (own := [("k", 20)]) kok_fro (by decide) rfl sc_law.nd (ei_rg1 (by rfl) T.b_range (ea_cons (ee_var 2) ea_nil)) (blkOk_by (own := [("k", 20)]) (N := ["script", "deal", "n", "pilot", "modes", "start", "phase", "state", "sources", "shifts", "inputs", "told", "turn", "now", "due", "shift", "readings", "box", "more", "q", "k"]) (sc := defScope s_law) (by decide +kernel)) (fun _ _ _ _ _ => (eg_name (i := 20) sc_law.nd rfl (by first | exact Or.inl rfl | exact Or.inr rfl))) (fun _ _ _ _ _ => epts_nil) (fun _ _ _ _ _ => (ee_tup (ea_cons (ee_sub (ee_ix (ee_var 16) (ee_var 20)) (ee_ixk (n := 0) rfl (ee_ix (ee_ixk (n := 2) rfl (ee_var 3)) (ee_var 20)))) (ea_cons (ee_add (ee_ix (ee_var 16) (ee_var 20)) (ee_ixk (n := 1) rfl (ee_ix (ee_ixk (n := 2) rfl (ee_var 3)) (ee_var 20)))) ea_nil))))) ea_nil)))
    (ess_one (es_expr (ee_app (ee_var 8) (ee_tup (ea_cons (ee_var 12) (ea_cons (ee_var 17) ea_nil)))))))
    ess_nil)
    (ess_one (es_set 14 sc_law.nd rfl (by first | exact Or.inl rfl | exact Or.inr rfl) (ee_call D__law_told hr (by decide) (by rfl) (ea_cons (ee_var 3) (ea_cons (ee_ixk (n := 0) rfl (ee_var 7)) (ea_cons (ee_var 13) (ea_cons (ee_call D__law_known hr (by decide) (by rfl) (ea_cons (ee_var 8) (ea_cons (ee_var 9) (ea_cons (ee_var 2) ea_nil)))) (ea_cons (ee_var 16) ea_nil)))))))))
    ess_nil)
    (ess_cons (es_if (et_not (et_tru (ee_call D__law_same hr (by decide) (by rfl) (ea_cons (ee_call D_beat_of hr (by decide) (by rfl) (ea_cons (ee_var 3) (ea_cons (ee_var 7) (ea_cons (ee_var 13) (ea_cons (ee_var 16) ea_nil))))) (ea_cons (ee_var 14) ea_nil)))))
    (ess_one (es_ret ee_bl))
    ess_nil)
    (ess_cons (es_expr (ee_app (ee_var 10) (ee_tup (ea_cons (ee_var 13) (ea_cons (ee_var 16) ea_nil)))))
    (ess_cons (es_expr (ee_app (ee_var 11) (ee_var 14)))
    (ess_one (es_if (et_eq hr.units (ee_ixk (n := 0) rfl (ee_var 14)) ee_str)
    (ess_one (es_set 7 sc_law.nd rfl (by first | exact Or.inl rfl | exact Or.inr rfl) (ee_ixk (n := 2) rfl (ee_var 14))))
    ess_nil))))))))))
    (ess_cons (es_set 18 sc_law.nd rfl (by first | exact Or.inl rfl | exact Or.inr rfl) (ee_lst (ea_cons (ee_tup (ea_cons ee_int (ea_cons ee_non ea_nil))) (ea_cons (ee_tup (ea_cons (ee_sub (ee_var 4) ee_int) (ea_cons (ec_tuple (by rfl) T.b_tuple (ea_cons (ee_rep (ea_cons ee_int ea_nil) (ee_var 2)) ea_nil)) ea_nil))) ea_nil))))
    (ess_one (es_ret (ee_and (ee_call D__law_same hr (by decide) (by rfl) (ea_cons (ee_call D_driven hr (by decide) (by rfl) (ea_cons (ee_var 3) (ea_cons (ee_var 10) ea_nil))) (ea_cons (ee_var 11) ea_nil))) (ee_one (ee_or (ee_eq hr.units (ee_ixk (n := 0) rfl (ee_ix (ee_var 11) (ee_neg ee_int))) ee_str) (ee_one (ee_call D__law_same hr (by decide) (by rfl) (ea_cons (ee_call D_driven hr (by decide) (by rfl) (ea_cons (ee_var 3) (ea_cons (ee_addC (ee_var 10) (ee_var 18)) ea_nil))) (ea_cons (ee_var 11) ea_nil)))))))))))))))))))))
end
end K44

set_option Elab.async false
set_option linter.all false
set_option maxRecDepth 100000
set_option maxHeartbeats 4000000
namespace K44
open PySem L2 FL FR
theorem fn_false {P : Program} {w : World} {K : PySem.W.Frag} {mg : Str → Option Value} {base : Heap} {k n : Nat} {f : Addr} {fd : FuncData} {ps : List Str} {T : DSp} (hn : ps.length = n) (h : ∀ xs cs R, ¬ T xs cs R) : FnOk P w K mg base CX0 k f fd ps (spD K n T) :=
  ⟨fun vs H Q E q => by rw [hn]; exact q.1, fun A outer s H args us vs Q E hr he hb hv hs => by
    obtain ⟨_, G, π, cs, xs, R, _, _, q, _⟩ := hs
    exact (h xs cs R q).elim⟩
theorem all_mk {l : PySem.W.OpenLaw} {w : World} {K : PySem.W.Frag} {h : Heap} {mg : Str → Option Value} {fa : Addr} (X : K.In h) (G : h.Ns mainGlobals mg) (hfa : mg "law" = some (.ref fa))
    (r_greatest_divisor : Row K "greatest_divisor" s_greatest_divisor) (r_compare : Row K "compare" s_compare) (r_is_ratio : Row K "is_ratio" s_is_ratio) (r_are_units : Row K "are_units" s_are_units) (r_is_inside : Row K "is_inside" s_is_inside) (r_read_box : Row K "read_box" s_read_box) (r_gone_on : Row K "gone_on" s_gone_on) (r_met_boxes : Row K "met_boxes" s_met_boxes) (r_is_number : Row K "is_number" s_is_number) (r_least_sum : Row K "least_sum" s_least_sum) (r_holds_for : Row K "holds_for" s_holds_for) (r_row_holds : Row K "row_holds" s_row_holds) (r_command_in : Row K "command_in" s_command_in) (r_first_state : Row K "first_state" s_first_state) (r_estimate_now : Row K "estimate_now" s_estimate_now) (r_beat_of : Row K "beat_of" s_beat_of) (r_driven : Row K "driven" s_driven) (r_is_pair : Row K "is_pair" s_is_pair) (r_are_pairs : Row K "are_pairs" s_are_pairs) (r_are_risen : Row K "are_risen" s_are_risen) (r_is_whole_test : Row K "is_whole_test" s_is_whole_test) (r_is_whole_row : Row K "is_whole_row" s_is_whole_row) (r_are_phases : Row K "are_phases" s_are_phases) (r_are_offsets : Row K "are_offsets" s_are_offsets) (r_are_boxes : Row K "are_boxes" s_are_boxes) (r_are_unit_pairs : Row K "are_unit_pairs" s_are_unit_pairs) (r_is_fixed_pilot : Row K "is_fixed_pilot" s_is_fixed_pilot) (r__law_deal : Row K "_law_deal" s__law_deal) (r__law_take : Row K "_law_take" s__law_take) (r__law_pick : Row K "_law_pick" s__law_pick) (r__law_same : Row K "_law_same" s__law_same) (r__law_pair : Row K "_law_pair" s__law_pair) (r__law_row : Row K "_law_row" s__law_row) (r__law_offset : Row K "_law_offset" s__law_offset) (r__law_pilot : Row K "_law_pilot" s__law_pilot) (r__law_known : Row K "_law_known" s__law_known) (r__law_command : Row K "_law_command" s__law_command) (r__law_readings : Row K "_law_readings" s__law_readings) (r__law_told : Row K "_law_told" s__law_told) (r__law_now : Row K "_law_now" s__law_now) (r_law : Row K "law" s_law)
    (b_abs : PySem.W.nsIn K mainGlobals "abs" = some none) (b_len : PySem.W.nsIn K mainGlobals "len" = some none) (b_zip : PySem.W.nsIn K mainGlobals "zip" = some none) (b_tuple : PySem.W.nsIn K mainGlobals "tuple" = some none) (b_max : PySem.W.nsIn K mainGlobals "max" = some none) (b_min : PySem.W.nsIn K mainGlobals "min" = some none) (b_isinstance : PySem.W.nsIn K mainGlobals "isinstance" = some none) (b_int : PySem.W.nsIn K mainGlobals "int" = some none) (b_bool : PySem.W.nsIn K mainGlobals "bool" = some none) (b_sum : PySem.W.nsIn K mainGlobals "sum" = some none) (b_enumerate : PySem.W.nsIn K mainGlobals "enumerate" = some none) (b_range : PySem.W.nsIn K mainGlobals "range" = some none) (b_list : PySem.W.nsIn K mainGlobals "list" = some none) (b_str : PySem.W.nsIn K mainGlobals "str" = some none)
    (g_NOTHING : GlobD K mg "NOTHING" c_NOTHING) (g_BROKEN : GlobD K mg "BROKEN" c_BROKEN) (g_WAY : GlobD K mg "WAY" c_WAY) (g_EMPTY : GlobD K mg "EMPTY" c_EMPTY) (g_SPAN : GlobD K mg "SPAN" c_SPAN) (g_NONE : GlobD K mg "NONE" c_NONE) (g_GIVEN : GlobD K mg "GIVEN" c_GIVEN) (g_MOST_PHASES : GlobD K mg "MOST_PHASES" c_MOST_PHASES) :
    ∃ fd : FuncData, (∀ (s : Shared) (u : Value), BindsTo s fd ⟨[u], []⟩ [("script", u)]) ∧ ∀ base : Heap, K.In base → base.Ns mainGlobals mg → FnOk l.prog w K mg base CX0 9 fa fd ["script"] (spD K 1 (TLaw 63)) := by
  have T : Txt K mg := ⟨PySem.W.mg_none_of X G b_abs, PySem.W.mg_none_of X G b_len, PySem.W.mg_none_of X G b_zip, PySem.W.mg_none_of X G b_tuple, PySem.W.mg_none_of X G b_max, PySem.W.mg_none_of X G b_min, PySem.W.mg_none_of X G b_isinstance, PySem.W.mg_none_of X G b_int, PySem.W.mg_none_of X G b_bool, PySem.W.mg_none_of X G b_sum, PySem.W.mg_none_of X G b_enumerate, PySem.W.mg_none_of X G b_range, PySem.W.mg_none_of X G b_list, PySem.W.mg_none_of X G b_str, g_NOTHING, g_BROKEN, g_WAY, g_EMPTY, g_SPAN, g_NONE, g_GIVEN, g_MOST_PHASES⟩
  have D_greatest_divisor : ∀ base, DefAt l.prog w K mg base 1 "greatest_divisor" ["p", "q"] T_greatest_divisor := fun base => r_greatest_divisor.at_ X G (fun _ _ _ _ _ _ us hl => match us, hl with | [_, _], _ => rfl) (fun f fd F => ok_greatest_divisor F T )
  have D_compare : ∀ base, DefAt l.prog w K mg base 1 "compare" ["s", "t"] T_compare := fun base => r_compare.at_ X G (fun _ _ _ _ _ _ us hl => match us, hl with | [_, _], _ => rfl) (fun f fd F => ok_compare F T )
  have D_is_ratio : ∀ base, DefAt l.prog w K mg base 2 "is_ratio" ["pair"] T_is_ratio := fun base => r_is_ratio.at_ X G (fun _ _ _ _ _ _ us hl => match us, hl with | [_], _ => rfl) (fun f fd F => ok_is_ratio F T (D_greatest_divisor base))
  have D_are_units : ∀ base, DefAt l.prog w K mg base 3 "are_units" ["n", "datum"] T_are_units := fun base => r_are_units.at_ X G (fun _ _ _ _ _ _ us hl => match us, hl with | [_, _], _ => rfl) (fun f fd F => ok_are_units F T (D_compare base) (D_is_ratio base))
  have D_is_inside : ∀ base, DefAt l.prog w K mg base 1 "is_inside" ["one", "other"] T_is_inside := fun base => r_is_inside.at_ X G (fun _ _ _ _ _ _ us hl => match us, hl with | [_, _], _ => rfl) (fun f fd F => ok_is_inside F T )
  have D_read_box : ∀ base, DefAt l.prog w K mg base 1 "read_box" ["reads", "readings"] T_read_box := fun base => r_read_box.at_ X G (fun _ _ _ _ _ _ us hl => match us, hl with | [_, _], _ => rfl) (fun f fd F => ok_read_box F T )
  have D_gone_on : ∀ base, DefAt l.prog w K mg base 1 "gone_on" ["estimate", "offset"] T_gone_on := fun base => r_gone_on.at_ X G (fun _ _ _ _ _ _ us hl => match us, hl with | [_, _], _ => rfl) (fun f fd F => ok_gone_on F T )
  have D_met_boxes : ∀ base, DefAt l.prog w K mg base 1 "met_boxes" ["one", "other"] T_met_boxes := fun base => r_met_boxes.at_ X G (fun _ _ _ _ _ _ us hl => match us, hl with | [_, _], _ => rfl) (fun f fd F => ok_met_boxes F T )
  have D_is_number : ∀ base, DefAt l.prog w K mg base 1 "is_number" ["datum"] T_is_number := fun base => r_is_number.at_ X G (fun _ _ _ _ _ _ us hl => match us, hl with | [_], _ => rfl) (fun f fd F => ok_is_number F T )
  have D_least_sum : ∀ base, DefAt l.prog w K mg base 1 "least_sum" ["test", "whole"] T_least_sum := fun base => r_least_sum.at_ X G (fun _ _ _ _ _ _ us hl => match us, hl with | [_, _], _ => rfl) (fun f fd F => ok_least_sum F T )
  have D_holds_for : ∀ base, DefAt l.prog w K mg base 2 "holds_for" ["test", "whole"] T_holds_for := fun base => r_holds_for.at_ X G (fun _ _ _ _ _ _ us hl => match us, hl with | [_, _], _ => rfl) (fun f fd F => ok_holds_for F T (D_least_sum base))
  have D_row_holds : ∀ base, DefAt l.prog w K mg base 3 "row_holds" ["row", "whole"] T_row_holds := fun base => r_row_holds.at_ X G (fun _ _ _ _ _ _ us hl => match us, hl with | [_, _], _ => rfl) (fun f fd F => ok_row_holds F T (D_holds_for base))
  have D_command_in : ∀ base, DefAt l.prog w K mg base 4 "command_in" ["table", "whole"] T_command_in := fun base => r_command_in.at_ X G (fun _ _ _ _ _ _ us hl => match us, hl with | [_, _], _ => rfl) (fun f fd F => ok_command_in F T (D_row_holds base))
  have D_first_state : ∀ base, DefAt l.prog w K mg base 1 "first_state" ["pilot"] T_first_state := fun base => r_first_state.at_ X G (fun _ _ _ _ _ _ us hl => match us, hl with | [_], _ => rfl) (fun f fd F => ok_first_state F T )
  have D_estimate_now : ∀ base, DefAt l.prog w K mg base 2 "estimate_now" ["pilot", "state", "now"] T_estimate_now := fun base => r_estimate_now.at_ X G (fun _ _ _ _ _ _ us hl => match us, hl with | [_, _, _], _ => rfl) (fun f fd F => ok_estimate_now F T (D_gone_on base))
  have D_beat_of : ∀ base, DefAt l.prog w K mg base 5 "beat_of" ["pilot", "state", "now", "readings"] T_beat_of := fun base => r_beat_of.at_ X G (fun _ _ _ _ _ _ us hl => match us, hl with | [_, _, _, _], _ => rfl) (fun f fd F => ok_beat_of F T (D_is_inside base) (D_read_box base) (D_met_boxes base) (D_command_in base) (D_estimate_now base))
  have D_driven : ∀ base, DefAt l.prog w K mg base 6 "driven" ["pilot", "inputs"] T_driven := fun base => r_driven.at_ X G (fun _ _ _ _ _ _ us hl => match us, hl with | [_, _], _ => rfl) (fun f fd F => ok_driven F T (D_first_state base) (D_beat_of base))
  have D_is_pair : ∀ base, DefAt l.prog w K mg base 2 "is_pair" ["datum"] T_is_pair := fun base => r_is_pair.at_ X G (fun _ _ _ _ _ _ us hl => match us, hl with | [_], _ => rfl) (fun f fd F => ok_is_pair F T (D_is_number base))
  have D_are_pairs : ∀ base, DefAt l.prog w K mg base 3 "are_pairs" ["n", "datum"] T_are_pairs := fun base => r_are_pairs.at_ X G (fun _ _ _ _ _ _ us hl => match us, hl with | [_, _], _ => rfl) (fun f fd F => ok_are_pairs F T (D_is_pair base))
  have D_are_risen : ∀ base, DefAt l.prog w K mg base 1 "are_risen" ["datum"] T_are_risen := fun base => r_are_risen.at_ X G (fun _ _ _ _ _ _ us hl => match us, hl with | [_], _ => rfl) (fun f fd F => ok_are_risen F T )
  have D_is_whole_test : ∀ base, DefAt l.prog w K mg base 2 "is_whole_test" ["n", "datum"] T_is_whole_test := fun base => r_is_whole_test.at_ X G (fun _ _ _ _ _ _ us hl => match us, hl with | [_, _], _ => rfl) (fun f fd F => ok_is_whole_test F T (D_is_number base))
  have D_is_whole_row : ∀ base, DefAt l.prog w K mg base 3 "is_whole_row" ["n", "commands", "datum"] T_is_whole_row := fun base => r_is_whole_row.at_ X G (fun _ _ _ _ _ _ us hl => match us, hl with | [_, _, _], _ => rfl) (fun f fd F => ok_is_whole_row F T (D_is_number base) (D_is_whole_test base))
  have D_are_phases : ∀ base, DefAt l.prog w K mg base 4 "are_phases" ["n", "modes", "commands", "datum"] T_are_phases := fun base => r_are_phases.at_ X G (fun _ _ _ _ _ _ us hl => match us, hl with | [_, _, _, _], _ => rfl) (fun f fd F => ok_are_phases F T (D_is_whole_row base))
  have D_are_offsets : ∀ base, DefAt l.prog w K mg base 4 "are_offsets" ["n", "modes", "commands", "datum"] T_are_offsets := fun base => r_are_offsets.at_ X G (fun _ _ _ _ _ _ us hl => match us, hl with | [_, _, _, _], _ => rfl) (fun f fd F => ok_are_offsets F T (D_are_pairs base))
  have D_are_boxes : ∀ base, DefAt l.prog w K mg base 4 "are_boxes" ["n", "modes", "datum", "may_be_none"] T_are_boxes := fun base => r_are_boxes.at_ X G (fun _ _ _ _ _ _ us hl => match us, hl with | [_, _, _, _], _ => rfl) (fun f fd F => ok_are_boxes F T (D_are_pairs base) (D_are_risen base))
  have D_are_unit_pairs : ∀ base, DefAt l.prog w K mg base 4 "are_unit_pairs" ["datum"] T_are_unit_pairs := fun base => r_are_unit_pairs.at_ X G (fun _ _ _ _ _ _ us hl => match us, hl with | [_], _ => rfl) (fun f fd F => ok_are_unit_pairs F T (D_are_units base) (D_is_pair base))
  have D_is_fixed_pilot : ∀ base, DefAt l.prog w K mg base 5 "is_fixed_pilot" ["datum"] T_is_fixed_pilot := fun base => r_is_fixed_pilot.at_ X G (fun _ _ _ _ _ _ us hl => match us, hl with | [_], _ => rfl) (fun f fd F => ok_is_fixed_pilot F T (D_are_pairs base) (D_are_phases base) (D_are_offsets base) (D_are_boxes base) (D_are_unit_pairs base))
  have D__law_deal : ∀ base, DefAt l.prog w K mg base 1 "_law_deal" ["script"] T__law_deal := fun base => r__law_deal.at_ X G (fun _ _ _ _ _ _ us hl => match us, hl with | [_], _ => rfl) (fun f fd F => ok__law_deal F T )
  have D__law_take : ∀ base, DefAt l.prog w K mg base 1 "_law_take" ["deal", "many"] T__law_take := fun base => r__law_take.at_ X G (fun _ _ _ _ _ _ us hl => match us, hl with | [_, _], _ => rfl) (fun f fd F => ok__law_take F T )
  have D__law_pick : ∀ base, DefAt l.prog w K mg base 2 "_law_pick" ["deal", "things"] T__law_pick := fun base => r__law_pick.at_ X G (fun _ _ _ _ _ _ us hl => match us, hl with | [_, _], _ => rfl) (fun f fd F => ok__law_pick F T (D__law_take base))
  have D__law_same0 : ∀ base, DefAt l.prog w K mg base 0 "_law_same" ["a", "b"] (T__law_sameN 0) := fun base => r__law_same.at_ X G (fun _ _ _ _ _ _ us hl => match us, hl with | [_, _], _ => rfl) (fun f fd F => fn_false rfl (h__law_same0))
  have D__law_same1 : ∀ base, DefAt l.prog w K mg base 1 "_law_same" ["a", "b"] (T__law_sameN 1) := fun base => r__law_same.at_ X G (fun _ _ _ _ _ _ us hl => match us, hl with | [_, _], _ => rfl) (fun f fd F => ok__law_same (k := 0) (m__law_sameN 0) F T  (D__law_same0 base))
  have D__law_same2 : ∀ base, DefAt l.prog w K mg base 2 "_law_same" ["a", "b"] (T__law_sameN 2) := fun base => r__law_same.at_ X G (fun _ _ _ _ _ _ us hl => match us, hl with | [_, _], _ => rfl) (fun f fd F => ok__law_same (k := 1) (m__law_sameN 1) F T  (D__law_same1 base))
  have D__law_same3 : ∀ base, DefAt l.prog w K mg base 3 "_law_same" ["a", "b"] (T__law_sameN 3) := fun base => r__law_same.at_ X G (fun _ _ _ _ _ _ us hl => match us, hl with | [_, _], _ => rfl) (fun f fd F => ok__law_same (k := 2) (m__law_sameN 2) F T  (D__law_same2 base))
  have D__law_same4 : ∀ base, DefAt l.prog w K mg base 4 "_law_same" ["a", "b"] (T__law_sameN 4) := fun base => r__law_same.at_ X G (fun _ _ _ _ _ _ us hl => match us, hl with | [_, _], _ => rfl) (fun f fd F => ok__law_same (k := 3) (m__law_sameN 3) F T  (D__law_same3 base))
  have D__law_same5 : ∀ base, DefAt l.prog w K mg base 5 "_law_same" ["a", "b"] (T__law_sameN 5) := fun base => r__law_same.at_ X G (fun _ _ _ _ _ _ us hl => match us, hl with | [_, _], _ => rfl) (fun f fd F => ok__law_same (k := 4) (m__law_sameN 4) F T  (D__law_same4 base))
  have D__law_same6 : ∀ base, DefAt l.prog w K mg base 6 "_law_same" ["a", "b"] (T__law_sameN 6) := fun base => r__law_same.at_ X G (fun _ _ _ _ _ _ us hl => match us, hl with | [_, _], _ => rfl) (fun f fd F => ok__law_same (k := 5) (m__law_sameN 5) F T  (D__law_same5 base))
  have D__law_same7 : ∀ base, DefAt l.prog w K mg base 7 "_law_same" ["a", "b"] (T__law_sameN 7) := fun base => r__law_same.at_ X G (fun _ _ _ _ _ _ us hl => match us, hl with | [_, _], _ => rfl) (fun f fd F => ok__law_same (k := 6) (m__law_sameN 6) F T  (D__law_same6 base))
  have D__law_same : ∀ base, DefAt l.prog w K mg base 8 "_law_same" ["a", "b"] (T__law_sameN 8) := fun base => r__law_same.at_ X G (fun _ _ _ _ _ _ us hl => match us, hl with | [_, _], _ => rfl) (fun f fd F => ok__law_same (k := 7) (m__law_sameN 7) F T  (D__law_same7 base))
  have D__law_pair : ∀ base, DefAt l.prog w K mg base 2 "_law_pair" ["deal", "low", "many", "wide"] T__law_pair := fun base => r__law_pair.at_ X G (fun _ _ _ _ _ _ us hl => match us, hl with | [_, _, _, _], _ => rfl) (fun f fd F => ok__law_pair F T (D__law_take base))
  have D__law_row : ∀ base, DefAt l.prog w K mg base 2 "_law_row" ["deal", "n", "commands"] T__law_row := fun base => r__law_row.at_ X G (fun _ _ _ _ _ _ us hl => match us, hl with | [_, _, _], _ => rfl) (fun f fd F => ok__law_row F T (D__law_take base))
  have D__law_offset : ∀ base, DefAt l.prog w K mg base 3 "_law_offset" ["deal", "n"] T__law_offset := fun base => r__law_offset.at_ X G (fun _ _ _ _ _ _ us hl => match us, hl with | [_, _], _ => rfl) (fun f fd F => ok__law_offset F T (D__law_take base) (D__law_pair base))
  have D__law_pilot : ∀ base, DefAt l.prog w K mg base 4 "_law_pilot" ["deal", "n"] T__law_pilot := fun base => r__law_pilot.at_ X G (fun _ _ _ _ _ _ us hl => match us, hl with | [_, _], _ => rfl) (fun f fd F => ok__law_pilot F T (D__law_take base) (D__law_pick base) (D__law_pair base) (D__law_row base) (D__law_offset base))
  have D__law_known : ∀ base, DefAt l.prog w K mg base 1 "_law_known" ["sources", "shifts", "n"] T__law_known := fun base => r__law_known.at_ X G (fun _ _ _ _ _ _ us hl => match us, hl with | [_, _, _], _ => rfl) (fun f fd F => ok__law_known F T )
  have D__law_command : ∀ base, DefAt l.prog w K mg base 1 "_law_command" ["table", "known"] T__law_command := fun base => r__law_command.at_ X G (fun _ _ _ _ _ _ us hl => match us, hl with | [_, _], _ => rfl) (fun f fd F => ok__law_command F T )
  have D__law_readings : ∀ base, DefAt l.prog w K mg base 3 "_law_readings" ["deal", "pilot", "known"] T__law_readings := fun base => r__law_readings.at_ X G (fun _ _ _ _ _ _ us hl => match us, hl with | [_, _, _], _ => rfl) (fun f fd F => ok__law_readings F T (D__law_take base) (D__law_pick base))
  have D__law_told : ∀ base, DefAt l.prog w K mg base 2 "_law_told" ["pilot", "phase", "now", "known", "readings"] T__law_told := fun base => r__law_told.at_ X G (fun _ _ _ _ _ _ us hl => match us, hl with | [_, _, _, _, _], _ => rfl) (fun f fd F => ok__law_told F T (D__law_command base))
  have D__law_now : ∀ base, DefAt l.prog w K mg base 2 "_law_now" ["deal", "pilot", "was", "command"] T__law_now := fun base => r__law_now.at_ X G (fun _ _ _ _ _ _ us hl => match us, hl with | [_, _, _, _], _ => rfl) (fun f fd F => ok__law_now F T (D__law_take base))
  exact r_law.law X G hfa (fun _ _ _ _ _ _ _ => rfl) (fun base _ _ f fd F => ok_law F T (D_first_state base) (D_beat_of base) (D_driven base) (D_is_fixed_pilot base) (D__law_deal base) (D__law_take base) (D__law_pick base) (D__law_same base) (D__law_pilot base) (D__law_known base) (D__law_readings base) (D__law_told base) (D__law_now base))
end K44
open PySem PySem.W PyProof.Rows in
set_option maxRecDepth 100000 in
set_option maxHeartbeats 0 in
theorem PySem.Challenge.cw_surepilot_k44_whole_all_that_was_read_holds : PySem.Challenge.rw_surepilot_k44_whole_all_that_was_read.Holds := by
  w_on; o_law; k_head; (case hw => w_witness2)
  k_fill
  refine FL.walkD (k := 9) (l := PySem.Challenge.rw_surepilot_k44_whole_all_that_was_read) rfl rfl ⟨rfl, by decide, by decide⟩ (fun w h Y => PySem.W.kIn_of Y) ?F
  case F =>
    intro w mg fa h KX G hmg
    refine' K44.all_mk KX G hmg (FL.Row.mk' ?a0 ?l0 ?c0 ?k0) (FL.Row.mk' ?a1 ?l1 ?c1 ?k1) (FL.Row.mk' ?a2 ?l2 ?c2 ?k2) (FL.Row.mk' ?a3 ?l3 ?c3 ?k3) (FL.Row.mk' ?a4 ?l4 ?c4 ?k4) (FL.Row.mk' ?a5 ?l5 ?c5 ?k5) (FL.Row.mk' ?a6 ?l6 ?c6 ?k6) (FL.Row.mk' ?a7 ?l7 ?c7 ?k7) (FL.Row.mk' ?a8 ?l8 ?c8 ?k8) (FL.Row.mk' ?a9 ?l9 ?c9 ?k9) (FL.Row.mk' ?a10 ?l10 ?c10 ?k10) (FL.Row.mk' ?a11 ?l11 ?c11 ?k11) (FL.Row.mk' ?a12 ?l12 ?c12 ?k12) (FL.Row.mk' ?a13 ?l13 ?c13 ?k13) (FL.Row.mk' ?a14 ?l14 ?c14 ?k14) (FL.Row.mk' ?a15 ?l15 ?c15 ?k15) (FL.Row.mk' ?a16 ?l16 ?c16 ?k16) (FL.Row.mk' ?a17 ?l17 ?c17 ?k17) (FL.Row.mk' ?a18 ?l18 ?c18 ?k18) (FL.Row.mk' ?a19 ?l19 ?c19 ?k19) (FL.Row.mk' ?a20 ?l20 ?c20 ?k20) (FL.Row.mk' ?a21 ?l21 ?c21 ?k21) (FL.Row.mk' ?a22 ?l22 ?c22 ?k22) (FL.Row.mk' ?a23 ?l23 ?c23 ?k23) (FL.Row.mk' ?a24 ?l24 ?c24 ?k24) (FL.Row.mk' ?a25 ?l25 ?c25 ?k25) (FL.Row.mk' ?a26 ?l26 ?c26 ?k26) (FL.Row.mk' ?a27 ?l27 ?c27 ?k27) (FL.Row.mk' ?a28 ?l28 ?c28 ?k28) (FL.Row.mk' ?a29 ?l29 ?c29 ?k29) (FL.Row.mk' ?a30 ?l30 ?c30 ?k30) (FL.Row.mk' ?a31 ?l31 ?c31 ?k31) (FL.Row.mk' ?a32 ?l32 ?c32 ?k32) (FL.Row.mk' ?a33 ?l33 ?c33 ?k33) (FL.Row.mk' ?a34 ?l34 ?c34 ?k34) (FL.Row.mk' ?a35 ?l35 ?c35 ?k35) (FL.Row.mk' ?a36 ?l36 ?c36 ?k36) (FL.Row.mk' ?a37 ?l37 ?c37 ?k37) (FL.Row.mk' ?a38 ?l38 ?c38 ?k38) (FL.Row.mk' ?a39 ?l39 ?c39 ?k39) (FL.Row.mk' ?a40 ?l40 ?c40 ?k40) ?b0 ?b1 ?b2 ?b3 ?b4 ?b5 ?b6 ?b7 ?b8 ?b9 ?b10 ?b11 ?b12 ?b13 (FL.glob01 KX G ?gl0 ?hl0 ?il0 ?jl0) (FL.glob_str "broken" KX G ?gl1) (FL.glob_str "way" KX G ?gl2) (FL.glob_str "empty" KX G ?gl3) (FL.glob_str "span" KX G ?gl4) (FL.glob_str "none" KX G ?gl5) (FL.glob_str "given" KX G ?gl6) (FL.glob_int 1000 KX G ?gl7)
    (case a0 => k_is); (case l0 => k_is); (case c0 => k_is); (case k0 => k_is)
    (case a1 => k_is); (case l1 => k_is); (case c1 => k_is); (case k1 => k_is)
    (case a2 => k_is); (case l2 => k_is); (case c2 => k_is); (case k2 => k_is)
    (case a3 => k_is); (case l3 => k_is); (case c3 => k_is); (case k3 => k_is)
    (case a4 => k_is); (case l4 => k_is); (case c4 => k_is); (case k4 => k_is)
    (case a5 => k_is); (case l5 => k_is); (case c5 => k_is); (case k5 => k_is)
    (case a6 => k_is); (case l6 => k_is); (case c6 => k_is); (case k6 => k_is)
    (case a7 => k_is); (case l7 => k_is); (case c7 => k_is); (case k7 => k_is)
    (case a8 => k_is); (case l8 => k_is); (case c8 => k_is); (case k8 => k_is)
    (case a9 => k_is); (case l9 => k_is); (case c9 => k_is); (case k9 => k_is)
    (case a10 => k_is); (case l10 => k_is); (case c10 => k_is); (case k10 => k_is)
    (case a11 => k_is); (case l11 => k_is); (case c11 => k_is); (case k11 => k_is)
    (case a12 => k_is); (case l12 => k_is); (case c12 => k_is); (case k12 => k_is)
    (case a13 => k_is); (case l13 => k_is); (case c13 => k_is); (case k13 => k_is)
    (case a14 => k_is); (case l14 => k_is); (case c14 => k_is); (case k14 => k_is)
    (case a15 => k_is); (case l15 => k_is); (case c15 => k_is); (case k15 => k_is)
    (case a16 => k_is); (case l16 => k_is); (case c16 => k_is); (case k16 => k_is)
    (case a17 => k_is); (case l17 => k_is); (case c17 => k_is); (case k17 => k_is)
    (case a18 => k_is); (case l18 => k_is); (case c18 => k_is); (case k18 => k_is)
    (case a19 => k_is); (case l19 => k_is); (case c19 => k_is); (case k19 => k_is)
    (case a20 => k_is); (case l20 => k_is); (case c20 => k_is); (case k20 => k_is)
    (case a21 => k_is); (case l21 => k_is); (case c21 => k_is); (case k21 => k_is)
    (case a22 => k_is); (case l22 => k_is); (case c22 => k_is); (case k22 => k_is)
    (case a23 => k_is); (case l23 => k_is); (case c23 => k_is); (case k23 => k_is)
    (case a24 => k_is); (case l24 => k_is); (case c24 => k_is); (case k24 => k_is)
    (case a25 => k_is); (case l25 => k_is); (case c25 => k_is); (case k25 => k_is)
    (case a26 => k_is); (case l26 => k_is); (case c26 => k_is); (case k26 => k_is)
    (case a27 => k_is); (case l27 => k_is); (case c27 => k_is); (case k27 => k_is)
    (case a28 => k_is); (case l28 => k_is); (case c28 => k_is); (case k28 => k_is)
    (case a29 => k_is); (case l29 => k_is); (case c29 => k_is); (case k29 => k_is)
    (case a30 => k_is); (case l30 => k_is); (case c30 => k_is); (case k30 => k_is)
    (case a31 => k_is); (case l31 => k_is); (case c31 => k_is); (case k31 => k_is)
    (case a32 => k_is); (case l32 => k_is); (case c32 => k_is); (case k32 => k_is)
    (case a33 => k_is); (case l33 => k_is); (case c33 => k_is); (case k33 => k_is)
    (case a34 => k_is); (case l34 => k_is); (case c34 => k_is); (case k34 => k_is)
    (case a35 => k_is); (case l35 => k_is); (case c35 => k_is); (case k35 => k_is)
    (case a36 => k_is); (case l36 => k_is); (case c36 => k_is); (case k36 => k_is)
    (case a37 => k_is); (case l37 => k_is); (case c37 => k_is); (case k37 => k_is)
    (case a38 => k_is); (case l38 => k_is); (case c38 => k_is); (case k38 => k_is)
    (case a39 => k_is); (case l39 => k_is); (case c39 => k_is); (case k39 => k_is)
    (case a40 => k_is); (case l40 => k_is); (case c40 => k_is); (case k40 => k_is)
    (case b0 => k_is)
    (case b1 => k_is)
    (case b2 => k_is)
    (case b3 => k_is)
    (case b4 => k_is)
    (case b5 => k_is)
    (case b6 => k_is)
    (case b7 => k_is)
    (case b8 => k_is)
    (case b9 => k_is)
    (case b10 => k_is)
    (case b11 => k_is)
    (case b12 => k_is)
    (case b13 => k_is)
    (case gl0 => k_is); (case hl0 => k_is); (case il0 => decide); (case jl0 => exact .cons ⟨_, rfl⟩ (.cons ⟨_, rfl⟩ .nil))
    (case gl1 => k_is)
    (case gl2 => k_is)
    (case gl3 => k_is)
    (case gl4 => k_is)
    (case gl5 => k_is)
    (case gl6 => k_is)
    (case gl7 => k_is)
#print axioms PySem.Challenge.cw_surepilot_k44_whole_all_that_was_read_holds

