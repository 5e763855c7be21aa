import PyProof.Rows.All
import HandS.ForMost
import HandS.Flow
import HandS.IsInst
import HandS.Conv
import HandS.Deep
import HandS.Zip
import HandS.Defaults
import HandS.HeadHook2
import HandS.HeadEnd
import HandS.Head0
import HandS.Head1
import HandS.Head2
import HandS.ForExc
import PySem.Challenge.RW_readsmith_k01_names_and_signs
set_option Elab.async false
set_option linter.all false
set_option maxRecDepth 100000
set_option autoImplicit false
set_option maxHeartbeats 4000000
/-! An engine of big steps over data: what an expression, a statement comes to, the heap aside. -/
namespace EN
open PySem PySem.Spec PyProof.Rows L2

/-- data that no one changes -/
inductive D where
  | non | bl (b : Bool) | int (i : Int) | str (x : Str)
  | lst (xs : List D) | tup (xs : List D)
  | dic (kvs : List (Key × D))
  | ins (c : Str) (fs : List (Str × D))

abbrev Ex (H H' : Hp) : Prop := ∀ a o, H a = some o → H' a = some o
theorem Ex.rfl' {H : Hp} : Ex H H := fun _ _ h => h
theorem Ex.tr {H H1 H2 : Hp} (a : Ex H H1) (b : Ex H1 H2) : Ex H H2 := fun x o h => b x o (a x o h)
theorem Ex.rd {H H' : Hp} {a : Addr} {u : HO} (e : Ex H H') (h : Rd H a u) : Rd H' a u := by
  rcases h with h | ⟨o, h⟩
  · exact Or.inl (e a _ h)
  · exact Or.inr ⟨o, e a _ h⟩
theorem Ex.sqL {K : PySem.W.Frag} {H H' : Hp} {a : Addr} {xs : List V} (e : Ex H H') (h : SqL K H a xs) : SqL K H' a xs := by
  rcases h with h | h
  · exact Or.inl (e.rd h)
  · exact Or.inr h
theorem Ex.sqT {K : PySem.W.Frag} {H H' : Hp} {a : Addr} {xs : List V} (e : Ex H H') (h : SqT K H a xs) : SqT K H' a xs := by
  rcases h with h | h
  · exact Or.inl (e.rd h)
  · exact Or.inr h
theorem Ex.new {H : Hp} {p : Addr} {o : HO} (h : H p = none) : Ex H (upd H p o) := fun a u e => by
  rw [upd_ne (ne_of_none e h)]
  exact e
theorem Ex.fresh {H H' : Hp} {p : Addr} (e : Ex H H') (h : H' p = none) : H p = none := by
  cases h1 : H p with
  | none => rfl
  | some o => rw [e p o h1] at h; cases h

mutual
inductive Dt (K : PySem.W.Frag) (H : Hp) : D → V → Prop
  | non : Dt K H .non .non
  | bl (b : Bool) : Dt K H (.bl b) (.bl b)
  | int (i : Int) : Dt K H (.int i) (.int i)
  | str (x : Str) : Dt K H (.str x) (.str x)
  | lst {a : Addr} {xs : List V} {ds : List D} : SqL K H a xs → DtL K H ds xs → Dt K H (.lst ds) (.ref a)
  | tup {a : Addr} {xs : List V} {ds : List D} : SqT K H a xs → DtL K H ds xs → Dt K H (.tup ds) (.ref a)
  | dic {a : Addr} {kvs : List (Key × V)} {ds : List (Key × D)} : Rd H a (.dK kvs) → DtK K H ds kvs → Dt K H (.dic ds) (.ref a)
  | ins {a dx : Addr} {c : Str} {fs : List (Str × V)} {ds : List (Str × D)} : H a = some (.ins (He.ga K c) dx fs) → DtF K H ds fs → Dt K H (.ins c ds) (.ref a)
inductive DtL (K : PySem.W.Frag) (H : Hp) : List D → List V → Prop
  | nil : DtL K H [] []
  | cons {d : D} {v : V} {ds : List D} {vs : List V} : Dt K H d v → DtL K H ds vs → DtL K H (d :: ds) (v :: vs)
inductive DtK (K : PySem.W.Frag) (H : Hp) : List (Key × D) → List (Key × V) → Prop
  | nil : DtK K H [] []
  | cons {k : Key} {d : D} {v : V} {ds : List (Key × D)} {vs : List (Key × V)} : Dt K H d v → DtK K H ds vs → DtK K H ((k, d) :: ds) ((k, v) :: vs)
inductive DtF (K : PySem.W.Frag) (H : Hp) : List (Str × D) → List (Str × V) → Prop
  | nil : DtF K H [] []
  | cons {k : Str} {d : D} {v : V} {ds : List (Str × D)} {vs : List (Str × V)} : Dt K H d v → DtF K H ds vs → DtF K H ((k, d) :: ds) ((k, v) :: vs)
end
section
variable {K : PySem.W.Frag} {H H' : Hp}
mutual
theorem Dt.mono (e : Ex H H') : ∀ {d : D} {v : V}, Dt K H d v → Dt K H' d v
  | _, _, .non => .non
  | _, _, .bl b => .bl b
  | _, _, .int b => .int b
  | _, _, .str b => .str b
  | _, _, .lst s l => .lst (e.sqL s) (DtL.mono e l)
  | _, _, .tup s l => .tup (e.sqT s) (DtL.mono e l)
  | _, _, .dic s l => .dic (e.rd s) (DtK.mono e l)
  | _, _, .ins s l => .ins (e _ _ s) (DtF.mono e l)
theorem DtL.mono (e : Ex H H') : ∀ {d : List D} {v : List V}, DtL K H d v → DtL K H' d v
  | _, _, .nil => .nil
  | _, _, .cons h t => .cons (Dt.mono e h) (DtL.mono e t)
theorem DtK.mono (e : Ex H H') : ∀ {d : List (Key × D)} {v : List (Key × V)}, DtK K H d v → DtK K H' d v
  | _, _, .nil => .nil
  | _, _, .cons h t => .cons (Dt.mono e h) (DtK.mono e t)
theorem DtF.mono (e : Ex H H') : ∀ {d : List (Str × D)} {v : List (Str × V)}, DtF K H d v → DtF K H' d v
  | _, _, .nil => .nil
  | _, _, .cons h t => .cons (Dt.mono e h) (DtF.mono e t)
end
theorem DtL.len : ∀ {d : List D} {v : List V}, DtL K H d v → d.length = v.length
  | _, _, .nil => rfl
  | _, _, .cons _ t => by simp [t.len]
theorem DtL.get : ∀ {d : List D} {v : List V} {i : Nat} {x : D}, DtL K H d v → d[i]? = some x → ∃ y, v[i]? = some y ∧ Dt K H x y
  | _, _, _, _, .nil, h => by simp at h
  | _, _, 0, _, .cons q t, h => ⟨_, rfl, by simp at h; subst h; exact q⟩
  | _, _, i + 1, _, .cons q t, h => t.get (i := i) (by simpa using h)
theorem DtL.append : ∀ {d e : List D} {v w : List V}, DtL K H d v → DtL K H e w → DtL K H (d ++ e) (v ++ w)
  | _, _, _, _, .nil, h => h
  | _, _, _, _, .cons q t, h => .cons q (t.append h)
theorem DtL.rev {d : List D} {v : List V} (h : DtL K H d v) : DtL K H d.reverse v.reverse := by
  induction h using DtL.rec (motive_1 := fun _ _ _ => True) (motive_3 := fun _ _ _ => True) (motive_4 := fun _ _ _ => True) <;> try trivial
  case nil => exact .nil
  case cons q t _ ih =>
    simp only [List.reverse_cons]
    exact ih.append (.cons q .nil)
theorem DtL.take : ∀ {d : List D} {v : List V} (n : Nat), DtL K H d v → DtL K H (d.take n) (v.take n)
  | _, _, 0, _ => by simpa using DtL.nil
  | _, _, _ + 1, .nil => by simpa using DtL.nil
  | _, _, n + 1, .cons q t => .cons q (t.take n)
theorem DtL.drop : ∀ {d : List D} {v : List V} (n : Nat), DtL K H d v → DtL K H (d.drop n) (v.drop n)
  | _, _, 0, h => h
  | _, _, _ + 1, .nil => .nil
  | _, _, n + 1, .cons q t => t.drop n
theorem DtF.look : ∀ {d : List (Str × D)} {v : List (Str × V)} {f : Str} {x : D}, DtF K H d v → d.lookup f = some x → ∃ y, v.lookup f = some y ∧ Dt K H x y
  | _, _, f, x, .nil, h => by simp at h
  | _, _, f, x, .cons (k := k) q t, h => by
    simp only [List.lookup_cons] at h ⊢
    cases e : f == k with
    | true => rw [e] at h; simp at h; subst h; exact ⟨_, rfl, q⟩
    | false => rw [e] at h; exact t.look h
theorem DtF.look0 : ∀ {d : List (Str × D)} {v : List (Str × V)} {f : Str}, DtF K H d v → d.lookup f = none → v.lookup f = none
  | _, _, f, .nil, h => by simp
  | _, _, f, .cons (k := k) q t, h => by
    simp only [List.lookup_cons] at h ⊢
    cases e : f == k with
    | true => rw [e] at h; cases h
    | false => rw [e] at h; exact t.look0 h
end

/-- a value: data, or an object of one's own by its number -/
inductive T where
  | dat (d : D) | own (i : Nat)
/-- an object of one's own -/
inductive M where
  | lst (ts : List T)
  | dic (kvs : List (Key × T))
  | ins (c : Str) (fs : List (Str × T))
  | frz (d : D)
def M.isFrz : M → Bool
  | .frz _ => true
  | _ => false

/-- the addresses of one's own objects -/
def hds : List Addr → List M → List Addr
  | a :: π, m :: μ => if m.isFrz then hds π μ else a :: hds π μ
  | _, _ => []
def hd (φ π : List Addr) (μ : List M) (H : Hp) : Hp := fun a => if a ∈ φ ++ hds π μ then none else H a
theorem hd_le (φ π : List Addr) (μ : List M) (H : Hp) : Ex (hd φ π μ H) H := fun a o h => by
  unfold hd at h
  split at h
  · cases h
  · exact h
theorem mem_hds : ∀ {π : List Addr} {μ : List M} {a : Addr}, a ∈ hds π μ → ∃ (i : Nat) (m : M), π[i]? = some a ∧ μ[i]? = some m ∧ m.isFrz = false
  | [], _, _, h => by simp [hds] at h
  | _ :: _, [], _, h => by simp [hds] at h
  | p :: π, m :: μ, a, h => by
    unfold hds at h
    cases e : m.isFrz with
    | true =>
      rw [e] at h
      obtain ⟨i, m', h1, h2, h3⟩ := mem_hds (π := π) (μ := μ) (by simpa using h)
      exact ⟨i + 1, m', by simpa using h1, by simpa using h2, h3⟩
    | false =>
      rw [e] at h
      rcases List.mem_cons.mp (by simpa using h) with rfl | h
      · exact ⟨0, m, rfl, rfl, e⟩
      · obtain ⟨i, m', h1, h2, h3⟩ := mem_hds (π := π) (μ := μ) h
        exact ⟨i + 1, m', by simpa using h1, by simpa using h2, h3⟩
theorem hds_mem : ∀ {π : List Addr} {μ : List M} {a : Addr} {i : Nat} {m : M}, π[i]? = some a → μ[i]? = some m → m.isFrz = false → a ∈ hds π μ
  | [], _, _, _, _, h, _, _ => by simp at h
  | _ :: _, [], _, _, _, _, h, _ => by simp at h
  | p :: π, m :: μ, a, 0, m', h1, h2, h3 => by
    simp at h1 h2; subst h1; subst h2
    unfold hds; rw [h3]; simp
  | p :: π, m :: μ, a, i + 1, m', h1, h2, h3 => by
    have := hds_mem (π := π) (μ := μ) (i := i) (by simpa using h1) (by simpa using h2) h3
    unfold hds
    split
    · exact this
    · exact List.mem_cons_of_mem _ this
theorem hds_append : ∀ {π π2 : List Addr} {μ μ2 : List M}, π.length = μ.length → hds (π ++ π2) (μ ++ μ2) = hds π μ ++ hds π2 μ2
  | [], _, [], _, _ => by simp [hds]
  | [], _, _ :: _, _, h => by simp at h
  | _ :: _, _, [], _, h => by simp at h
  | p :: π, π2, m :: μ, μ2, h => by
    have ih := hds_append (π := π) (π2 := π2) (μ := μ) (μ2 := μ2) (by simpa using h)
    simp only [List.cons_append, hds, ih]
    split <;> simp
theorem hds_set : ∀ {π : List Addr} {μ : List M} {i : Nat} {m m' : M}, μ[i]? = some m → m.isFrz = m'.isFrz → hds π (μ.set i m') = hds π μ
  | [], _, _, _, _, _, _ => by simp [hds]
  | _ :: _, [], _, _, _, h, _ => by simp at h
  | p :: π, m :: μ, 0, m1, m', h, e => by
    simp at h; subst h
    simp only [List.set_cons_zero, hds, e]
  | p :: π, m :: μ, i + 1, m1, m', h, e => by
    have ih := hds_set (π := π) (μ := μ) (i := i) (m := m1) (m' := m') (by simpa using h) e
    simp only [List.set_cons_succ, hds, ih]

section
variable (K : PySem.W.Frag)
def TOk (π : List Addr) (Hd : Hp) : T → V → Prop
  | .dat d, v => Dt K Hd d v
  | .own i, v => ∃ a : Addr, π[i]? = some a ∧ v = .ref a
inductive TL (π : List Addr) (Hd : Hp) : List T → List V → Prop
  | nil : TL π Hd [] []
  | cons {t : T} {v : V} {ts : List T} {vs : List V} : TOk K π Hd t v → TL π Hd ts vs → TL π Hd (t :: ts) (v :: vs)
inductive TK (π : List Addr) (Hd : Hp) {κ : Type} : List (κ × T) → List (κ × V) → Prop
  | nil : TK π Hd [] []
  | cons {k : κ} {t : T} {v : V} {ts : List (κ × T)} {vs : List (κ × V)} : TOk K π Hd t v → TK π Hd ts vs → TK π Hd ((k, t) :: ts) ((k, v) :: vs)
def MOk (π : List Addr) (Hd : Hp) (H : Hp) (a : Addr) : M → Prop
  | .lst ts => ∃ vs, H a = some (.lst vs) ∧ TL K π Hd ts vs
  | .dic kvs => ∃ vs, H a = some (.dK vs) ∧ TK K π Hd kvs vs
  | .ins c fs => ∃ dx vs, H a = some (.ins (He.ga K c) dx vs) ∧ TK K π Hd fs vs
  | .frz d => (∃ o, Hd a = some o) ∧ Dt K Hd d (.ref a)
/-- the store of one's own objects -/
structure SOk (φ π : List Addr) (H : Hp) (μ : List M) : Prop where
  fr : ∀ a ∈ φ, a ∉ π ∧ ∃ o, H a = some o
  len : π.length = μ.length
  nd : π.Nodup
  obj : ∀ (i : Nat) (a : Addr) (m : M), π[i]? = some a → μ[i]? = some m → MOk K π (hd φ π μ H) H a m
/-- the frame's names -/
def GOk (π : List Addr) (Hd : Hp) (Γ : List (Option T)) (σ : L2.St) : Prop :=
  ∀ (i : Nat) (t : T), Γ[i]? = some (some t) → ∃ v, σ[i]? = some (some v) ∧ TOk K π Hd t v
/-- a later state -/
structure Nxt (φ π : List Addr) (H : Hp) (μ : List M) (π' : List Addr) (H' : Hp) (μ' : List M) : Prop where
  ext : ∃ π2, π' = π ++ π2
  ok : SOk K φ π' H' μ'
  same : ∀ a ∈ φ, H' a = H a
  le : Ex (hd φ π μ H) (hd φ π' μ' H')
end
section
variable {K : PySem.W.Frag} {φ π π' : List Addr} {H H' Hd Hd' : Hp} {μ μ' : List M}
theorem TOk.mono (he : ∃ π2, π' = π ++ π2) (e : Ex Hd Hd') {t : T} {v : V} (h : TOk K π Hd t v) : TOk K π' Hd' t v := by
  cases t with
  | dat d => exact Dt.mono e h
  | own i =>
    obtain ⟨a, h1, h2⟩ := h
    obtain ⟨π2, rfl⟩ := he
    refine ⟨a, ?_, h2⟩
    rw [List.getElem?_append_left (List.getElem?_eq_some_iff.mp h1).1]
    exact h1
theorem TL.mono (he : ∃ π2, π' = π ++ π2) (e : Ex Hd Hd') {t : List T} {v : List V} (h : TL K π Hd t v) : TL K π' Hd' t v := by
  induction h with
  | nil => exact .nil
  | cons q _ ih => exact .cons (q.mono he e) ih
theorem TK.mono {κ : Type} (he : ∃ π2, π' = π ++ π2) (e : Ex Hd Hd') {t : List (κ × T)} {v : List (κ × V)} (h : TK K π Hd t v) : TK K π' Hd' t v := by
  induction h with
  | nil => exact .nil
  | cons q _ ih => exact .cons (q.mono he e) ih
theorem GOk.mono (he : ∃ π2, π' = π ++ π2) (e : Ex Hd Hd') {Γ : List (Option T)} {σ : L2.St} (h : GOk K π Hd Γ σ) : GOk K π' Hd' Γ σ := fun i t q => by
  obtain ⟨v, h1, h2⟩ := h i t q
  exact ⟨v, h1, h2.mono he e⟩
theorem MOk.mono (he : ∃ π2, π' = π ++ π2) (e : Ex Hd Hd') {a : Addr} {m : M} (h : MOk K π Hd H a m) (hh : m.isFrz = false → H' a = H a) : MOk K π' Hd' H' a m := by
  cases m with
  | lst ts => obtain ⟨vs, h1, h2⟩ := h; exact ⟨vs, (hh rfl).trans h1, h2.mono he e⟩
  | dic ts => obtain ⟨vs, h1, h2⟩ := h; exact ⟨vs, (hh rfl).trans h1, h2.mono he e⟩
  | ins c ts => obtain ⟨dx, vs, h1, h2⟩ := h; exact ⟨dx, vs, (hh rfl).trans h1, h2.mono he e⟩
  | frz d => exact ⟨h.1.elim fun o q => ⟨o, e _ _ q⟩, Dt.mono e h.2⟩
theorem MOk.there {a : Addr} {m : M} (h : MOk K π Hd H a m) (hf : m.isFrz = false) : ∃ o, H a = some o := by
  cases m with
  | lst ts => obtain ⟨vs, h1, h2⟩ := h; exact ⟨_, h1⟩
  | dic ts => obtain ⟨vs, h1, h2⟩ := h; exact ⟨_, h1⟩
  | ins c ts => obtain ⟨dx, vs, h1, h2⟩ := h; exact ⟨_, h1⟩
  | frz d => cases hf
theorem SOk.hdAt (s : SOk K φ π H μ) {a : Addr} (h : a ∈ hds π μ) : ∃ o, H a = some o := by
  obtain ⟨i, m, h1, h2, h3⟩ := mem_hds h
  exact (s.obj i a m h1 h2).there h3
theorem Nxt.refl (s : SOk K φ π H μ) : Nxt K φ π H μ π H μ := ⟨⟨[], by simp⟩, s, fun _ _ => rfl, Ex.rfl'⟩
theorem Nxt.trans {π1 π2 : List Addr} {H1 H2 : Hp} {μ1 μ2 : List M} (a : Nxt K φ π H μ π1 H1 μ1) (b : Nxt K φ π1 H1 μ1 π2 H2 μ2) : Nxt K φ π H μ π2 H2 μ2 := by
  obtain ⟨p, rfl⟩ := a.ext
  obtain ⟨q, e⟩ := b.ext
  exact ⟨⟨p ++ q, by rw [e, List.append_assoc]⟩, b.ok, fun x hx => (b.same x hx).trans (a.same x hx), a.le.tr b.le⟩
theorem TOk.nx {π1 : List Addr} {H1 : Hp} {μ1 : List M} {t : T} {v : V} (h : TOk K π (hd φ π μ H) t v) (n : Nxt K φ π H μ π1 H1 μ1) : TOk K π1 (hd φ π1 μ1 H1) t v := h.mono n.ext n.le
theorem TL.nx {π1 : List Addr} {H1 : Hp} {μ1 : List M} {t : List T} {v : List V} (h : TL K π (hd φ π μ H) t v) (n : Nxt K φ π H μ π1 H1 μ1) : TL K π1 (hd φ π1 μ1 H1) t v := h.mono n.ext n.le
theorem GOk.nx {π1 : List Addr} {H1 : Hp} {μ1 : List M} {Γ : List (Option T)} {σ : L2.St} (h : GOk K π (hd φ π μ H) Γ σ) (n : Nxt K φ π H μ π1 H1 μ1) : GOk K π1 (hd φ π1 μ1 H1) Γ σ := h.mono n.ext n.le
theorem GOk.set {Γ : List (Option T)} {σ : L2.St} (h : GOk K π Hd Γ σ) {i : Nat} {t : T} {v : V} (q : TOk K π Hd t v) (hi : Γ.length = σ.length) : GOk K π Hd (Γ.set i (some t)) (σ.set i (some v)) := fun j u e => by
  by_cases hj : i = j
  · subst hj
    by_cases hl : i < Γ.length
    · rw [List.getElem?_set_self hl] at e
      cases e
      exact ⟨v, by rw [List.getElem?_set_self (by omega)], q⟩
    · rw [List.getElem?_eq_none (by simpa using hl)] at e; cases e
  · rw [List.getElem?_set_ne hj] at e
    obtain ⟨w, h1, h2⟩ := h j u e
    exact ⟨w, by rw [List.getElem?_set_ne hj]; exact h1, h2⟩

/-- a new thing that is data -/
theorem hd_upd {p : Addr} {o : HO} (h : p ∉ φ ++ hds π μ) : hd φ π μ (upd H p o) = upd (hd φ π μ H) p o := by
  funext b
  unfold hd upd
  by_cases hb : b = p
  · subst hb; rw [if_neg h, if_pos rfl, if_pos rfl]
  · rw [if_neg hb, if_neg hb]
theorem hd_upd_in {p : Addr} {o : HO} (h : p ∈ φ ++ hds π μ) : hd φ π μ (upd H p o) = hd φ π μ H := by
  funext b
  unfold hd upd
  by_cases hb : b = p
  · subst hb; rw [if_pos h, if_pos h]
  · rw [if_neg hb]
theorem SOk.notin (s : SOk K φ π H μ) {p : Addr} (hp : H p = none) : p ∉ φ ++ hds π μ := fun h => by
  rcases List.mem_append.mp h with h | h
  · obtain ⟨_, o, e⟩ := s.fr p h
    rw [hp] at e; cases e
  · obtain ⟨o, e⟩ := s.hdAt h
    rw [hp] at e; cases e
theorem hd_none {p : Addr} (hp : H p = none) : hd φ π μ H p = none := by
  unfold hd
  split
  · rfl
  · exact hp
/-- the heap has grown by things that are nobody's own -/
theorem SOk.grow (s : SOk K φ π H μ) (e : Ex H H') : Nxt K φ π H μ π H' μ := by
  have le : Ex (hd φ π μ H) (hd φ π μ H') := fun a o h => by
    unfold hd at h ⊢
    split at h
    · cases h
    · rename_i hn; rw [if_neg hn]; exact e a o h
  have sm : ∀ a ∈ φ, H' a = H a := fun a ha => by
    obtain ⟨_, o, q⟩ := s.fr a ha
    rw [q]; exact e a o q
  refine ⟨⟨[], by simp⟩, ⟨fun a ha => ⟨(s.fr a ha).1, by rw [sm a ha]; exact (s.fr a ha).2⟩, s.len, s.nd, fun i a m h1 h2 => ?_⟩, sm, le⟩
  refine (s.obj i a m h1 h2).mono ⟨[], by simp⟩ le fun hf => ?_
  obtain ⟨o, ho⟩ := (s.obj i a m h1 h2).there hf
  rw [ho]; exact e a o ho
theorem SOk.newData (s : SOk K φ π H μ) {p : Addr} {o : HO} (hp : H p = none) : Nxt K φ π H μ π (upd H p o) μ ∧ hd φ π μ (upd H p o) p = some o := by
  refine ⟨s.grow (Ex.new hp), ?_⟩
  rw [hd_upd (s.notin hp), upd_same]
/-- a new object of one's own -/
theorem SOk.newOwn (s : SOk K φ π H μ) {p : Addr} {o : HO} {m : M} (hp : H p = none) (hm : m.isFrz = false) (h : MOk K (π ++ [p]) (hd φ π μ H) (upd H p o) p m) :
    Nxt K φ π H μ (π ++ [p]) (upd H p o) (μ ++ [m]) := by
  have hn := s.notin hp
  have e1 : hds (π ++ [p]) (μ ++ [m]) = hds π μ ++ [p] := by
    rw [hds_append s.len]; simp [hds, hm]
  have e2 : hd φ (π ++ [p]) (μ ++ [m]) (upd H p o) = hd φ π μ H := by
    funext b
    unfold hd
    rw [e1]
    by_cases hb : b = p
    · subst hb; simp [hp]
    · rw [upd_ne hb]
      simp [hb]
  have hnp : p ∉ π := fun hm' => by
    obtain ⟨i, hi⟩ := List.getElem?_of_mem hm'
    have hil : i < μ.length := by rw [← s.len]; exact (List.getElem?_eq_some_iff.mp hi).1
    cases hf : (μ[i]).isFrz with
    | false => exact hn (List.mem_append_right _ (hds_mem hi (List.getElem?_eq_getElem hil) hf))
    | true =>
      cases hmu : μ[i] with
      | frz d =>
        obtain ⟨⟨o, q⟩, _⟩ := s.obj i p _ hi (by rw [List.getElem?_eq_getElem hil, hmu])
        rw [hd_none hp] at q; cases q
      | lst _ => rw [hmu] at hf; cases hf
      | dic _ => rw [hmu] at hf; cases hf
      | ins _ _ => rw [hmu] at hf; cases hf
  have sm : ∀ a ∈ φ, upd H p o a = H a := fun a ha => upd_ne fun z => hn (List.mem_append_left _ (z ▸ ha))
  refine ⟨⟨[p], rfl⟩, ⟨fun a ha => ⟨?_, by rw [sm a ha]; exact (s.fr a ha).2⟩, by simp [s.len], ?_, fun i a m' h1 h2 => ?_⟩, sm, by rw [e2]; exact Ex.rfl'⟩
  · intro q
    rcases List.mem_append.mp q with q | q
    · exact (s.fr a ha).1 q
    · simp at q; subst q; exact hn (List.mem_append_left _ ha)
  · rw [List.nodup_append]
    exact ⟨s.nd, by simp, fun x hx y hy => by simp at hy; subst hy; exact fun z => hnp (z ▸ hx)⟩
  · rw [e2]
    by_cases hi : i < π.length
    · rw [List.getElem?_append_left hi] at h1
      rw [List.getElem?_append_left (by rw [← s.len]; exact hi)] at h2
      refine (s.obj i a m' h1 h2).mono ⟨[p], rfl⟩ Ex.rfl' fun hf => ?_
      have ha : a ≠ p := fun z => hnp (z ▸ List.mem_of_getElem? h1)
      exact upd_ne ha
    · have hi' : i = π.length := by
        have := (List.getElem?_eq_some_iff.mp h1).1
        simp at this; omega
      subst hi'
      simp at h1; subst h1
      rw [s.len] at h2
      simp at h2; subst h2
      exact h
/-- one's own object is written -/
theorem SOk.write (s : SOk K φ π H μ) {i : Nat} {a : Addr} {m m' : M} {o : HO} (h1 : π[i]? = some a) (h2 : μ[i]? = some m) (hf : m.isFrz = false) (hf' : m'.isFrz = false) (h : MOk K π (hd φ π μ H) (upd H a o) a m') :
    Nxt K φ π H μ π (upd H a o) (μ.set i m') := by
  have e1 : hds π (μ.set i m') = hds π μ := hds_set h2 (by rw [hf, hf'])
  have ha : a ∈ hds π μ := hds_mem h1 h2 hf
  have e2 : hd φ π (μ.set i m') (upd H a o) = hd φ π μ H := by
    have : hd φ π (μ.set i m') (upd H a o) = hd φ π μ (upd H a o) := by unfold hd; rw [e1]
    rw [this, hd_upd_in (List.mem_append_right _ ha)]
  have sm : ∀ b ∈ φ, upd H a o b = H b := fun b hb => upd_ne fun z => (s.fr b hb).1 (z ▸ List.mem_of_getElem? h1)
  refine ⟨⟨[], by simp⟩, ⟨fun b hb => ⟨(s.fr b hb).1, by rw [sm b hb]; exact (s.fr b hb).2⟩, by simp [s.len], s.nd, fun j b m1 q1 q2 => ?_⟩, sm, by rw [e2]; exact Ex.rfl'⟩
  rw [e2]
  by_cases hj : i = j
  · subst hj
    rw [h1] at q1; cases q1
    rw [List.getElem?_set_self (List.getElem?_eq_some_iff.mp h2).1] at q2
    cases q2
    exact h
  · rw [List.getElem?_set_ne hj] at q2
    refine (s.obj j b m1 q1 q2).mono ⟨[], by simp⟩ Ex.rfl' fun _ => ?_
    have : b ≠ a := fun z => by
      subst z
      obtain ⟨l1, g1⟩ := List.getElem?_eq_some_iff.mp h1
      obtain ⟨l2, g2⟩ := List.getElem?_eq_some_iff.mp q1
      exact hj ((List.getElem_inj s.nd).mp (g1.trans g2.symm))
    exact upd_ne this
/-- one's own object is data from here on -/
theorem SOk.freeze (s : SOk K φ π H μ) {i : Nat} {a : Addr} {m : M} {d : D} (h1 : π[i]? = some a) (h2 : μ[i]? = some m) (hf : m.isFrz = false) (h : ∀ Hd', (∀ o, H a = some o → Hd' a = some o) → Ex (hd φ π μ H) Hd' → Dt K Hd' d (.ref a)) :
    Nxt K φ π H μ π H (μ.set i (.frz d)) := by
  have hth : ∃ o, H a = some o := (s.obj i a m h1 h2).there hf
  have haφ : a ∉ φ := fun z => (s.fr a z).1 (List.mem_of_getElem? h1)
  have sub : ∀ b, b ∈ hds π (μ.set i (.frz d)) → b ∈ hds π μ ∧ b ≠ a := fun b hb => by
    obtain ⟨j, m1, q1, q2, q3⟩ := mem_hds hb
    have hj : i ≠ j := fun z => by
      subst z
      rw [List.getElem?_set_self (List.getElem?_eq_some_iff.mp h2).1] at q2
      cases q2; cases q3
    rw [List.getElem?_set_ne hj] at q2
    refine ⟨hds_mem q1 q2 q3, fun z => ?_⟩
    subst z
    obtain ⟨l1, g1⟩ := List.getElem?_eq_some_iff.mp h1
    obtain ⟨l2, g2⟩ := List.getElem?_eq_some_iff.mp q1
    exact hj ((List.getElem_inj s.nd).mp (g1.trans g2.symm))
  have le : Ex (hd φ π μ H) (hd φ π (μ.set i (.frz d)) H) := fun b o e => by
    unfold hd at e ⊢
    split at e
    · cases e
    · rename_i hn
      rw [if_neg fun z => hn ?_]
      · exact e
      · rcases List.mem_append.mp z with z | z
        · exact List.mem_append_left _ z
        · exact List.mem_append_right _ (sub b z).1
  have ha : ∀ o, H a = some o → hd φ π (μ.set i (.frz d)) H a = some o := fun o e => by
    unfold hd
    rw [if_neg fun z => ?_]
    · exact e
    · rcases List.mem_append.mp z with z | z
      · exact haφ z
      · exact (sub a z).2 rfl
  refine ⟨⟨[], by simp⟩, ⟨s.fr, by simp [s.len], s.nd, fun j b m1 q1 q2 => ?_⟩, fun _ _ => rfl, le⟩
  by_cases hj : i = j
  · subst hj
    rw [h1] at q1; cases q1
    rw [List.getElem?_set_self (List.getElem?_eq_some_iff.mp h2).1] at q2
    cases q2
    exact ⟨hth.elim fun o q => ⟨o, ha o q⟩, h _ ha le⟩
  · rw [List.getElem?_set_ne hj] at q2
    exact (s.obj j b m1 q1 q2).mono ⟨[], by simp⟩ le fun _ => rfl
/-- the last objects are forgotten -/
theorem SOk.forget {μ2 : List M} (s : SOk K φ π H (μ ++ μ2)) (hc : ∀ (i : Nat) (a : Addr) (m : M), (π.take μ.length)[i]? = some a → μ[i]? = some m → MOk K π (hd φ π (μ ++ μ2) H) H a m → MOk K (π.take μ.length) (hd φ π (μ ++ μ2) H) H a m) :
    SOk K φ (π.take μ.length) H μ ∧ Ex (hd φ π (μ ++ μ2) H) (hd φ (π.take μ.length) μ H) := by
  have hl : (π.take μ.length).length = μ.length := by
    rw [List.length_take]
    have := s.len
    simp at this; omega
  have e0 : π = π.take μ.length ++ π.drop μ.length := (List.take_append_drop _ _).symm
  have e1 : hds π (μ ++ μ2) = hds (π.take μ.length) μ ++ hds (π.drop μ.length) μ2 := by
    rw [← hds_append hl, ← e0]
  have le : Ex (hd φ π (μ ++ μ2) H) (hd φ (π.take μ.length) μ H) := fun b o e => by
    unfold hd at e ⊢
    rw [e1] at e
    split at e
    · cases e
    · rename_i hn
      rw [if_neg fun z => hn ?_]
      · exact e
      · rcases List.mem_append.mp z with z | z
        · exact List.mem_append_left _ z
        · exact List.mem_append_right _ (List.mem_append_left _ z)
  refine ⟨⟨fun a ha => ⟨fun z => (s.fr a ha).1 (List.mem_of_mem_take z), (s.fr a ha).2⟩, hl, ?_, fun i a m h1 h2 => ?_⟩, le⟩
  · exact (List.take_sublist _ _).nodup s.nd
  · have hi : i < μ.length := (List.getElem?_eq_some_iff.mp h2).1
    have h1' : π[i]? = some a := by
      rw [List.getElem?_take] at h1
      simpa [hi] using h1
    have h2' : (μ ++ μ2)[i]? = some m := by rw [List.getElem?_append_left hi]; exact h2
    exact (hc i a m h1 h2 (s.obj i a m h1' h2')).mono ⟨[], by simp⟩ le fun _ => rfl
/-- one more object in the frame -/
theorem SOk.frame (s : SOk K φ π H μ) {p : Addr} {o : HO} (hp : H p = none) : SOk K (p :: φ) π (upd H p o) μ ∧ hd (p :: φ) π μ (upd H p o) = hd φ π μ H := by
  have hn := s.notin hp
  have e2 : hd (p :: φ) π μ (upd H p o) = hd φ π μ H := by
    funext b
    unfold hd
    by_cases hb : b = p
    · subst hb; simp [hp]
    · rw [upd_ne hb]; simp [hb]
  have hnp : p ∉ π := fun hm' => by
    obtain ⟨i, hi⟩ := List.getElem?_of_mem hm'
    have hil : i < μ.length := by rw [← s.len]; exact (List.getElem?_eq_some_iff.mp hi).1
    cases hf : (μ[i]).isFrz with
    | false => exact hn (List.mem_append_right _ (hds_mem hi (List.getElem?_eq_getElem hil) hf))
    | true =>
      cases hmu : μ[i] with
      | frz d =>
        obtain ⟨⟨o, q⟩, _⟩ := s.obj i p _ hi (by rw [List.getElem?_eq_getElem hil, hmu])
        rw [hd_none hp] at q; cases q
      | lst _ => rw [hmu] at hf; cases hf
      | dic _ => rw [hmu] at hf; cases hf
      | ins _ _ => rw [hmu] at hf; cases hf
  refine ⟨⟨fun a ha => ?_, s.len, s.nd, fun i a m h1 h2 => ?_⟩, e2⟩
  · rcases List.mem_cons.mp ha with rfl | ha
    · exact ⟨hnp, o, upd_same⟩
    · refine ⟨(s.fr a ha).1, ?_⟩
      rw [upd_ne (show a ≠ p from fun z => hn (List.mem_append_left _ (z ▸ ha)))]
      exact (s.fr a ha).2
  · rw [e2]
    refine (s.obj i a m h1 h2).mono ⟨[], by simp⟩ Ex.rfl' fun hf => upd_ne fun z => hnp (z ▸ List.mem_of_getElem? h1)
/-- the frame's object is written -/
theorem SOk.fwrite {p : Addr} {o : HO} (s : SOk K (p :: φ) π H μ) : SOk K (p :: φ) π (upd H p o) μ ∧ hd (p :: φ) π μ (upd H p o) = hd (p :: φ) π μ H := by
  have e2 : hd (p :: φ) π μ (upd H p o) = hd (p :: φ) π μ H := hd_upd_in (by simp)
  refine ⟨⟨fun a ha => ?_, s.len, s.nd, fun i a m h1 h2 => ?_⟩, e2⟩
  · refine ⟨(s.fr a ha).1, ?_⟩
    by_cases hb : a = p
    · subst hb; exact ⟨o, upd_same⟩
    · rw [upd_ne hb]; exact (s.fr a ha).2
  · rw [e2]
    exact (s.obj i a m h1 h2).mono ⟨[], by simp⟩ Ex.rfl' fun hf => upd_ne fun z => (s.fr p (by simp)).1 (z ▸ List.mem_of_getElem? h1)
/-- the frame's object is data from here on -/
theorem SOk.unframe {p : Addr} (s : SOk K (p :: φ) π H μ) (hp : p ∉ φ) : SOk K φ π H μ ∧ Ex (hd (p :: φ) π μ H) (hd φ π μ H) ∧ hd φ π μ H p = H p := by
  have hnp := (s.fr p (by simp)).1
  have le : Ex (hd (p :: φ) π μ H) (hd φ π μ H) := fun b o e => by
    unfold hd at e ⊢
    by_cases hn : b ∈ p :: φ ++ hds π μ
    · rw [if_pos hn] at e; cases e
    · rw [if_neg hn] at e
      rw [if_neg fun z => hn (by simp only [List.cons_append]; exact List.mem_cons_of_mem _ z)]
      exact e
  refine ⟨⟨fun a ha => s.fr a (List.mem_cons_of_mem _ ha), s.len, s.nd, fun i a m h1 h2 => (s.obj i a m h1 h2).mono ⟨[], by simp⟩ le fun _ => rfl⟩, le, ?_⟩
  unfold hd
  rw [if_neg]
  intro z
  rcases List.mem_append.mp z with z | z
  · exact hp z
  · obtain ⟨i, m, h1, h2, h3⟩ := mem_hds z
    exact hnp (List.mem_of_getElem? h1)
end
end EN
/-! Contexts, what an expression comes to. -/
namespace EN
open PySem PySem.Spec PyProof.Rows L2

structure Gc where
  P : Program
  w : World
  K : PySem.W.Frag
  mg : Str → Option Value
  base : Heap
structure Ctx extends Gc where
  N : List Str
  sc : Scope
  k : Nat
  sto : Str → Bool

structure Good (c : Ctx) (X : Cx) : Prop where
  prog : X.prog = c.P
  w : X.w = c.w
  K : X.K = c.K
  mg : X.mg = c.mg
  base : X.base = c.base
  N : X.N = c.N
  sc : X.env.scope = c.sc
  nd : c.N.Nodup
  room : Room c.k X.A
  calm : X.calm = true
  pass : PassesOwn (model X.prog X.w) X.A X.env X.xe
  sto : ∀ x, c.sto x = true → X.fn x = true ∨ X.env.scope.names.lookup x = some .local

def semE (X : Cx) (e : Expr) : TE := fun σ H Q => ∀ pins s, Inv X pins σ H s → wpAny (model X.prog X.w) X.A (eval e X.env) (EP X pins σ Q) X.xe s
def semT (X : Cx) (e : Expr) : TT := fun σ H Q => ∀ pins s, Inv X pins σ H s → wpAny (model X.prog X.w) X.A (isTrue e X.env (eval e X.env)) (TP X pins σ Q) X.xe s
def semA (X : Cx) (es : List Expr) : TA := fun σ H Q => ∀ pos pins s, Inv X pins σ H s → wpAny (model X.prog X.w) X.A (spliced (backTo pos (starEach es X.env))) (AP X pins σ Q) X.xe s
def semS (X : Cx) (st : Stmt) : TS := fun D σ H => ∀ pins s, Inv X pins σ H s → wpAny (model X.prog X.w) X.A (exec st X.env) (SP X pins D) X.xe s
def semSs (X : Cx) (st : List Stmt) : TS := fun D σ H => ∀ pins s, Inv X pins σ H s → wpAny (model X.prog X.w) X.A (execs st X.env) (SP X pins D) X.xe s
section
variable {X : Cx} {e : Expr} {es : List Expr} {st : Stmt} {sts : List Stmt} {σ : L2.St} {H : Hp}
theorem pe_sem : PE X e (semE X e) := ⟨fun pins s _ _ _ I h => h pins s I⟩
theorem pt_sem : PT X e (semT X e) := ⟨fun pins s _ _ _ I h => h pins s I⟩
theorem pa_sem : PA X es (semA X es) := ⟨fun pos pins s _ _ _ I h => h pos pins s I⟩
theorem ps_sem : PS X st (semS X st) := ⟨fun pins s _ _ _ I h => h pins s I⟩
theorem pss_sem : PSs X sts (semSs X sts) := ⟨fun pins s _ _ _ I h => h pins s I⟩
theorem toE {t : TE} {Q : VK} (h : PE X e t) (q : t σ H Q) : semE X e σ H Q := fun pins s I => h.run pins s σ H Q I q
theorem toT {t : TT} {Q : Bool → Hp → Prop} (h : PT X e t) (q : t σ H Q) : semT X e σ H Q := fun pins s I => h.run pins s σ H Q I q
theorem toA {t : TA} {Q : List V → Hp → Prop} (h : PA X es t) (q : t σ H Q) : semA X es σ H Q := fun pos pins s I => h.run pos pins s σ H Q I q
theorem toS {t : TS} {D : Ends} (h : PS X st t) (q : t D σ H) : semS X st D σ H := fun pins s I => h.run pins s σ H D I q
theorem toSs {t : TS} {D : Ends} (h : PSs X sts t) (q : t D σ H) : semSs X sts D σ H := fun pins s I => h.run pins s σ H D I q
end

/-- what is wanted of a value that t stands for -/
def Pst (K : PySem.W.Frag) (φ π : List Addr) (H : Hp) (μ : List M) (t : T) (μ' : List M) (Q : VK) : Prop := ∀ v π' H', Nxt K φ π H μ π' H' μ' → TOk K π' (hd φ π' μ' H') t v → Q v H'
/-- the frame: as many slots as names, what they hold -/
structure FOk (K : PySem.W.Frag) (π : List Addr) (Hd : Hp) (Γ : List (Option T)) (σ : L2.St) : Prop where
  len : Γ.length = σ.length
  at_ : GOk K π Hd Γ σ
section
variable {K : PySem.W.Frag} {φ π π1 : List Addr} {H H1 Hd : Hp} {μ μ1 : List M} {Γ : List (Option T)} {σ : L2.St}
theorem FOk.nx (h : FOk K π (hd φ π μ H) Γ σ) (n : Nxt K φ π H μ π1 H1 μ1) : FOk K π1 (hd φ π1 μ1 H1) Γ σ := ⟨h.len, h.at_.nx n⟩
theorem FOk.set (h : FOk K π Hd Γ σ) {i : Nat} {t : T} {v : V} (q : TOk K π Hd t v) : FOk K π Hd (Γ.set i (some t)) (σ.set i (some v)) := ⟨by simp [h.len], h.at_.set q h.len⟩
theorem TOk.dat {d : D} {v : V} (h : Dt K Hd d v) : TOk K π Hd (.dat d) v := h
end

/-- e comes to t, from the store μ to μ' -/
def EvJ (c : Ctx) (e : Expr) (Γ : List (Option T)) (μ : List M) (t : T) (μ' : List M) : Prop :=
  ∀ X, Good c X → ∀ φ π σ H, SOk X.K φ π H μ → FOk X.K π (hd φ π μ H) Γ σ → ∀ Q, Pst X.K φ π H μ t μ' Q → semE X e σ H Q
/-- a test -/
def TJ (c : Ctx) (e : Expr) (Γ : List (Option T)) (μ : List M) (b : Bool) (μ' : List M) : Prop :=
  ∀ X, Good c X → ∀ φ π σ H, SOk X.K φ π H μ → FOk X.K π (hd φ π μ H) Γ σ → ∀ Q : Bool → Hp → Prop, (∀ π' H', Nxt X.K φ π H μ π' H' μ' → Q b H') → semT X e σ H Q
/-- written arguments -/
def AJ (c : Ctx) (es : List Expr) (Γ : List (Option T)) (μ : List M) (ts : List T) (μ' : List M) : Prop :=
  ∀ X, Good c X → ∀ φ π σ H, SOk X.K φ π H μ → FOk X.K π (hd φ π μ H) Γ σ → ∀ Q : List V → Hp → Prop, (∀ vs π' H', Nxt X.K φ π H μ π' H' μ' → TL X.K π' (hd φ π' μ' H') ts vs → Q vs H') → semA X es σ H Q
/-- a two-place operation on values -/
def R2J (c : Ctx) (f : Value → Value → Sem Value) (t1 t2 : T) (μ : List M) (t : T) (μ' : List M) : Prop :=
  ∀ X, Good c X → ∃ r : R2, OpR X f r ∧ ∀ φ π H x y, SOk X.K φ π H μ → TOk X.K π (hd φ π μ H) t1 x → TOk X.K π (hd φ π μ H) t2 y → ∀ Q, Pst X.K φ π H μ t μ' Q → r x y H Q
/-- a call of a known value -/
def C1J (c : Ctx) (f : Value) (ts : List T) (μ : List M) (t : T) (μ' : List M) : Prop :=
  ∀ X, Good c X → ∃ r : List V → Hp → VK → Prop, CallR X f r ∧ ∀ φ π H vs, SOk X.K φ π H μ → TL X.K π (hd φ π μ H) ts vs → ∀ Q, Pst X.K φ π H μ t μ' Q → r vs H Q

section
variable {c : Ctx} {a b e : Expr} {es : List Expr} {Γ : List (Option T)} {μ μ1 μ2 μ3 : List M} {t t1 t2 t3 : T} {pos : Pos} {d : D}
/-- the value, told otherwise -/
theorem EvJ.eq {t' : T} {μ' : List M} (h : EvJ c e Γ μ t μ1) (e1 : t = t') (e2 : μ1 = μ') : EvJ c e Γ μ t' μ' := e1 ▸ e2 ▸ h
theorem ev_name {i : Nat} {x : Str} (hN : c.N[i]? = some x) (hv : Vis c.sc x) (hΓ : Γ[i]? = some (some t)) (hdb : (x == ("__debug__" : Str)) = false := by decide) (hcd : (x == ("__classdict__" : Str)) = false := by decide) : EvJ c (.Name x pos) Γ μ t μ := by
  intro X g φ π σ H s0 g0 Q q
  refine toE (pe_var (i := i) (by rw [g.N]; exact hN) (by rw [g.sc]; exact hv) hdb hcd) ?_
  obtain ⟨v, h1, h2⟩ := g0.at_ i t hΓ
  exact ⟨v, h1, q v π H (Nxt.refl s0) h2⟩
theorem ev_c {e : Expr} {v : V} (he : ∀ X, PE X e (tC v)) (h : ∀ K H, Dt K H d v) : EvJ c e Γ μ (.dat d) μ := by
  intro X g φ π σ H s0 g0 Q q
  exact toE (he X) (q v π H (Nxt.refl s0) (h _ _))
theorem ev_int {i : Int} {j : Nat} : EvJ c (.Constant (.int i) j pos) Γ μ (.dat (.int i)) μ := ev_c (fun _ => pe_int) fun _ _ => .int i
theorem ev_bl {i : Bool} {j : Nat} : EvJ c (.Constant (.bool i) j pos) Γ μ (.dat (.bl i)) μ := ev_c (fun _ => pe_bl) fun _ _ => .bl i
theorem ev_str {i : Str} {j : Nat} : EvJ c (.Constant (.str i) j pos) Γ μ (.dat (.str i)) μ := ev_c (fun _ => pe_str) fun _ _ => .str i
theorem ev_non {j : Nat} : EvJ c (.Constant .none j pos) Γ μ (.dat .non) μ := ev_c (fun _ => pe_non) fun _ _ => .non
/-- a constant of the module -/
theorem ev_glob {x : Str} {u : Value} {v : V} (hg : c.sc.names.lookup x = some .globalImplicit) (hm : c.mg x = some u) (r : RelV v u) (h : ∀ H, Dt c.K H d v) (hdb : (x == ("__debug__" : Str)) = false := by decide) : EvJ c (.Name x pos) Γ μ (.dat d) μ := by
  intro X g φ π σ H s0 g0 Q q
  refine toE (pe_glob (show X.env.scope.names.lookup x = _ by rw [g.sc]; exact hg) (by rw [g.mg]; exact hm) r hdb) ?_
  exact q v π H (Nxt.refl s0) (by rw [g.K]; exact h _)
theorem ev_bin {op : Operator} (ha : EvJ c a Γ μ t1 μ1) (hb : EvJ c b Γ μ1 t2 μ2) (ho : R2J c (binaryOp op) t1 t2 μ2 t3 μ3) : EvJ c (.BinOp a op b pos) Γ μ t3 μ3 := by
  intro X g φ π σ H s0 g0 Q q
  obtain ⟨r, hr, ok⟩ := ho X g
  refine toE (pe_op hr pe_sem pe_sem) ?_
  refine ha X g φ π σ H s0 g0 _ fun x π1 H1 n1 k1 => ?_
  refine hb X g φ π1 σ H1 n1.ok (g0.nx n1) _ fun y π2 H2 n2 k2 => ?_
  exact ok φ π2 H2 x y n2.ok (k1.nx n2) k2 _ fun v π3 H3 n3 k3 => q v π3 H3 ((n1.trans n2).trans n3) k3
theorem ev_cmp {op : CmpOp} (ha : EvJ c a Γ μ t1 μ1) (hb : EvJ c b Γ μ1 t2 μ2) (ho : R2J c (compareOp op) t1 t2 μ2 t3 μ3) (hm : behindInMarks op b = false := by rfl) : EvJ c (.Compare a [op] [b] pos) Γ μ t3 μ3 := by
  intro X g φ π σ H s0 g0 Q q
  obtain ⟨r, hr, ok⟩ := ho X g
  refine toE (pe_cmpR hr pe_sem pe_sem hm) ?_
  refine ha X g φ π σ H s0 g0 _ fun x π1 H1 n1 k1 => ?_
  refine hb X g φ π1 σ H1 n1.ok (g0.nx n1) _ fun y π2 H2 n2 k2 => ?_
  exact ok φ π2 H2 x y n2.ok (k1.nx n2) k2 _ fun v π3 H3 n3 k3 => q v π3 H3 ((n1.trans n2).trans n3) k3
theorem tj_cmp {op : CmpOp} {r : Bool} (ha : EvJ c a Γ μ t1 μ1) (hb : EvJ c b Γ μ1 t2 μ2) (ho : R2J c (compareOp op) t1 t2 μ2 (.dat (.bl r)) μ3) (hm : behindInMarks op b = false := by rfl) : TJ c (.Compare a [op] [b] pos) Γ μ r μ3 := by
  intro X g φ π σ H s0 g0 Q q
  obtain ⟨rr, hr, ok⟩ := ho X g
  refine toT (pt_cmpR hr pe_sem pe_sem hm) ?_
  refine ha X g φ π σ H s0 g0 _ fun x π1 H1 n1 k1 => ?_
  refine hb X g φ π1 σ H1 n1.ok (g0.nx n1) _ fun y π2 H2 n2 k2 => ?_
  refine ok φ π2 H2 x y n2.ok (k1.nx n2) k2 _ fun v π3 H3 n3 k3 => ?_
  cases k3
  exact ⟨_, rfl, q π3 H3 ((n1.trans n2).trans n3)⟩
/-- a op1 b op2 c -/
theorem ev_chain {op op' : CmpOp} {cc : Expr} {r r' : Bool} (ha : EvJ c a Γ μ t1 μ) (hb : EvJ c b Γ μ t2 μ) (ho : R2J c (compareOp op) t1 t2 μ (.dat (.bl r)) μ)
    (hc : EvJ c cc Γ μ t3 μ) (h2 : R2J c (compareOp op') t2 t3 μ (.dat (.bl r')) μ) (hm : lastMarks [op, op'] [b, cc] = false := by rfl) :
    EvJ c (.Compare a [op, op'] [b, cc] pos) Γ μ (.dat (.bl (r && r'))) μ := by
  intro X g φ π σ H s0 g0 Q q
  obtain ⟨rr, hr, ok⟩ := ho X g
  obtain ⟨rr2, hr2, ok2⟩ := h2 X g
  refine toE (pe_chain hr hr2 pe_sem pe_sem pe_sem hm) ?_
  refine ha X g φ π σ H s0 g0 _ fun x π1 H1 n1 k1 => ?_
  refine hb X g φ π1 σ H1 n1.ok (g0.nx n1) _ fun y π2 H2 n2 k2 => ?_
  refine ok φ π2 H2 x y n2.ok (k1.nx n2) k2 _ fun v π3 H3 n3 k3 => ?_
  cases k3
  refine ⟨_, rfl, ?_⟩
  cases r with
  | true =>
    rw [if_pos rfl]
    refine hc X g φ π3 σ H3 n3.ok (((g0.nx n1).nx n2).nx n3) _ fun z π4 H4 n4 k4 => ?_
    exact ok2 φ π4 H4 y z n4.ok ((k2.nx n3).nx n4) k4 _ fun v π5 H5 n5 k5 => q v π5 H5 ((((n1.trans n2).trans n3).trans n4).trans n5) (by simpa using k5)
  | false =>
    rw [if_neg Bool.false_ne_true]
    exact q _ π3 H3 ((n1.trans n2).trans n3) (.bl false)
/-! ### tests -/
theorem tj_val {r : Bool} (he : EvJ c e Γ μ (.dat (.bl r)) μ1) (hp : ∀ env whole, isTrue e env whole = (do let v ← whole; standAt e.pos; holding [v] (truthy v)) := by intro _ _; rfl) : TJ c e Γ μ r μ1 := by
  intro X g φ π σ H s0 g0 Q q
  refine toT (pt_val pe_sem (hp X.env)) ?_
  refine he X g φ π σ H s0 g0 _ fun x π1 H1 n1 k1 => ?_
  cases k1
  exact ⟨_, rfl, q π1 H1 n1⟩
theorem tj_chain {op op' : CmpOp} {cc : Expr} {r r' : Bool} (ha : EvJ c a Γ μ t1 μ) (hb : EvJ c b Γ μ t2 μ) (ho : R2J c (compareOp op) t1 t2 μ (.dat (.bl r)) μ)
    (hc : EvJ c cc Γ μ t3 μ) (h2 : R2J c (compareOp op') t2 t3 μ (.dat (.bl r')) μ) (hm : lastMarks [op, op'] [b, cc] = false := by rfl) :
    TJ c (.Compare a [op, op'] [b, cc] pos) Γ μ (r && r') μ := by
  intro X g φ π σ H s0 g0 Q q
  obtain ⟨rr, hr, ok⟩ := ho X g
  obtain ⟨rr2, hr2, ok2⟩ := h2 X g
  refine toT (pt_chain hr hr2 pe_sem pe_sem pe_sem hm) ?_
  refine ha X g φ π σ H s0 g0 _ fun x π1 H1 n1 k1 => ?_
  refine hb X g φ π1 σ H1 n1.ok (g0.nx n1) _ fun y π2 H2 n2 k2 => ?_
  refine ok φ π2 H2 x y n2.ok (k1.nx n2) k2 _ fun v π3 H3 n3 k3 => ?_
  cases k3
  refine ⟨_, rfl, ?_⟩
  cases r with
  | true =>
    rw [if_pos rfl]
    refine hc X g φ π3 σ H3 n3.ok (((g0.nx n1).nx n2).nx n3) _ fun z π4 H4 n4 k4 => ?_
    refine ok2 φ π4 H4 y z n4.ok ((k2.nx n3).nx n4) k4 _ fun v π5 H5 n5 k5 => ?_
    cases k5
    exact ⟨_, rfl, q π5 H5 ((((n1.trans n2).trans n3).trans n4).trans n5)⟩
  | false =>
    rw [if_neg Bool.false_ne_true]
    exact ⟨_, rfl, q π3 H3 ((n1.trans n2).trans n3)⟩
theorem tj_not {r : Bool} (he : TJ c a Γ μ r μ1) : TJ c (.UnaryOp .Not a pos) Γ μ (!r) μ1 := by
  intro X g φ π σ H s0 g0 Q q
  refine toT (pt_not pt_sem) ?_
  exact he X g φ π σ H s0 g0 _ fun π1 H1 n1 => q π1 H1 n1
/-- a chain of and, or: whatever the whole is -/
def WJ (c : Ctx) (e : Expr) (Γ : List (Option T)) (μ : List M) (b : Bool) (μ' : List M) : Prop :=
  ∀ X, Good c X → ∃ t, PW X e t ∧ ∀ φ π σ H, SOk X.K φ π H μ → FOk X.K π (hd φ π μ H) Γ σ → ∀ Q : Bool → Hp → Prop, (∀ π' H', Nxt X.K φ π H μ π' H' μ' → Q b H') → t σ H Q
theorem WJ.tj {r : Bool} (h : WJ c e Γ μ r μ1) : TJ c e Γ μ r μ1 := by
  intro X g φ π σ H s0 g0 Q q
  obtain ⟨t, hw, ok⟩ := h X g
  exact toT hw.pt (ok φ π σ H s0 g0 Q q)
theorem wj_and1 {r : Bool} (h : TJ c a Γ μ r μ1) : WJ c (.BoolOp .And [a] pos) Γ μ r μ1 := fun X g => ⟨_, pw_and1 pt_sem, fun φ π σ H s0 g0 Q q => h X g φ π σ H s0 g0 Q q⟩
theorem wj_or1 {r : Bool} (h : TJ c a Γ μ r μ1) : WJ c (.BoolOp .Or [a] pos) Γ μ r μ1 := fun X g => ⟨_, pw_or1 pt_sem, fun φ π σ H s0 g0 Q q => h X g φ π σ H s0 g0 Q q⟩
def anyW (X : Cx) (e : Expr) : TT := fun σ H Q => ∀ whole pins s, Inv X pins σ H s → wpAny (model X.prog X.w) X.A (isTrue e X.env whole) (TP X pins σ Q) X.xe s
theorem pw_any {X : Cx} : PW X e (anyW X e) := ⟨fun whole pins s _ _ _ I h => h whole pins s I⟩
theorem wj_and {r r' : Bool} {rest : List Expr} (h : TJ c a Γ μ r μ) (h' : r = true → WJ c (.BoolOp .And (b :: rest) pos) Γ μ r' μ) : WJ c (.BoolOp .And (a :: b :: rest) pos) Γ μ (r && r') μ := fun X g => by
  refine ⟨_, pw_and pt_sem pw_any, fun φ π σ H s0 g0 Q q => ?_⟩
  refine h X g φ π σ H s0 g0 _ fun π1 H1 n1 => ?_
  cases r with
  | true =>
    rw [if_pos rfl]
    obtain ⟨t, hw, ok⟩ := h' rfl X g
    exact fun whole pins s I => hw.run whole pins s σ H1 Q I (ok φ π1 σ H1 n1.ok (g0.nx n1) Q fun π2 H2 n2 => q π2 H2 (n1.trans n2))
  | false =>
    rw [if_neg Bool.false_ne_true]
    exact q π1 H1 n1
theorem wj_or {r r' : Bool} {rest : List Expr} (h : TJ c a Γ μ r μ) (h' : r = false → WJ c (.BoolOp .Or (b :: rest) pos) Γ μ r' μ) : WJ c (.BoolOp .Or (a :: b :: rest) pos) Γ μ (r || r') μ := fun X g => by
  refine ⟨_, pw_or pt_sem pw_any, fun φ π σ H s0 g0 Q q => ?_⟩
  refine h X g φ π σ H s0 g0 _ fun π1 H1 n1 => ?_
  cases r with
  | false =>
    rw [if_neg Bool.false_ne_true]
    obtain ⟨t, hw, ok⟩ := h' rfl X g
    exact fun whole pins s I => hw.run whole pins s σ H1 Q I (ok φ π1 σ H1 n1.ok (g0.nx n1) Q fun π2 H2 n2 => q π2 H2 (n1.trans n2))
  | true =>
    rw [if_pos rfl]
    exact q π1 H1 n1
/-! .. as values -/
theorem ev_bool1 {op : BoolOp} (h : EvJ c a Γ μ t μ1) : EvJ c (.BoolOp op [a] pos) Γ μ t μ1 := by
  intro X g φ π σ H s0 g0 Q q
  exact toE (pe_one pe_sem) (h X g φ π σ H s0 g0 Q q)
theorem ev_and {r r' : Bool} {rest : List Expr} (h : EvJ c a Γ μ (.dat (.bl r)) μ) (h' : r = true → EvJ c (.BoolOp .And (b :: rest) pos) Γ μ (.dat (.bl r')) μ) : EvJ c (.BoolOp .And (a :: b :: rest) pos) Γ μ (.dat (.bl (r && r'))) μ := by
  intro X g φ π σ H s0 g0 Q q
  refine toE (pe_and pe_sem pe_sem) ?_
  refine h X g φ π σ H s0 g0 _ fun v π1 H1 n1 k1 => ?_
  cases k1
  refine ⟨_, rfl, ?_⟩
  cases r with
  | true =>
    rw [if_pos rfl]
    exact h' rfl X g φ π1 σ H1 n1.ok (g0.nx n1) Q fun v π2 H2 n2 k2 => q v π2 H2 (n1.trans n2) k2
  | false =>
    rw [if_neg Bool.false_ne_true]
    exact q _ π1 H1 n1 (.bl false)
theorem ev_or {r r' : Bool} {rest : List Expr} (h : EvJ c a Γ μ (.dat (.bl r)) μ) (h' : r = false → EvJ c (.BoolOp .Or (b :: rest) pos) Γ μ (.dat (.bl r')) μ) : EvJ c (.BoolOp .Or (a :: b :: rest) pos) Γ μ (.dat (.bl (r || r'))) μ := by
  intro X g φ π σ H s0 g0 Q q
  refine toE (pe_or pe_sem pe_sem) ?_
  refine h X g φ π σ H s0 g0 _ fun v π1 H1 n1 k1 => ?_
  cases k1
  refine ⟨_, rfl, ?_⟩
  cases r with
  | false =>
    rw [if_neg Bool.false_ne_true]
    exact h' rfl X g φ π1 σ H1 n1.ok (g0.nx n1) Q fun v π2 H2 n2 k2 => q v π2 H2 (n1.trans n2) k2
  | true =>
    rw [if_pos rfl]
    exact q _ π1 H1 n1 (.bl true)
theorem ev_not {r : Bool} (h : EvJ c a Γ μ (.dat (.bl r)) μ1) : EvJ c (.UnaryOp .Not a pos) Γ μ (.dat (.bl (!r))) μ1 := by
  intro X g φ π σ H s0 g0 Q q
  refine toE (pe_not pe_sem) ?_
  refine h X g φ π σ H s0 g0 _ fun v π1 H1 n1 k1 => ?_
  cases k1
  exact ⟨_, rfl, q _ π1 H1 n1 (.bl _)⟩
theorem ev_if {r : Bool} {x : Expr} (h : TJ c x Γ μ r μ1) (h1 : r = true → EvJ c a Γ μ1 t μ2) (h2 : r = false → EvJ c b Γ μ1 t μ2) : EvJ c (.IfExp x a b pos) Γ μ t μ2 := by
  intro X g φ π σ H s0 g0 Q q
  refine toE (pe_ifExp pt_sem pe_sem pe_sem) ?_
  refine h X g φ π σ H s0 g0 _ fun π1 H1 n1 => ?_
  cases r with
  | true =>
    rw [if_pos rfl]
    exact h1 rfl X g φ π1 σ H1 n1.ok (g0.nx n1) Q fun v π2 H2 n2 k2 => q v π2 H2 (n1.trans n2) k2
  | false =>
    rw [if_neg Bool.false_ne_true]
    exact h2 rfl X g φ π1 σ H1 n1.ok (g0.nx n1) Q fun v π2 H2 n2 k2 => q v π2 H2 (n1.trans n2) k2
/-! ### arguments, displays -/
def isStar : Expr → Bool
  | .Starred _ _ => true
  | _ => false
theorem star_cons (h : isStar e = false) (env : Env) : starEach (e :: es) env = (false, eval e env) :: starEach es env := by
  cases e <;> first | rfl | cases h
theorem no_star (h : es.all (fun e => !isStar e) = true) (env : Env) (pos : Pos) : (backTo pos (starEach es env)).any (·.1) = false := by
  induction es with
  | nil => rfl
  | cons e r ih =>
    simp only [List.all_cons, Bool.and_eq_true, Bool.not_eq_true'] at h
    rw [star_cons h.1]
    have := ih h.2
    simp only [backTo, List.map_cons, List.any_cons] at this ⊢
    rw [this]; rfl
theorem aj_nil : AJ c [] Γ μ [] μ := by
  intro X g φ π σ H s0 g0 Q q
  exact toA pa_nil (q [] π H (Nxt.refl s0) .nil)
theorem aj_cons {ts : List T} (h : EvJ c e Γ μ t μ1) (h' : AJ c es Γ μ1 ts μ2) (hs : isStar e = false := by rfl) : AJ c (e :: es) Γ μ (t :: ts) μ2 := by
  intro X g φ π σ H s0 g0 Q q
  refine toA (pa_cons pe_sem pa_sem (star_cons hs _)) ?_
  refine h X g φ π σ H s0 g0 _ fun v π1 H1 n1 k1 => ?_
  exact h' X g φ π1 σ H1 n1.ok (g0.nx n1) _ fun vs π2 H2 n2 k2 => q _ π2 H2 (n1.trans n2) (.cons (k1.nx n2) k2)
def dats (ds : List D) : List T := ds.map T.dat
theorem TL.len {K : PySem.W.Frag} {π : List Addr} {Hd : Hp} {ts : List T} {vs : List V} (h : TL K π Hd ts vs) : ts.length = vs.length := by
  induction h with
  | nil => rfl
  | cons _ _ ih => simp [ih]
theorem TL.dt {K : PySem.W.Frag} {π : List Addr} {Hd : Hp} : ∀ {ds : List D} {vs : List V}, TL K π Hd (dats ds) vs → DtL K Hd ds vs
  | [], _, h => by cases h; exact .nil
  | d :: ds, _, h => by
    cases h with
    | cons q t => exact .cons q (TL.dt t)
theorem DtL.tl {K : PySem.W.Frag} {π : List Addr} {Hd : Hp} {ds : List D} {vs : List V} (h : DtL K Hd ds vs) : TL K π Hd (dats ds) vs := by
  cases h with
  | nil => exact .nil
  | cons q t => exact .cons q t.tl
/-- (a, b, ..) -/
theorem ev_tup {x1 : Nat} {ds : List D} {ts : List T} (h : AJ c es Γ μ ts μ1) (hd' : ts = dats ds) (hl : ds.length ≤ 1000000 := by decide) : EvJ c (.Tuple es x1 pos) Γ μ (.dat (.tup ds)) μ1 := by
  subst hd'
  intro X g φ π σ H s0 g0 Q q
  refine toE (pe_tup pa_sem) ?_
  refine h X g φ π σ H s0 g0 _ fun vs π1 H1 n1 k1 => ?_
  have hl' : vs.length ≤ sizeLine := by
    have := k1.len; simp [dats] at this; rw [← this]; exact Nat.le_trans hl (by decide)
  refine ⟨hl', fun p np => ?_⟩
  obtain ⟨n2, at2⟩ := n1.ok.newData (o := .tup vs) np
  exact q _ π1 _ (n1.trans n2) (.tup (SqT.of at2) (DtL.mono n2.le k1.dt))
theorem ev_lst {ds : List D} {ts : List T} (h : AJ c es Γ μ ts μ1) (hd' : ts = dats ds) (hl : ds.length ≤ 1000000 := by decide) : EvJ c (.List es pos) Γ μ (.dat (.lst ds)) μ1 := by
  subst hd'
  intro X g φ π σ H s0 g0 Q q
  refine toE (pe_lst pa_sem) ?_
  refine h X g φ π σ H s0 g0 _ fun vs π1 H1 n1 k1 => ?_
  have hl' : vs.length ≤ sizeLine := by
    have := k1.len; simp [dats] at this; rw [← this]; exact Nat.le_trans hl (by decide)
  refine ⟨hl', fun p np => ?_⟩
  obtain ⟨n2, at2⟩ := n1.ok.newData (o := .lst vs) np
  exact q _ π1 _ (n1.trans n2) (.lst (SqL.of at2) (DtL.mono n2.le k1.dt))
end
end EN
/-! Operations on values, subscripts, calls of what is built in. -/
namespace EN
open PySem PySem.Spec PyProof.Rows L2

abbrev T.int (i : Int) : T := .dat (.int i)
abbrev T.bl (b : Bool) : T := .dat (.bl b)
abbrev T.str (x : Str) : T := .dat (.str x)
abbrev T.non : T := .dat .non

section
variable {c : Ctx} {a b e : Expr} {es : List Expr} {Γ : List (Option T)} {μ μ1 μ2 μ3 : List M} {t t1 t2 t3 : T} {pos : Pos} {d : D} {f : Value → Value → Sem Value}
theorem r2_I0 {g : Int → Int → V} {i j : Int} (h : ∀ X, Good c X → OpR X f (rI0 g)) (hd' : ∀ H, Dt c.K H d (g i j)) : R2J c f (.int i) (.int j) μ (.dat d) μ := fun X gX =>
  ⟨_, h X gX, fun φ π H x y s0 h1 h2 Q q => by cases h1; cases h2; exact ⟨i, j, rfl, rfl, q _ π H (Nxt.refl s0) (by rw [gX.K]; exact hd' _)⟩⟩
theorem r2_I {C : Int → Int → Prop} {g : Int → Int → V} {i j : Int} (h : ∀ X, Good c X → OpR X f (rI C g)) (hc : C i j) (hd' : ∀ H, Dt c.K H d (g i j)) : R2J c f (.int i) (.int j) μ (.dat d) μ := fun X gX =>
  ⟨_, h X gX, fun φ π H x y s0 h1 h2 Q q => by cases h1; cases h2; exact ⟨i, j, rfl, rfl, hc, q _ π H (Nxt.refl s0) (by rw [gX.K]; exact hd' _)⟩⟩
theorem o_addI {i j : Int} : R2J c (binaryOp .Add) (.int i) (.int j) μ (.int (i + j)) μ := r2_I0 (fun _ _ => op_add) fun _ => .int _
theorem o_subI {i j : Int} : R2J c (binaryOp .Sub) (.int i) (.int j) μ (.int (i - j)) μ := r2_I0 (fun _ _ => op_sub) fun _ => .int _
theorem o_mulI {i j : Int} (h : CMul i j) : R2J c (binaryOp .Mult) (.int i) (.int j) μ (.int (i * j)) μ := r2_I (fun _ _ => op_mul) h fun _ => .int _
theorem o_divI {i j : Int} (h : CDiv i j) : R2J c (binaryOp .FloorDiv) (.int i) (.int j) μ (.int (i / j)) μ := r2_I (fun _ _ => op_fdiv) h fun _ => .int _
theorem o_modI {i j : Int} (h : 0 < j) : R2J c (binaryOp .Mod) (.int i) (.int j) μ (.int (i % j)) μ := r2_I (fun _ _ => op_mod) h fun _ => .int _
theorem o_powI {i j : Int} (h : CPow i j) : R2J c (binaryOp .Pow) (.int i) (.int j) μ (.int (i ^ j.toNat)) μ := r2_I (fun _ _ => op_pow) h fun _ => .int _
theorem o_ltI {i j : Int} : R2J c (compareOp .Lt) (.int i) (.int j) μ (.bl (decide (i < j))) μ := r2_I0 (fun _ _ => op_lt) fun _ => .bl _
theorem o_leI {i j : Int} : R2J c (compareOp .LtE) (.int i) (.int j) μ (.bl (decide (i ≤ j))) μ := r2_I0 (fun _ _ => op_le) fun _ => .bl _
theorem o_gtI {i j : Int} : R2J c (compareOp .Gt) (.int i) (.int j) μ (.bl (decide (j < i))) μ := r2_I0 (fun _ _ => op_gt) fun _ => .bl _
theorem o_geI {i j : Int} : R2J c (compareOp .GtE) (.int i) (.int j) μ (.bl (decide (j ≤ i))) μ := r2_I0 (fun _ _ => op_ge) fun _ => .bl _
/-! == of scalars -/
def scD : D → D → Bool
  | .non, .non => true | .non, .int _ => true | .int _, .non => true | .non, .bl _ => true | .bl _, .non => true | .non, .str _ => true | .str _, .non => true
  | .int _, .int _ => true | .bl _, .bl _ => true | .str _, .str _ => true
  | .int _, .str _ => true | .str _, .int _ => true | .bl _, .str _ => true | .str _, .bl _ => true
  | _, _ => false
def eqS : D → D → Bool
  | .non, .non => true
  | .int i, .int j => decide (i = j)
  | .bl i, .bl j => decide (i = j)
  | .str i, .str j => decide (i = j)
  | _, _ => false
theorem sc_ok {K : PySem.W.Frag} {H : Hp} {d e : D} {x y : V} (h : scD d e = true) (h1 : Dt K H d x) (h2 : Dt K H e y) : scal x y = true ∧ decide (x = y) = eqS d e := by
  cases h1 <;> cases h2 <;> first | (cases h; done) | (refine ⟨rfl, ?_⟩; simp [eqS])
theorem o_eqS {d e : D} (h : scD d e = true) : R2J c (compareOp .Eq) (.dat d) (.dat e) μ (.bl (eqS d e)) μ := fun X gX =>
  ⟨_, op_eq, fun φ π H x y s0 h1 h2 Q q => by
    obtain ⟨q1, q2⟩ := sc_ok h h1 h2
    exact ⟨q1, q _ π H (Nxt.refl s0) (by rw [q2]; exact .bl _)⟩⟩
theorem o_neS {d e : D} (h : scD d e = true) : R2J c (compareOp .NotEq) (.dat d) (.dat e) μ (.bl (!eqS d e)) μ := fun X gX =>
  ⟨_, op_ne, fun φ π H x y s0 h1 h2 Q q => by
    obtain ⟨q1, q2⟩ := sc_ok h h1 h2
    exact ⟨q1, q _ π H (Nxt.refl s0) (by rw [q2]; exact .bl _)⟩⟩
/-! == of data -/
mutual
def D.p : D → PyData
  | .non => .none
  | .bl b => .bool b
  | .int i => .int i
  | .str x => .str x
  | .lst xs => .list (D.pL xs)
  | .tup xs => .tuple (D.pL xs)
  | .dic _ => .dict []
  | .ins _ _ => .dict []
def D.pL : List D → List PyData
  | [] => []
  | x :: xs => D.p x :: D.pL xs
end
theorem D.pL_map : ∀ ds : List D, D.pL ds = ds.map D.p
  | [] => rfl
  | _ :: r => by simp [D.pL, D.pL_map r]
mutual
theorem dp_of {K : PySem.W.Frag} {H : Hp} : ∀ {d : D} {v : V}, Dt K H d v → SeqAt.shaped (D.p d) = true → Dp K H v (D.p d)
  | _, _, .non, _ => .non
  | _, _, .bl b, _ => .bl b
  | _, _, .int b, _ => .int b
  | _, _, .str b, _ => .str b
  | _, _, .lst (ds := ds) s l, h => .lst s (dpL_of l (by
      simp only [D.p, SeqAt.shaped, PyData.canLay0, PyData.depth, Bool.and_eq_true, decide_eq_true_eq] at h
      exact ⟨h.1, by omega⟩))
  | _, _, .tup (ds := ds) s l, h => .tup s (dpL_of l (by
      simp only [D.p, SeqAt.shaped, PyData.canLay0, PyData.depth, Bool.and_eq_true, decide_eq_true_eq] at h
      exact ⟨h.1, by omega⟩))
  | _, _, .dic _ _, h => by simp [D.p, SeqAt.shaped, PyData.canLay0] at h
  | _, _, .ins _ _, h => by simp [D.p, SeqAt.shaped, PyData.canLay0] at h
theorem dpL_of {K : PySem.W.Frag} {H : Hp} : ∀ {d : List D} {v : List V}, DtL K H d v → (PyData.canLayAll0 (D.pL d) = true ∧ PyData.depthAll (D.pL d) ≤ 64) → DpAll K H v (D.pL d)
  | _, _, .nil, _ => .nil
  | _, _, .cons q t, h => by
    simp only [D.pL, PyData.canLayAll0, PyData.depthAll, Bool.and_eq_true] at h
    exact .cons (dp_of q (by simp only [SeqAt.shaped, Bool.and_eq_true, decide_eq_true_eq]; exact ⟨h.1.1, by omega⟩)) (dpL_of t ⟨h.1.2, by omega⟩)
end
def shD (d : D) : Prop := SeqAt.shaped (D.p d) = true
theorem o_eqD {d e : D} (h : shD d) (h' : shD e) : R2J c (compareOp .Eq) (.dat d) (.dat e) μ (.bl (PyData.eqv d.p e.p)) μ := fun X gX =>
  ⟨_, op_eqD gX.room.units, fun φ π H x y s0 h1 h2 Q q => ⟨d.p, e.p, dp_of (Dt.mono (hd_le _ _ _ _) h1) h, dp_of (Dt.mono (hd_le _ _ _ _) h2) h', h, h', q _ π H (Nxt.refl s0) (.bl _)⟩⟩
theorem o_neD {d e : D} (h : shD d) (h' : shD e) : R2J c (compareOp .NotEq) (.dat d) (.dat e) μ (.bl (!PyData.eqv d.p e.p)) μ := fun X gX =>
  ⟨_, op_neD gX.room.units, fun φ π H x y s0 h1 h2 Q q => ⟨d.p, e.p, dp_of (Dt.mono (hd_le _ _ _ _) h1) h, dp_of (Dt.mono (hd_le _ _ _ _) h2) h', h, h', q _ π H (Nxt.refl s0) (.bl _)⟩⟩
/-! texts -/
theorem o_addS {x y : Str} (h : x.length + y.length ≤ sizeLine) : R2J c (binaryOp .Add) (.str x) (.str y) μ (.str (x ++ y)) μ := fun X gX =>
  ⟨_, op_add_str, fun φ π H v w s0 h1 h2 Q q => by cases h1; cases h2; exact ⟨x, y, rfl, rfl, h, q _ π H (Nxt.refl s0) (.str _)⟩⟩
theorem o_inSign {k : Nat} {z : Str} : R2J c (compareOp .In) (.str ⟨#[k]⟩) (.str z) μ (.bl (decide (k ∈ z.cps.toList))) μ := fun X gX =>
  ⟨_, op_in_sign, fun φ π H v w s0 h1 h2 Q q => by cases h1; cases h2; exact ⟨k, z, rfl, rfl, q _ π H (Nxt.refl s0) (.bl _)⟩⟩
theorem o_notInSign {k : Nat} {z : Str} : R2J c (compareOp .NotIn) (.str ⟨#[k]⟩) (.str z) μ (.bl (!decide (k ∈ z.cps.toList))) μ := fun X gX =>
  ⟨_, op_notIn_sign, fun φ π H v w s0 h1 h2 Q q => by cases h1; cases h2; exact ⟨k, z, rfl, rfl, q _ π H (Nxt.refl s0) (.bl _)⟩⟩
theorem o_ltS {x y : Str} : R2J c (compareOp .Lt) (.str x) (.str y) μ (.bl (decide (x.cps.toList < y.cps.toList))) μ := fun X gX =>
  ⟨_, op_lt_str, fun φ π H v w s0 h1 h2 Q q => by cases h1; cases h2; exact ⟨x, y, rfl, rfl, q _ π H (Nxt.refl s0) (.bl _)⟩⟩
theorem o_leS {x y : Str} : R2J c (compareOp .LtE) (.str x) (.str y) μ (.bl (!decide (y.cps.toList < x.cps.toList))) μ := fun X gX =>
  ⟨_, op_le_str, fun φ π H v w s0 h1 h2 Q q => by cases h1; cases h2; exact ⟨x, y, rfl, rfl, q _ π H (Nxt.refl s0) (.bl _)⟩⟩
/-! x in a list, a tuple of flat things -/
def flD : D → Bool
  | .non => true | .bl _ => true | .int _ => true | .str _ => true
  | _ => false
/-- == of flat data, as Python has it -/
def eqF : D → D → Bool
  | .non, .non => true
  | .bl a, .bl b => a == b
  | .bl a, .int b => (if a then 1 else 0) == b
  | .int a, .bl b => a == (if b then 1 else 0)
  | .int a, .int b => a == b
  | .str a, .str b => a == b
  | _, _ => false
def inF (x : D) (xs : List D) : Bool := xs.any fun y => eqF y x
theorem fl_ok {K : PySem.W.Frag} {H : Hp} {d : D} {x : V} (h : flD d = true) (h1 : Dt K H d x) : flatV x = true := by
  cases h1 <;> first | rfl | cases h
theorem eqF_ok {K : PySem.W.Frag} {H : Hp} {d e : D} {x y : V} (h : flD d = true) (h' : flD e = true) (h1 : Dt K H d x) (h2 : Dt K H e y) : eqV x y = eqF d e := by
  cases h1 <;> first | (cases h; done) | (cases h2 <;> first | (cases h'; done) | rfl)
theorem flL_ok {K : PySem.W.Frag} {H : Hp} {d : D} {x : V} (h : flD d = true) (h1 : Dt K H d x) : ∀ {ds : List D} {vs : List V}, DtL K H ds vs → ds.all flD = true → vs.all flatV = true ∧ inV x vs = inF d ds
  | _, _, .nil, _ => ⟨rfl, rfl⟩
  | _, _, .cons q t, hh => by
    simp only [List.all_cons, Bool.and_eq_true] at hh
    obtain ⟨i1, i2⟩ := flL_ok h h1 t hh.2
    unfold inV inF at i2 ⊢
    simp only [List.all_cons, List.any_cons, i1, i2, fl_ok hh.1 q, eqF_ok hh.1 h q h1, Bool.and_self, and_self]
theorem o_inT {d : D} {ds : List D} (h : flD d = true) (h' : ds.all flD = true) : R2J c (compareOp .In) (.dat d) (.dat (.tup ds)) μ (.bl (inF d ds)) μ := fun X gX =>
  ⟨_, op_in_seq, fun φ π H v w s0 h1 h2 Q q => by
    cases h2 with
    | tup s l =>
      obtain ⟨q1, q2⟩ := flL_ok h h1 l h'
      refine ⟨_, _, rfl, .inr ((hd_le _ _ _ _ : Ex _ _).sqT s), fl_ok h h1, q1, ?_⟩
      rw [if_neg Bool.false_ne_true, q2]
      exact q _ π H (Nxt.refl s0) (.bl _)⟩
theorem o_notInT {d : D} {ds : List D} (h : flD d = true) (h' : ds.all flD = true) : R2J c (compareOp .NotIn) (.dat d) (.dat (.tup ds)) μ (.bl (!inF d ds)) μ := fun X gX =>
  ⟨_, op_notIn_seq, fun φ π H v w s0 h1 h2 Q q => by
    cases h2 with
    | tup s l =>
      obtain ⟨q1, q2⟩ := flL_ok h h1 l h'
      refine ⟨_, _, rfl, .inr ((hd_le _ _ _ _ : Ex _ _).sqT s), fl_ok h h1, q1, ?_⟩
      rw [if_pos rfl, q2]
      exact q _ π H (Nxt.refl s0) (.bl _)⟩
theorem o_inL {d : D} {ds : List D} (h : flD d = true) (h' : ds.all flD = true) : R2J c (compareOp .In) (.dat d) (.dat (.lst ds)) μ (.bl (inF d ds)) μ := fun X gX =>
  ⟨_, op_in_seq, fun φ π H v w s0 h1 h2 Q q => by
    cases h2 with
    | lst s l =>
      obtain ⟨q1, q2⟩ := flL_ok h h1 l h'
      refine ⟨_, _, rfl, .inl ((hd_le _ _ _ _ : Ex _ _).sqL s), fl_ok h h1, q1, ?_⟩
      rw [if_neg Bool.false_ne_true, q2]
      exact q _ π H (Nxt.refl s0) (.bl _)⟩
theorem o_notInL {d : D} {ds : List D} (h : flD d = true) (h' : ds.all flD = true) : R2J c (compareOp .NotIn) (.dat d) (.dat (.lst ds)) μ (.bl (!inF d ds)) μ := fun X gX =>
  ⟨_, op_notIn_seq, fun φ π H v w s0 h1 h2 Q q => by
    cases h2 with
    | lst s l =>
      obtain ⟨q1, q2⟩ := flL_ok h h1 l h'
      refine ⟨_, _, rfl, .inl ((hd_le _ _ _ _ : Ex _ _).sqL s), fl_ok h h1, q1, ?_⟩
      rw [if_pos rfl, q2]
      exact q _ π H (Nxt.refl s0) (.bl _)⟩
/-! is None -/
def isN : D → Bool
  | .non => true
  | _ => false
theorem isN_ok {K : PySem.W.Frag} {H : Hp} {d : D} {x : V} (h1 : Dt K H d x) : decide (x = .non) = isN d := by cases h1 <;> simp [isN]
theorem o_isN {d : D} : R2J c (compareOp .Is) (.dat d) .non μ (.bl (isN d)) μ := fun X gX =>
  ⟨_, op_isN, fun φ π H v w s0 h1 h2 Q q => by cases h2; exact ⟨rfl, q _ π H (Nxt.refl s0) (by rw [isN_ok h1]; exact .bl _)⟩⟩
theorem o_notN {d : D} : R2J c (compareOp .IsNot) (.dat d) .non μ (.bl (!isN d)) μ := fun X gX =>
  ⟨_, op_notN, fun φ π H v w s0 h1 h2 Q q => by cases h2; exact ⟨rfl, q _ π H (Nxt.refl s0) (by rw [isN_ok h1]; exact .bl _)⟩⟩
end

/-! ### list + list, whoever reads them -/
def rCatR (K : PySem.W.Frag) : R2 := fun x y H Q => ∃ l b xs zs, x = .ref l ∧ y = .ref b ∧ SqL K H l xs ∧ SqL K H b zs ∧ xs.length + zs.length ≤ sizeLine ∧ ∀ p, H p = none → Q (.ref p) (upd H p (.lst (xs ++ zs)))
theorem op_catR {X : Cx} : OpR X (binaryOp .Add) (rCatR X.K) := by
  intro pins s σ H x y v u Q I rx ry h
  obtain ⟨l, b, xs, zs, rfl, rfl, hH, hB, hz, q⟩ := h
  cases rx
  cases ry
  obtain ⟨its, r, p1, z1⟩ := I.list hH
  obtain ⟨its2, r2, p2, z2⟩ := I.list hB
  have hl := r.length
  have hl2 := r2.length
  obtain ⟨⟨cls, dd, data, sl⟩, n, ho, hc, hdi, hd⟩ := id p1
  obtain ⟨⟨cls2, dd2, data2, sl2⟩, n2, ho2, hc2, hdi2, hd2⟩ := id p2
  simp only at hc hd hc2 hd2
  subst hc hd hc2 hd2
  have e : its.toArray ++ its2.toArray = (its ++ its2).toArray := by simp
  refine concat_meets ⟨_, ho, rfl⟩ ⟨_, ho2, rfl⟩ noFill_list_add seq_list_add PySem.F.slot_list_add PySem.F.entry_list_add (PySem.F.args_list_add_2 _ _) (list_addW l b its.toArray its2.toArray n n2 dd dd2 sl sl2 (by simp only [List.size_toArray]; omega)) ⟨ho, ho2, ?_⟩
  rw [e]
  exact ⟨.ref _, _, I.lnew (t' := s.toks) (r.append r2) (by rw [List.length_append]; omega), rfl, q _ I.fresh⟩
section
variable {c : Ctx} {a b e : Expr} {es : List Expr} {Γ : List (Option T)} {μ μ1 μ2 μ3 : List M} {t t1 t2 t3 : T} {pos : Pos} {d : D} {f : Value → Value → Sem Value}
theorem o_catL {ds es : List D} (h : ds.length + es.length ≤ sizeLine) : R2J c (binaryOp .Add) (.dat (.lst ds)) (.dat (.lst es)) μ (.dat (.lst (ds ++ es))) μ := fun X gX =>
  ⟨_, op_catR, fun φ π H v w s0 h1 h2 Q q => by
    cases h1 with
    | lst s1 l1 =>
      cases h2 with
      | lst s2 l2 =>
        refine ⟨_, _, _, _, rfl, rfl, (hd_le _ _ _ _ : Ex _ _).sqL s1, (hd_le _ _ _ _ : Ex _ _).sqL s2, by rw [← l1.len, ← l2.len]; exact h, fun p np => ?_⟩
        obtain ⟨n1, at1⟩ := s0.newData np
        exact q _ π _ n1 (.lst (SqL.of at1) (DtL.mono n1.le (l1.append l2)))⟩
/-! ### subscripts -/
def I2J (c : Ctx) (t1 t2 : T) (μ : List M) (t : T) (μ' : List M) : Prop :=
  ∀ X, Good c X → ∃ r : R2, IxR X r ∧ ∀ φ π H x y, SOk X.K φ π H μ → TOk X.K π (hd φ π μ H) t1 x → TOk X.K π (hd φ π μ H) t2 y → ∀ Q, Pst X.K φ π H μ t μ' Q → r x y H Q
theorem ev_ix (ha : EvJ c a Γ μ t1 μ1) (hb : EvJ c b Γ μ1 t2 μ2) (ho : I2J c t1 t2 μ2 t3 μ3) (hp : PlainIx b := by intro _ _; rfl) : EvJ c (.Subscript a b pos) Γ μ t3 μ3 := by
  intro X g φ π σ H s0 g0 Q q
  obtain ⟨r, hr, ok⟩ := ho X g
  refine toE (pe_ix hr pe_sem pe_sem hp) ?_
  refine ha X g φ π σ H s0 g0 _ fun x π1 H1 n1 k1 => ?_
  refine hb X g φ π1 σ H1 n1.ok (g0.nx n1) _ fun y π2 H2 n2 k2 => ?_
  exact ok φ π2 H2 x y n2.ok (k1.nx n2) k2 _ fun v π3 H3 n3 k3 => q v π3 H3 ((n1.trans n2).trans n3) k3
theorem atI_dt {K : PySem.W.Frag} {H : Hp} {ds : List D} {vs : List V} {i : Int} {x : D} (h : DtL K H ds vs) (e : atI ds i = some x) : ∃ y, atI vs i = some y ∧ Dt K H x y := by
  unfold atI at e ⊢
  rw [← h.len]
  cases q : ixN ds.length i with
  | none => rw [q] at e; cases e
  | some j =>
    rw [q] at e
    exact h.get e
theorem x_lst {ds : List D} {i : Int} (h : atI ds i = some d) : I2J c (.dat (.lst ds)) (.int i) μ (.dat d) μ := fun X gX =>
  ⟨_, ix_list, fun φ π H v w s0 h1 h2 Q q => by
    cases h2
    cases h1 with
    | lst s l =>
      obtain ⟨y, e, k⟩ := atI_dt l h
      exact ⟨_, _, _, _, rfl, rfl, (hd_le _ _ _ _ : Ex _ _).sqL s, e, q _ π H (Nxt.refl s0) k⟩⟩
theorem x_tup {ds : List D} {i : Int} (h : atI ds i = some d) : I2J c (.dat (.tup ds)) (.int i) μ (.dat d) μ := fun X gX =>
  ⟨_, ix_tup, fun φ π H v w s0 h1 h2 Q q => by
    cases h2
    cases h1 with
    | tup s l =>
      obtain ⟨y, e, k⟩ := atI_dt l h
      exact ⟨_, _, _, _, rfl, rfl, (hd_le _ _ _ _ : Ex _ _).sqT s, e, q _ π H (Nxt.refl s0) k⟩⟩
theorem x_str {z : Str} {i : Int} {k : Nat} (hl : z.length ≤ sizeLine) (h : atI z.cps.toList i = some k) : I2J c (.str z) (.int i) μ (.str ⟨#[k]⟩) μ := fun X gX =>
  ⟨_, ix_str, fun φ π H v w s0 h1 h2 Q q => by
    cases h2
    cases h1
    exact ⟨_, _, _, rfl, rfl, hl, h, q _ π H (Nxt.refl s0) (.str _)⟩⟩
theorem atI_some {α : Type} {xs : List α} {i : Int} (h0 : 0 ≤ i) (h1 : i < xs.length) : atI xs i = some (xs[i.toNat]'(by omega)) := by
  have e : i = ((i.toNat : Nat) : Int) := by omega
  have q : atI xs ((i.toNat : Nat) : Int) = some (xs[i.toNat]'(by omega)) := atI_nat (by simp)
  rw [← e] at q
  exact q
theorem atI_last1 {α : Type} {xs : List α} {x : α} (h : xs.getLast? = some x) : atI xs (-1) = some x := by
  unfold atI ixN
  have : xs ≠ [] := by rintro rfl; simp at h
  have hl : 0 < xs.length := List.length_pos_iff.mpr this
  rw [if_neg (by omega), if_pos (by omega)]
  simp only [Option.bind_some]
  rw [List.getLast?_eq_getElem?] at h
  have : (-1 + (xs.length : Int)).toNat = xs.length - 1 := by omega
  rw [this]; exact h
/-! slices -/
def OJ (c : Ctx) (e : Option Expr) (Γ : List (Option T)) (μ : List M) (o : Option Int) : Prop :=
  ∀ X, Good c X → ∃ t, PO X e t ∧ ∀ φ π σ H, SOk X.K φ π H μ → FOk X.K π (hd φ π μ H) Γ σ → ∀ Q : Option Int → Hp → Prop, (∀ π' H', Nxt X.K φ π H μ π' H' μ → Q o H') → t σ H Q
theorem oj_none : OJ c none Γ μ none := fun X g => ⟨_, po_none, fun φ π σ H s0 _ Q q => q π H (Nxt.refl s0)⟩
theorem oj_some {i : Int} (h : EvJ c e Γ μ (.int i) μ) : OJ c (some e) Γ μ (some i) := fun X g => ⟨_, po_some pe_sem, fun φ π σ H s0 g0 Q q => h X g φ π σ H s0 g0 _ fun v π1 H1 n1 k1 => by
  cases k1
  exact ⟨i, rfl, q π1 H1 n1⟩⟩
def S3J (c : Ctx) (t1 : T) (lo hi : Option Int) (μ : List M) (t : T) (μ' : List M) : Prop :=
  ∀ X, Good c X → ∃ r, SlR X r ∧ ∀ φ π H x, SOk X.K φ π H μ → TOk X.K π (hd φ π μ H) t1 x → ∀ Q, Pst X.K φ π H μ t μ' Q → r x lo hi H Q
theorem ev_slice {lo hi : Option Expr} {l h : Option Int} {p2 : Pos} (ha : EvJ c a Γ μ t1 μ1) (h1 : OJ c lo Γ μ1 l) (h2 : OJ c hi Γ μ1 h) (ho : S3J c t1 l h μ1 t2 μ2) : EvJ c (.Subscript a (.Slice lo hi none p2) pos) Γ μ t2 μ2 := by
  intro X g φ π σ H s0 g0 Q q
  obtain ⟨r, hr, ok⟩ := ho X g
  obtain ⟨tl, hl, okl⟩ := h1 X g
  obtain ⟨th, hh, okh⟩ := h2 X g
  refine toE (pe_slice hr pe_sem hl hh) ?_
  refine ha X g φ π σ H s0 g0 _ fun x π1 H1 n1 k1 => ?_
  refine okl φ π1 σ H1 n1.ok (g0.nx n1) _ fun π2 H2 n2 => ?_
  refine okh φ π2 σ H2 n2.ok ((g0.nx n1).nx n2) _ fun π3 H3 n3 => ?_
  exact ok φ π3 H3 x n3.ok ((k1.nx n2).nx n3) _ fun v π4 H4 n4 k4 => q v π4 H4 (((n1.trans n2).trans n3).trans n4) k4
def cutD (xs : List D) (lo hi : Option Int) : List D := (xs.drop (HT.sIx xs.length 0 lo)).take (HT.sIx xs.length xs.length hi - HT.sIx xs.length 0 lo)
theorem cut_dt {K : PySem.W.Frag} {H : Hp} {ds : List D} {vs : List V} (h : DtL K H ds vs) (lo hi : Option Int) : DtL K H (cutD ds lo hi) (cutV vs lo hi) := by
  unfold cutD cutV
  rw [h.len]
  exact (h.drop _).take _
theorem s_lst {ds : List D} {lo hi : Option Int} : S3J c (.dat (.lst ds)) lo hi μ (.dat (.lst (cutD ds lo hi))) μ := fun X gX =>
  ⟨_, sl_list, fun φ π H v s0 h1 Q q => by
    cases h1 with
    | lst s l =>
      refine ⟨_, _, rfl, (hd_le _ _ _ _ : Ex _ _).sqL s, fun p np => ?_⟩
      obtain ⟨n1, at1⟩ := s0.newData np
      exact q _ π _ n1 (.lst (SqL.of at1) (DtL.mono n1.le (cut_dt l lo hi)))⟩
theorem s_str {z : Str} {lo hi : Option Int} (hl : z.length ≤ sizeLine) : S3J c (.str z) lo hi μ (.str (cutS z lo hi)) μ := fun X gX =>
  ⟨_, sl_str, fun φ π H v s0 h1 Q q => by
    cases h1
    exact ⟨_, rfl, hl, q _ π H (Nxt.refl s0) (.str _)⟩⟩
/-! ### calls of what is built in -/
theorem ev_callB {x : Str} {id : String} {p : Pos} {ts : List T} (ha : AJ c (e :: es) Γ μ ts μ1) (hc : C1J c (.builtin id) ts μ1 t μ2) (hg : c.sc.names.lookup x = some .globalImplicit) (hm : c.mg x = none) (hv : bootBuiltins x = some (.builtin id))
    (hs : (e :: es).all (fun e => !isStar e) = true := by rfl) (hn : x ≠ "__name__" := by decide) (hdb : (x == ("__debug__" : Str)) = false := by decide) : EvJ c (.Call (.Name x p) (e :: es) [] pos) Γ μ t μ2 := by
  intro X g φ π σ H s0 g0 Q q
  obtain ⟨r, hr, ok⟩ := hc X g
  have hs' := hs
  simp only [List.all_cons, Bool.and_eq_true, Bool.not_eq_true'] at hs'
  refine toE (pe_callB hr (show X.env.scope.names.lookup x = _ by rw [g.sc]; exact hg) (by rw [g.mg]; exact hm) hv pa_sem hn hdb (star_cons hs'.1 _) (no_star hs'.2 _ _)) ?_
  refine ha X g φ π σ H s0 g0 _ fun vs π1 H1 n1 k1 => ?_
  exact ok φ π1 H1 vs n1.ok k1 _ fun v π2 H2 n2 k2 => q v π2 H2 (n1.trans n2) k2
theorem ev_callTy {x : Str} {id : String} {p : Pos} {ts : List T} (ha : AJ c (e :: es) Γ μ ts μ1) (hc : C1J c (.type id) ts μ1 t μ2) (hg : c.sc.names.lookup x = some .globalImplicit) (hm : c.mg x = none) (hv : bootBuiltins x = some (.type id))
    (hs : (e :: es).all (fun e => !isStar e) = true := by rfl) (hn : x ≠ "__name__" := by decide) (hdb : (x == ("__debug__" : Str)) = false := by decide) : EvJ c (.Call (.Name x p) (e :: es) [] pos) Γ μ t μ2 := by
  intro X g φ π σ H s0 g0 Q q
  obtain ⟨r, hr, ok⟩ := hc X g
  have hs' := hs
  simp only [List.all_cons, Bool.and_eq_true, Bool.not_eq_true'] at hs'
  refine toE (pe_callTy hr (show X.env.scope.names.lookup x = _ by rw [g.sc]; exact hg) (by rw [g.mg]; exact hm) hv pa_sem hn hdb (star_cons hs'.1 _) (no_star hs'.2 _ _)) ?_
  refine ha X g φ π σ H s0 g0 _ fun vs π1 H1 n1 k1 => ?_
  exact ok φ π1 H1 vs n1.ok k1 _ fun v π2 H2 n2 k2 => q v π2 H2 (n1.trans n2) k2
theorem TL.one {K : PySem.W.Frag} {π : List Addr} {Hd : Hp} {t : T} {vs : List V} (h : TL K π Hd [t] vs) : ∃ v, vs = [v] ∧ TOk K π Hd t v := by
  cases h with
  | cons q r => cases r; exact ⟨_, rfl, q⟩
theorem TL.two {K : PySem.W.Frag} {π : List Addr} {Hd : Hp} {t t' : T} {vs : List V} (h : TL K π Hd [t, t'] vs) : ∃ v v', vs = [v, v'] ∧ TOk K π Hd t v ∧ TOk K π Hd t' v' := by
  cases h with
  | cons q r => obtain ⟨v', rfl, q'⟩ := r.one; exact ⟨_, _, rfl, q, q'⟩
theorem c_lenL {ds : List D} : C1J c (.builtin "len") [.dat (.lst ds)] μ (.int ds.length) μ := fun X gX =>
  ⟨_, call_len_seq, fun φ π H vs s0 h Q q => by
    obtain ⟨v, rfl, kk⟩ := h.one
    cases kk with
    | lst s l => exact ⟨_, _, rfl, .inl ((hd_le _ _ _ _ : Ex _ _).sqL s), q _ π H (Nxt.refl s0) (by rw [← l.len]; exact .int _)⟩⟩
theorem c_lenT {ds : List D} : C1J c (.builtin "len") [.dat (.tup ds)] μ (.int ds.length) μ := fun X gX =>
  ⟨_, call_len_seq, fun φ π H vs s0 h Q q => by
    obtain ⟨v, rfl, kk⟩ := h.one
    cases kk with
    | tup s l => exact ⟨_, _, rfl, .inr ((hd_le _ _ _ _ : Ex _ _).sqT s), q _ π H (Nxt.refl s0) (by rw [← l.len]; exact .int _)⟩⟩
theorem c_lenS {z : Str} (hl : z.length ≤ sizeLine) : C1J c (.builtin "len") [.str z] μ (.int z.length) μ := fun X gX =>
  ⟨_, call_len_str, fun φ π H vs s0 h Q q => by
    obtain ⟨v, rfl, kk⟩ := h.one
    cases kk
    exact ⟨_, rfl, hl, q _ π H (Nxt.refl s0) (.int _)⟩⟩
theorem c_max2 {i j : Int} : C1J c (.builtin "max") [.int i, .int j] μ (.int (if j > i then j else i)) μ := fun X gX =>
  ⟨_, call_max2 gX.calm, fun φ π H vs s0 h Q q => by
    obtain ⟨v, w, rfl, kk, kk'⟩ := h.two
    cases kk; cases kk'
    exact ⟨_, _, rfl, q _ π H (Nxt.refl s0) (.int _)⟩⟩
theorem c_min2 {i j : Int} : C1J c (.builtin "min") [.int i, .int j] μ (.int (if j < i then j else i)) μ := fun X gX =>
  ⟨_, call_min2 gX.calm, fun φ π H vs s0 h Q q => by
    obtain ⟨v, w, rfl, kk, kk'⟩ := h.two
    cases kk; cases kk'
    exact ⟨_, _, rfl, q _ π H (Nxt.refl s0) (.int _)⟩⟩
theorem c_intB {k : Bool} : C1J c (.type "int") [.bl k] μ (.int (if k then 1 else 0)) μ := fun X gX =>
  ⟨_, call_int1, fun φ π H vs s0 h Q q => by
    obtain ⟨v, rfl, kk⟩ := h.one
    cases kk
    exact .inr ⟨_, rfl, q _ π H (Nxt.refl s0) (.int _)⟩⟩
theorem c_strI {i : Int} (hi : i.natAbs.log2 < 1920) : C1J c (.type "str") [.int i] μ (.str (toString i)) μ := fun X gX =>
  ⟨_, call_str_int, fun φ π H vs s0 h Q q => by
    obtain ⟨v, rfl, kk⟩ := h.one
    cases kk
    exact ⟨_, rfl, hi, q _ π H (Nxt.refl s0) (.str _)⟩⟩
theorem dtBl {K : PySem.W.Frag} {H : Hp} : ∀ {bs : List Bool} {vs : List V}, DtL K H (bs.map D.bl) vs → vs = bs.map V.bl
  | [], _, h => by cases h; rfl
  | b :: bs, _, h => by
    cases h with
    | cons q t => cases q; rw [List.map_cons, dtBl t]
theorem dtInt {K : PySem.W.Frag} {H : Hp} : ∀ {bs : List Int} {vs : List V}, DtL K H (bs.map D.int) vs → vs = bs.map V.int
  | [], _, h => by cases h; rfl
  | b :: bs, _, h => by
    cases h with
    | cons q t => cases q; rw [List.map_cons, dtInt t]
theorem dtStr {K : PySem.W.Frag} {H : Hp} : ∀ {bs : List Str} {vs : List V}, DtL K H (bs.map D.str) vs → vs = bs.map V.str
  | [], _, h => by cases h; rfl
  | b :: bs, _, h => by
    cases h with
    | cons q t => cases q; rw [List.map_cons, dtStr t]
theorem intDt {K : PySem.W.Frag} {H : Hp} : ∀ {bs : List Int}, DtL K H (bs.map D.int) (bs.map V.int)
  | [] => .nil
  | b :: bs => .cons (.int b) intDt
theorem strDt {K : PySem.W.Frag} {H : Hp} : ∀ {bs : List Str}, DtL K H (bs.map D.str) (bs.map V.str)
  | [] => .nil
  | b :: bs => .cons (.str b) strDt
theorem c_all {bs : List Bool} {ds : List D} (e : ds = bs.map D.bl := by rfl) : C1J c (.builtin "all") [.dat (.lst ds)] μ (.bl (bs.all id)) μ := fun X gX =>
  ⟨_, cr_all gX.calm, fun φ π H vs s0 h Q q => by
    subst e
    obtain ⟨v, rfl, kk⟩ := h.one
    cases kk with
    | lst s l => exact ⟨_, bs, rfl, by rw [dtBl l] at s; exact (hd_le _ _ _ _ : Ex _ _).sqL s, q _ π H (Nxt.refl s0) (.bl _)⟩⟩
theorem c_any {bs : List Bool} {ds : List D} (e : ds = bs.map D.bl := by rfl) : C1J c (.builtin "any") [.dat (.lst ds)] μ (.bl (bs.any id)) μ := fun X gX =>
  ⟨_, cr_any gX.calm, fun φ π H vs s0 h Q q => by
    subst e
    obtain ⟨v, rfl, kk⟩ := h.one
    cases kk with
    | lst s l => exact ⟨_, bs, rfl, by rw [dtBl l] at s; exact (hd_le _ _ _ _ : Ex _ _).sqL s, q _ π H (Nxt.refl s0) (.bl _)⟩⟩
theorem c_sum {bs : List Int} {ds : List D} (e : ds = bs.map D.int := by rfl) : C1J c (.builtin "sum") [.dat (.lst ds)] μ (.int bs.sum) μ := fun X gX =>
  ⟨_, cr_sum gX.calm, fun φ π H vs s0 h Q q => by
    subst e
    obtain ⟨v, rfl, kk⟩ := h.one
    cases kk with
    | lst s l => exact ⟨_, bs, rfl, by rw [dtInt l] at s; exact (hd_le _ _ _ _ : Ex _ _).sqL s, q _ π H (Nxt.refl s0) (.int _)⟩⟩
/-- list(..) of a list, of a tuple -/
theorem c_listL {ds : List D} : C1J c (.type "list") [.dat (.lst ds)] μ (.dat (.lst ds)) μ := fun X gX =>
  ⟨_, call_list_of, fun φ π H vs s0 h Q q => by
    obtain ⟨v, rfl, kk⟩ := h.one
    cases kk with
    | lst s l =>
      refine ⟨_, _, rfl, .inl ((hd_le _ _ _ _ : Ex _ _).sqL s), fun p np => ?_⟩
      obtain ⟨n1, at1⟩ := s0.newData np
      exact q _ π _ n1 (.lst (SqL.of at1) (DtL.mono n1.le l))⟩
theorem c_listT {ds : List D} : C1J c (.type "list") [.dat (.tup ds)] μ (.dat (.lst ds)) μ := fun X gX =>
  ⟨_, call_list_of, fun φ π H vs s0 h Q q => by
    obtain ⟨v, rfl, kk⟩ := h.one
    cases kk with
    | tup s l =>
      refine ⟨_, _, rfl, .inr ((hd_le _ _ _ _ : Ex _ _).sqT s), fun p np => ?_⟩
      obtain ⟨n1, at1⟩ := s0.newData np
      exact q _ π _ n1 (.lst (SqL.of at1) (DtL.mono n1.le l))⟩
theorem c_tupL {ds : List D} : C1J c (.type "tuple") [.dat (.lst ds)] μ (.dat (.tup ds)) μ := fun X gX =>
  ⟨_, call_tuple_of, fun φ π H vs s0 h Q q => by
    obtain ⟨v, rfl, kk⟩ := h.one
    cases kk with
    | lst s l =>
      refine ⟨_, _, rfl, .inl ⟨(hd_le _ _ _ _ : Ex _ _).sqL s, fun p np => ?_⟩⟩
      obtain ⟨n1, at1⟩ := s0.newData np
      exact q _ π _ n1 (.tup (SqT.of at1) (DtL.mono n1.le l))⟩
/-! isinstance -/
inductive DTy (K : PySem.W.Frag) : D → Value → Prop
  | non : DTy K .non (.type "NoneType")
  | bl (b : Bool) : DTy K (.bl b) (.type "bool")
  | int (i : Int) : DTy K (.int i) (.type "int")
  | str (x : Str) : DTy K (.str x) (.type "str")
  | lst (xs : List D) : DTy K (.lst xs) (.type "list")
  | tup (xs : List D) : DTy K (.tup xs) (.type "tuple")
  | dic (xs : List (Key × D)) : DTy K (.dic xs) (.type "dict")
  | ins (x : Str) (fs : List (Str × D)) (cl : Cls K (He.ga K x)) (ha : PySem.W.findIn K (.ref (He.ga K x)) "__class__" = some (some (.builtin "object.__class__")))
      (hn : PySem.W.specialIn K (.builtin "object.__class__") "__get__" = some (some (.builtin "getset_descriptor.__get__"))) (htk : PySem.W.takesIn K (.builtin "object.__class__") = some true)
      (hm : PySem.W.mroIn K (He.ga K x) (.type "object") = some true) : DTy K (.ins x fs) (.ref (He.ga K x))
theorem tyx_of {K : PySem.W.Frag} {H : Hp} {d : D} {v : V} {u : Value} (h : Dt K H d v) (t : DTy K d u) : TyX K H v u := by
  cases t with
  | non => cases h; exact .base .non
  | bl b => cases h; exact .base (.bl _)
  | int b => cases h; exact .base (.int _)
  | str b => cases h; exact .base (.str _)
  | lst xs =>
    cases h with
    | lst s l =>
      rcases s with (s | ⟨o, s⟩) | ⟨o, its, n, hk, hc, _⟩
      · exact .base (.lst s)
      · exact .base (.frz s)
      · exact .kList hk hc
  | tup xs =>
    cases h with
    | tup s l =>
      rcases s with (s | ⟨o, s⟩) | ⟨o, its, n, hk, hc, _⟩
      · exact .base (.tup s)
      · exact .fTuple s
      · exact .kTuple hk hc
  | dic xs =>
    cases h with
    | dic s l =>
      rcases s with s | ⟨o, s⟩
      · exact .base (.dK s)
      · exact .fDict s
  | ins x fs cl ha hn htk hm =>
    cases h with
    | ins s l => exact .base (.ins s cl ha hn htk hm)
/-- the classes as values -/
def EvC (c : Ctx) (e : Expr) (u : Value) : Prop := ∃ v, ClsV v u ∧ ∀ X, Good c X → PE X e (tC v)
theorem evc_ty {x : Str} {n : String} {p : Pos} (hg : c.sc.names.lookup x = some .globalImplicit) (hm : c.mg x = none) (hv : bootBuiltins x = some (.type n)) (hn : x ≠ "__name__" := by decide) (hdb : (x == ("__debug__" : Str)) = false := by decide) : EvC c (.Name x p) (.type n) :=
  ⟨.ty n, .ty n, fun X g => pe_bltn (show X.env.scope.names.lookup x = _ by rw [g.sc]; exact hg) (by rw [g.mg]; exact hm) hv rfl hn hdb⟩
theorem evc_own {x : Str} {p : Pos} {C : Addr} (hg : c.sc.names.lookup x = some .globalImplicit) (hm : c.mg x = some (.ref C)) (hdb : (x == ("__debug__" : Str)) = false := by decide) : EvC c (.Name x p) (.ref C) :=
  ⟨.ref C, .own C, fun X g => pe_glob (show X.env.scope.names.lookup x = _ by rw [g.sc]; exact hg) (by rw [g.mg]; exact hm) rfl hdb⟩
theorem ev_isi {x : Str} {p : Pos} {u v : Value} {r : Bool} (ha : EvJ c a Γ μ (.dat d) μ1) (hb : EvC c b u) (ht : DTy c.K d v) (hk : PySem.W.kitOne c.K v u = some r) (hx : x = "isinstance") (hg : c.sc.names.lookup x = some .globalImplicit) (hm : c.mg x = none)
    (hs : isStar a = false := by rfl) (hs2 : isStar b = false := by rfl) : EvJ c (.Call (.Name x p) [a, b] [] pos) Γ μ (.bl r) μ1 := by
  subst hx
  intro X g φ π σ H s0 g0 Q q
  obtain ⟨w, hw, hpe⟩ := hb
  refine toE (pe_callB call_isi (show X.env.scope.names.lookup ("isinstance" : Str) = _ by rw [g.sc]; exact hg) (by rw [g.mg]; exact hm) (by decide +kernel) (pa_cons pe_sem (pa_cons (hpe X g) pa_nil (star_cons hs2 _)) (star_cons hs _)) (by decide) (by decide) (star_cons hs _) (no_star (by simp [hs2]) _ _)) ?_
  refine ha X g φ π σ H s0 g0 _ fun vv π1 H1 n1 k1 => ?_
  refine ⟨vv, w, v, u, r, rfl, hw, tyx_of (Dt.mono (hd_le _ _ _ _) k1) (by rw [g.K]; exact ht), by rw [g.K]; exact hk, ?_⟩
  exact q _ π1 H1 n1 (.bl _)
end
end EN
/-! Own defs called, statements, loops, list comprehensions. -/
namespace EN
open PySem PySem.Spec PyProof.Rows L2

/-! ### own defs -/
def spJ (K : PySem.W.Frag) (ts : List T) (μ : List M) (t : T) (μ' : List M) : Sp := fun vs H Q _ => ∃ φ π, SOk K φ π H μ ∧ TL K π (hd φ π μ H) ts vs ∧ Pst K φ π H μ t μ' Q
/-- the def at at_, called with ts (dts: the defaults that fill up), comes to t -/
def CallJ (G : Gc) (k : Nat) (at_ : Str × Option Str) (ts : List T) (dts : List D) (μ : List M) (t : T) (μ' : List M) : Prop :=
  ∃ (fd : FuncData) (ps : List Str) (dvs : List V) (ds : List Value), PySem.W.keepIn G.K (.ref (He.fAd G.K at_)) = true ∧ Vals dvs ds ∧ Binds G.K fd ps ds ∧ (∀ H, DtL G.K H dts dvs) ∧
    FnOk G.P G.w G.K G.mg G.base (L2.CX G.P G.w) k (He.fAd G.K at_) fd ps (spJ G.K (ts ++ dats dts) μ t μ')
theorem CallJ.mono {G : Gc} {j k : Nat} {at_ : Str × Option Str} {ts : List T} {dts : List D} {μ μ' : List M} {t : T} (h : CallJ G j at_ ts dts μ t μ') (hj : j ≤ k) : CallJ G k at_ ts dts μ t μ' := by
  obtain ⟨fd, ps, dvs, ds, h1, h2, h3, h4, h5⟩ := h
  exact ⟨fd, ps, dvs, ds, h1, h2, h3, h4, h5.mono hj⟩
theorem CallJ.eq {G : Gc} {k : Nat} {at_ : Str × Option Str} {ts : List T} {dts : List D} {μ μ1 μ' : List M} {t t' : T} (h : CallJ G k at_ ts dts μ t μ1) (e1 : t = t') (e2 : μ1 = μ') : CallJ G k at_ ts dts μ t' μ' := e1 ▸ e2 ▸ h
theorem TL.append {K : PySem.W.Frag} {π : List Addr} {Hd : Hp} {ts us : List T} {vs ws : List V} (h : TL K π Hd ts vs) (h' : TL K π Hd us ws) : TL K π Hd (ts ++ us) (vs ++ ws) := by
  induction h with
  | nil => exact h'
  | cons q _ ih => exact .cons q ih
section
variable {c : Ctx} {a b e : Expr} {es : List Expr} {Γ Γ1 Γ2 : List (Option T)} {μ μ1 μ2 μ3 : List M} {t t1 t2 t3 : T} {pos : Pos} {d : D} {ts : List T} {dts : List D} {k : Nat}
theorem ev_call {x : Str} {p : Pos} (ha : AJ c (e :: es) Γ μ ts μ1) (h : CallJ c.toGc k (x, none) ts dts μ1 t μ2) (hk : k ≤ c.k) (hg : c.sc.names.lookup x = some .globalImplicit) (hm : c.mg x = some (.ref (He.fAd c.K (x, none))))
    (hs : (e :: es).all (fun e => !isStar e) = true := by rfl) (hdb : (x == ("__debug__" : Str)) = false := by decide) : EvJ c (.Call (.Name x p) (e :: es) [] pos) Γ μ t μ2 := by
  intro X g φ π σ H s0 g0 Q q
  obtain ⟨fd, ps, dvs, ds, h1, h2, h3, h4, h5⟩ := h
  have hs' := hs
  simp only [List.all_cons, Bool.and_eq_true, Bool.not_eq_true'] at hs'
  have F : FnOk X.prog X.w X.K X.mg X.base (L2.CX X.prog X.w) k (He.fAd X.K (x, none)) fd ps (spJ X.K (ts ++ dats dts) μ1 t μ2) := by rw [g.prog, g.w, g.K, g.mg, g.base]; exact h5
  refine toE (pe_call F (g.room.mono hk) (show X.env.scope.names.lookup x = _ by rw [g.sc]; exact hg) (by rw [g.mg, g.K]; exact hm) (by rw [g.K]; exact h1) (by rw [g.K]; exact h3) h2 passL pa_sem hdb (star_cons hs'.1 _) (no_star hs'.2 _ _)) ?_
  refine ha X g φ π σ H s0 g0 _ fun vs π1 H1 n1 k1 => ?_
  exact ⟨φ, π1, n1.ok, k1.append (DtL.tl (by rw [g.K]; exact h4 _)), fun v π2 H2 n2 k2 => q v π2 H2 (n1.trans n2) k2⟩
theorem ev_call0 {x : Str} {p : Pos} (h : CallJ c.toGc k (x, none) [] dts μ t μ2) (hk : k ≤ c.k) (hg : c.sc.names.lookup x = some .globalImplicit) (hm : c.mg x = some (.ref (He.fAd c.K (x, none))))
    (hdb : (x == ("__debug__" : Str)) = false := by decide) : EvJ c (.Call (.Name x p) [] [] pos) Γ μ t μ2 := by
  intro X g φ π σ H s0 g0 Q q
  obtain ⟨fd, ps, dvs, ds, h1, h2, h3, h4, h5⟩ := h
  have F : FnOk X.prog X.w X.K X.mg X.base (L2.CX X.prog X.w) k (He.fAd X.K (x, none)) fd ps (spJ X.K ([] ++ dats dts) μ t μ2) := by rw [g.prog, g.w, g.K, g.mg, g.base]; exact h5
  refine toE (pe_call0 F (g.room.mono hk) (show X.env.scope.names.lookup x = _ by rw [g.sc]; exact hg) (by rw [g.mg, g.K]; exact hm) (by rw [g.K]; exact h1) (by rw [g.K]; exact h3) h2 passL hdb) ?_
  exact ⟨φ, π, s0, DtL.tl (by rw [g.K]; exact h4 _), fun v π2 H2 n2 k2 => q v π2 H2 n2 k2⟩

/-! ### statements -/
inductive Out where
  | nx (Γ : List (Option T)) (μ : List M) | rt (t : T) (μ : List M) | bk (Γ : List (Option T)) (μ : List M) | ct (Γ : List (Option T)) (μ : List M)
def OD (K : PySem.W.Frag) (φ π : List Addr) (H : Hp) (μ : List M) : Out → Ends → Prop
  | .nx Γ' μ', D => ∀ σ' π' H', Nxt K φ π H μ π' H' μ' → FOk K π' (hd φ π' μ' H') Γ' σ' → D.nx σ' H'
  | .bk Γ' μ', D => ∀ σ' π' H', Nxt K φ π H μ π' H' μ' → FOk K π' (hd φ π' μ' H') Γ' σ' → D.bk σ' H'
  | .ct Γ' μ', D => ∀ σ' π' H', Nxt K φ π H μ π' H' μ' → FOk K π' (hd φ π' μ' H') Γ' σ' → D.ct σ' H'
  | .rt t μ', D => Pst K φ π H μ t μ' D.rt
theorem OD.nx {K : PySem.W.Frag} {φ π π1 : List Addr} {H H1 : Hp} {o : Out} {D : Ends} (h : OD K φ π H μ o D) (n : Nxt K φ π H μ π1 H1 μ1) : OD K φ π1 H1 μ1 o D := by
  cases o with
  | nx Γ' μ' => exact fun σ' π' H' n' f => h σ' π' H' (n.trans n') f
  | bk Γ' μ' => exact fun σ' π' H' n' f => h σ' π' H' (n.trans n') f
  | ct Γ' μ' => exact fun σ' π' H' n' f => h σ' π' H' (n.trans n') f
  | rt t μ' => exact fun v π' H' n' f => h v π' H' (n.trans n') f
def StJ (c : Ctx) (st : Stmt) (Γ : List (Option T)) (μ : List M) (o : Out) : Prop :=
  ∀ X, Good c X → ∀ φ π σ H, SOk X.K φ π H μ → FOk X.K π (hd φ π μ H) Γ σ → ∀ D, OD X.K φ π H μ o D → semS X st D σ H
def SJ (c : Ctx) (sts : List Stmt) (Γ : List (Option T)) (μ : List M) (o : Out) : Prop :=
  ∀ X, Good c X → ∀ φ π σ H, SOk X.K φ π H μ → FOk X.K π (hd φ π μ H) Γ σ → ∀ D, OD X.K φ π H μ o D → semSs X sts D σ H
variable {st : Stmt} {sts A B : List Stmt} {o : Out}
theorem SJ.eq {o' : Out} (h : SJ c sts Γ μ o) (e : o = o') : SJ c sts Γ μ o' := e ▸ h
theorem StJ.eq {o' : Out} (h : StJ c st Γ μ o) (e : o = o') : StJ c st Γ μ o' := e ▸ h
theorem sj_nil : SJ c [] Γ μ (.nx Γ μ) := by
  intro X g φ π σ H s0 g0 D q
  exact toSs pss_nil (q σ π H (Nxt.refl s0) g0)
theorem sj_cons (h : StJ c st Γ μ (.nx Γ1 μ1)) (h' : SJ c sts Γ1 μ1 o) : SJ c (st :: sts) Γ μ o := by
  intro X g φ π σ H s0 g0 D q
  refine toSs (pss_cons ps_sem pss_sem) ?_
  exact h X g φ π σ H s0 g0 _ fun σ' π' H' n' f' => h' X g φ π' σ' H' n'.ok f' D (q.nx n')
def Out.stops : Out → Bool
  | .nx _ _ => false
  | _ => true
theorem sj_stop (h : StJ c st Γ μ o) (hs : o.stops = true := by rfl) : SJ c (st :: sts) Γ μ o := by
  intro X g φ π σ H s0 g0 D q
  refine toSs (pss_cons ps_sem pss_sem) ?_
  refine h X g φ π σ H s0 g0 _ ?_
  cases o with
  | nx _ _ => cases hs
  | rt _ _ => exact q
  | bk _ _ => exact q
  | ct _ _ => exact q
theorem sj_one (h : StJ c st Γ μ o) : SJ c [st] Γ μ o := by
  intro X g φ π σ H s0 g0 D q
  exact toSs (pss_one ps_sem) (h X g φ π σ H s0 g0 D q)
theorem st_pass : StJ c (.Pass pos) Γ μ (.nx Γ μ) := by
  intro X g φ π σ H s0 g0 D q
  exact toS ps_pass (q σ π H (Nxt.refl s0) g0)
theorem st_break : StJ c (.Break pos) Γ μ (.bk Γ μ) := by
  intro X g φ π σ H s0 g0 D q
  exact toS ps_break (q σ π H (Nxt.refl s0) g0)
theorem st_continue : StJ c (.Continue pos) Γ μ (.ct Γ μ) := by
  intro X g φ π σ H s0 g0 D q
  exact toS ps_continue (q σ π H (Nxt.refl s0) g0)
theorem st_doc {x : Str} {j : Nat} {p : Pos} : StJ c (.Expr (.Constant (.str x) j p) pos) Γ μ (.nx Γ μ) := by
  intro X g φ π σ H s0 g0 D q
  exact toS ps_doc (q σ π H (Nxt.refl s0) g0)
def isComp : Expr → Bool
  | .ListComp .. | .SetComp .. | .DictComp .. => true
  | _ => false
theorem no_swap (h : isComp e = false) (tg : Option Expr) (l : Nat) (env : Env) : swapsWith e tg l env = pure false := by
  cases e <;> first | rfl | cases h
theorem st_expr (h : EvJ c e Γ μ t μ1) (hs : isComp e = false := by rfl) : StJ c (.Expr e pos) Γ μ (.nx Γ μ1) := by
  intro X g φ π σ H s0 g0 D q
  refine toS (ps_expr pe_sem (no_swap hs _ _ _)) ?_
  exact h X g φ π σ H s0 g0 _ fun v π1 H1 n1 k1 => q σ π1 H1 n1 (g0.nx n1)
theorem st_ret (h : EvJ c e Γ μ t μ1) : StJ c (.Return (some e) pos) Γ μ (.rt t μ1) := by
  intro X g φ π σ H s0 g0 D q
  refine toS (ps_ret pe_sem) ?_
  exact h X g φ π σ H s0 g0 _ q
theorem st_retN : StJ c (.Return none pos) Γ μ (.rt (.dat .non) μ) := by
  intro X g φ π σ H s0 g0 D q
  exact toS ps_retN (q _ π H (Nxt.refl s0) .non)
theorem st_if {r : Bool} {x : Expr} (h : TJ c x Γ μ r μ1) (h1 : r = true → SJ c A Γ μ1 o) (h2 : r = false → SJ c B Γ μ1 o) : StJ c (.If x A B pos) Γ μ o := by
  intro X g φ π σ H s0 g0 D q
  refine toS (ps_if pt_sem pss_sem pss_sem) ?_
  refine h X g φ π σ H s0 g0 _ fun π1 H1 n1 => ?_
  cases r with
  | true => rw [if_pos rfl]; exact h1 rfl X g φ π1 σ H1 n1.ok (g0.nx n1) D (q.nx n1)
  | false => rw [if_neg Bool.false_ne_true]; exact h2 rfl X g φ π1 σ H1 n1.ok (g0.nx n1) D (q.nx n1)
theorem st_if_t {x : Expr} (h : TJ c x Γ μ true μ1) (h1 : SJ c A Γ μ1 o) : StJ c (.If x A B pos) Γ μ o := st_if h (fun _ => h1) fun z => nomatch z
theorem st_if_f {x : Expr} (h : TJ c x Γ μ false μ1) (h1 : SJ c B Γ μ1 o) : StJ c (.If x A B pos) Γ μ o := st_if h (fun z => nomatch z) fun _ => h1
theorem TJ.eq {x : Expr} {r r' : Bool} (h : TJ c x Γ μ r μ1) (e : r = r') : TJ c x Γ μ r' μ1 := e ▸ h

/-- name = e -/
theorem st_set {i : Nat} {x : Str} {p : Pos} (h : EvJ c e Γ μ t μ1) (hi : c.N[i]? = some x) (hx : Loc c.sc x) (hs : isComp e = false := by rfl) (hf : c.sto x = true := by rfl) : StJ c (.Assign [.Name x p] e pos) Γ μ (.nx (Γ.set i (some t)) μ1) := by
  intro X g φ π σ H s0 g0 D q
  refine toS (ps_set (i := i) (by rw [g.N]; exact g.nd) (by rw [g.N]; exact hi) (by rw [g.sc]; exact hx) pe_sem (no_swap hs _ _ _) (g.sto x hf)) ?_
  exact h X g φ π σ H s0 g0 _ fun v π1 H1 n1 k1 => q _ π1 H1 n1 ((g0.nx n1).set k1)
/-- name op= e -/
theorem st_aug {op : Operator} {i : Nat} {x : Str} {p : Pos} (hΓ : Γ[i]? = some (some t1)) (h : EvJ c e Γ μ t2 μ1) (ho : R2J c (inplaceOp op) t1 t2 μ1 t3 μ2) (hi : c.N[i]? = some x) (hx : Loc c.sc x) (hf : c.sto x = true := by rfl) :
    StJ c (.AugAssign (.Name x p) op e pos) Γ μ (.nx (Γ.set i (some t3)) μ2) := by
  intro X g φ π σ H s0 g0 D q
  obtain ⟨r, hr, ok⟩ := ho X g
  refine toS (ps_aug (i := i) (by rw [g.N]; exact g.nd) (by rw [g.N]; exact hi) (by rw [g.sc]; exact hx) pe_sem hr (g.sto x hf)) ?_
  obtain ⟨v, h1, h2⟩ := g0.at_ i t1 hΓ
  refine ⟨v, h1, ?_⟩
  refine h X g φ π σ H s0 g0 _ fun w π1 H1 n1 k1 => ?_
  exact ok φ π1 H1 v w n1.ok (h2.nx n1) k1 _ fun z π2 H2 n2 k2 => q _ π2 H2 (n1.trans n2) (((g0.nx n1).nx n2).set k2)

/-! ### targets -/
def TgJ (c : Ctx) (tg : Expr) (gt : TG) : Prop := ∀ X, Good c X → PG X tg gt
def TgsJ (c : Ctx) (tgs : List Expr) (gt : TGs) : Prop := ∀ X, Good c X → PGs X tgs gt
def GvJ (c : Ctx) (gt : TG) (t : T) (Γ : List (Option T)) (μ : List M) (Γ' : List (Option T)) (js : List Nat) : Prop :=
  ∀ φ π σ H v, SOk c.K φ π H μ → FOk c.K π (hd φ π μ H) Γ σ → TOk c.K π (hd φ π μ H) t v → ∀ Q : L2.St → Hp → Prop,
    (∀ σ', FOk c.K π (hd φ π μ H) Γ' σ' → (∀ vs, (∀ j ∈ js, j ∈ vs) → wipe σ' vs = wipe σ vs) → Q σ' H) → gt v σ H Q
def GsJ (c : Ctx) (gt : TGs) (ds : List D) (Γ : List (Option T)) (μ : List M) (Γ' : List (Option T)) (js : List Nat) : Prop :=
  ∀ φ π σ H vs, SOk c.K φ π H μ → FOk c.K π (hd φ π μ H) Γ σ → DtL c.K (hd φ π μ H) ds vs → ∀ Q : L2.St → Hp → Prop,
    (∀ σ', FOk c.K π (hd φ π μ H) Γ' σ' → (∀ ws, (∀ j ∈ js, j ∈ ws) → wipe σ' ws = wipe σ ws) → Q σ' H) → gt vs σ H Q
theorem wipe_get {σ : L2.St} {i : Nat} : ∀ {vs : List Nat}, i ∈ vs → i < σ.length → (wipe σ vs)[i]? = some none
  | [], h, _ => by simp at h
  | v :: vs, h, hl => by
    unfold wipe
    by_cases hv : v = i
    · subst hv; rw [List.getElem?_set_self (by rw [wipe_length]; exact hl)]
    · rw [List.getElem?_set_ne hv]
      exact wipe_get ((List.mem_cons.mp h).resolve_left fun z => hv z.symm) hl
theorem wipe_set {σ : L2.St} {j : Nat} {x : Option V} {vs : List Nat} (h : j ∈ vs) : wipe (σ.set j x) vs = wipe σ vs := by
  apply List.ext_getElem?
  intro i
  by_cases hi : i ∈ vs
  · by_cases hl : i < σ.length
    · rw [wipe_get hi (by simpa using hl), wipe_get hi hl]
    · rw [List.getElem?_eq_none (by simp [wipe_length]; omega), List.getElem?_eq_none (by simp [wipe_length]; omega)]
  · rw [wipe_out hi, wipe_out hi, List.getElem?_set_ne (show j ≠ i from fun z => hi (z ▸ h))]
theorem tg_name {i : Nat} {x : Str} {p : Pos} (hi : c.N[i]? = some x) (hx : Loc c.sc x) (hf : c.sto x = true := by rfl) : TgJ c (.Name x p) (gName i) := fun X g =>
  pg_name (by rw [g.N]; exact g.nd) (by rw [g.N]; exact hi) (by rw [g.sc]; exact hx) (g.sto x hf)
theorem gv_name {i : Nat} : GvJ c (gName i) t Γ μ (Γ.set i (some t)) [i] := fun φ π σ H v s0 g0 h Q q =>
  q _ (g0.set h) fun vs hv => wipe_set (hv i (by simp))
theorem tgs_nil : TgsJ c [] gNil := fun X g => pgs_nil
theorem tgs_cons {gt : TG} {gts : TGs} (h : TgJ c e gt) (h' : TgsJ c es gts) (hs : isStar e = false := by rfl) : TgsJ c (e :: es) (gCons gt gts) := fun X g =>
  pgs_cons (h X g) (h' X g) (by cases e <;> first | rfl | cases hs)
theorem tg_tup {gts : TGs} {k0 n : Nat} (h : TgsJ c es gts) (hs : es.all (fun e => !isStar e) = true := by rfl) (hn : es.length = n := by rfl) : TgJ c (.Tuple es k0 pos) (gTup c.K n gts) := fun X g => by
  rw [← g.K]
  have q : ∀ es : List Expr, es.all (fun e => !isStar e) = true → (assignEach es X.env).length = es.length ∧ (assignEach es X.env).findIdx? (·.1) = none := by
    intro es
    induction es with
    | nil => exact fun _ => ⟨rfl, rfl⟩
    | cons e r ih =>
      intro h
      simp only [List.all_cons, Bool.and_eq_true, Bool.not_eq_true'] at h
      obtain ⟨h1, h2⟩ := ih h.2
      have e1 : assignEach (e :: r) X.env = (false, assign e X.env) :: assignEach r X.env := by
        cases e <;> first | rfl | cases h.1
      rw [e1]
      exact ⟨by simp [h1], by simp [List.findIdx?_cons, h2]⟩
  exact pg_tup g.calm (h X g) (by rw [(q es hs).1, hn]) (q es hs).2
theorem gs_nil : GsJ c gNil [] Γ μ Γ [] := fun φ π σ H vs s0 g0 h Q q => by
  cases h
  exact ⟨rfl, q σ g0 fun _ _ => rfl⟩
theorem gs_cons {gt : TG} {gts : TGs} {ds : List D} {js ks : List Nat} (h : GvJ c gt (.dat d) Γ μ Γ1 js) (h' : GsJ c gts ds Γ1 μ Γ2 ks) : GsJ c (gCons gt gts) (d :: ds) Γ μ Γ2 (js ++ ks) := fun φ π σ H vs s0 g0 hh Q q => by
  cases hh with
  | cons k l =>
    refine ⟨_, _, rfl, ?_⟩
    refine h φ π σ H _ s0 g0 k _ fun σ1 g1 w1 => ?_
    exact h' φ π σ1 H _ s0 g1 l _ fun σ2 g2 w2 => q σ2 g2 fun ws hw => (w2 ws fun j hj => hw j (List.mem_append_right _ hj)).trans (w1 ws fun j hj => hw j (List.mem_append_left _ hj))
theorem gv_tup {gts : TGs} {n : Nat} {ds : List D} {js : List Nat} (h : GsJ c gts ds Γ μ Γ1 js) (hn : ds.length = n := by rfl) : GvJ c (gTup c.K n gts) (.dat (.tup ds)) Γ μ Γ1 js := fun φ π σ H v s0 g0 k Q q => by
  cases k with
  | tup s l => exact ⟨_, _, rfl, (hd_le _ _ _ _ : Ex _ _).sqT s, by rw [← l.len, hn], h φ π σ H _ s0 g0 l Q q⟩
def isTup : Expr → Bool
  | .Tuple .. => true
  | _ => false
theorem no_stores {tg : Expr} (h : isTup e = false) (env : Env) : swappedStores [tg] e env = pure none := by
  cases tg <;> cases e <;> first | rfl | cases h
/-- a, b = e -/
theorem st_asg {tg : Expr} {gt : TG} {js : List Nat} (h : EvJ c e Γ μ t μ1) (hg : TgJ c tg gt) (hv : GvJ c gt t Γ μ1 Γ1 js) (hs : isComp e = false := by rfl) (ht : isTup e = false := by rfl) (hst : isStar tg = false := by rfl) : StJ c (.Assign [tg] e pos) Γ μ (.nx Γ1 μ1) := by
  intro X g φ π σ H s0 g0 D q
  refine toS (ps_asg pe_sem (hg X g) (no_swap hs _ _ _) (no_stores ht _) (by cases tg <;> first | rfl | cases hst)) ?_
  refine h X g φ π σ H s0 g0 _ fun v π1 H1 n1 k1 => ?_
  have n1' := n1; have k1' := k1; have g1 := g0.nx n1; have s1 := n1.ok
  rw [g.K] at k1' g1 s1
  exact hv φ π1 σ H1 v s1 g1 k1' _ fun σ' f' _ => q σ' π1 H1 n1 (by rw [g.K]; exact f')

/-! ### what is walked -/
def Walks (K : PySem.W.Frag) (J : It) (its : List T) (φ π1 : List Addr) (H1 : Hp) (μ1 : List M) : Prop :=
  ∀ (i : Nat) φ2 π2 H2 μ2, SOk K φ2 π2 H2 μ2 → (∃ p, π2 = π1 ++ p) → Ex (hd φ π1 μ1 H1) (hd φ2 π2 μ2 H2) →
    (∀ t, its[i]? = some t → J.go i H2 ∧ ∀ x H', J.yld i H2 x H' → Nxt K φ2 π2 H2 μ2 π2 H' μ2 ∧ TOk K π2 (hd φ2 π2 μ2 H') t x) ∧ (its.length ≤ i → J.stop i H2)
def IterJ (c : Ctx) (tg iter : Expr) (Γ : List (Option T)) (μ : List M) (its : List T) (μ1 : List M) : Prop :=
  ∀ X, Good c X → ∃ wi, PI X tg iter wi ∧ ∀ φ π σ H, SOk X.K φ π H μ → FOk X.K π (hd φ π μ H) Γ σ → ∀ R : It → Hp → Prop, (∀ J π1 H1, Nxt X.K φ π H μ π1 H1 μ1 → Walks X.K J its φ π1 H1 μ1 → R J H1) → wi σ H R
theorem lst_walks {K : PySem.W.Frag} {φ π1 : List Addr} {H1 : Hp} {ds : List D} {p : Addr} {vs : List V} (s : SqL K (hd φ π1 μ1 H1) p vs) (l : DtL K (hd φ π1 μ1 H1) ds vs) : Walks K (Itl K p) (dats ds) φ π1 H1 μ1 := fun i φ2 π2 H2 μ2 s2' _ le => by
  have s2 : SqL K H2 p vs := (hd_le _ _ _ _ : Ex _ _).sqL (Ex.sqL le s)
  have l2 := DtL.mono le l
  refine ⟨fun t ht => ?_, fun hi => ⟨vs, s2, by rw [← l.len]; simpa [dats] using hi⟩⟩
  have : ∃ x, ds[i]? = some x ∧ t = .dat x := by
    unfold dats at ht
    rw [List.getElem?_map] at ht
    cases e : ds[i]? with
    | none => rw [e] at ht; cases ht
    | some x => rw [e] at ht; exact ⟨x, rfl, (Option.some.inj ht).symm⟩
  obtain ⟨x, hx, rfl⟩ := this
  obtain ⟨y, hy, k⟩ := l2.get hx
  refine ⟨⟨vs, y, s2, hy⟩, fun z H' hz => ?_⟩
  obtain ⟨rfl, hz⟩ := hz
  have := hz vs s2
  rw [hy] at this; cases this
  exact ⟨Nxt.refl s2', k⟩
theorem it_lst {tg : Expr} {ds : List D} (h : EvJ c e Γ μ (.dat (.lst ds)) μ1) : IterJ c tg e Γ μ (dats ds) μ1 := fun X g => ⟨_, pi_list pe_sem, fun φ π σ H s0 g0 R q => by
  refine h X g φ π σ H s0 g0 _ fun v π1 H1 n1 k1 => ?_
  cases k1 with
  | lst s l => exact ⟨_, rfl, ⟨_, (hd_le _ _ _ _ : Ex _ _).sqL s⟩, q _ π1 H1 n1 (lst_walks s l)⟩⟩
theorem it_tup {tg : Expr} {ds : List D} (h : EvJ c e Γ μ (.dat (.tup ds)) μ1) : IterJ c tg e Γ μ (dats ds) μ1 := fun X g => ⟨_, pi_tup pe_sem, fun φ π σ H s0 g0 R q => by
  refine h X g φ π σ H s0 g0 _ fun v π1 H1 n1 k1 => ?_
  cases k1 with
  | tup s l =>
    refine ⟨_, rfl, ⟨_, (hd_le _ _ _ _ : Ex _ _).sqT s⟩, q _ π1 H1 n1 fun i φ2 π2 H2 μ2 s2' hx0 le => ?_⟩
    clear hx0
    rename_i p vs
    have s2 : SqT X.K H2 p vs := (hd_le _ _ _ _ : Ex _ _).sqT (Ex.sqT le s)
    have l2 := DtL.mono le l
    refine ⟨fun t ht => ?_, fun hi => ⟨vs, s2, by rw [← l.len]; simpa [dats] using hi⟩⟩
    have : ∃ x, ds[i]? = some x ∧ t = .dat x := by
      unfold dats at ht
      rw [List.getElem?_map] at ht
      cases e : ds[i]? with
      | none => rw [e] at ht; cases ht
      | some x => rw [e] at ht; exact ⟨x, rfl, (Option.some.inj ht).symm⟩
    obtain ⟨x, hx, rfl⟩ := this
    obtain ⟨y, hy, k⟩ := l2.get hx
    refine ⟨⟨vs, y, s2, hy⟩, fun z H' hz => ?_⟩
    obtain ⟨rfl, hz⟩ := hz
    have := hz vs s2
    rw [hy] at this; cases this
    exact ⟨Nxt.refl s2', k⟩⟩
/-- the ints lo .. -/
def rgD (lo : Int) (n : Nat) : List T := (List.range n).map fun i => T.int (lo + (i : Nat))
theorem rgD_get {lo : Int} {n i : Nat} {t : T} (h : (rgD lo n)[i]? = some t) : i < n ∧ t = .int (lo + (i : Nat)) := by
  unfold rgD at h
  rw [List.getElem?_map] at h
  by_cases hi : i < n
  · rw [List.getElem?_range hi] at h
    exact ⟨hi, (Option.some.inj h).symm⟩
  · rw [List.getElem?_eq_none (by simpa using hi)] at h; cases h
theorem rg_walks {K : PySem.W.Frag} {φ π1 : List Addr} {H1 : Hp} {lo : Int} {n : Nat} : Walks K (Itr lo n) (rgD lo n) φ π1 H1 μ1 := fun i φ2 π2 H2 μ2 s2' _ le => by
  refine ⟨fun t ht => ?_, fun hi => show n ≤ i by simpa [rgD] using hi⟩
  obtain ⟨hi, rfl⟩ := rgD_get ht
  refine ⟨hi, fun z H' hz => ?_⟩
  obtain ⟨rfl, rfl⟩ := hz
  exact ⟨Nxt.refl s2', .int _⟩
theorem it_range1 {tg : Expr} {n : Int} {p : Pos} (h : EvJ c a Γ μ (.int n) μ1) (hn : n < 2 ^ 62) (hg : c.sc.names.lookup ("range" : Str) = some .globalImplicit) (hm : c.mg "range" = none) (hl : -(2 ^ 62) ≤ n := by omega) (hs : isStar a = false := by rfl) : IterJ c tg (.Call (.Name "range" p) [a] [] pos) Γ μ (rgD 0 n.toNat) μ1 := fun X g =>
  ⟨_, pi_range1 (show X.env.scope.names.lookup ("range" : Str) = _ by rw [g.sc]; exact hg) (by rw [g.mg]; exact hm) pa_sem (by rw [star_cons hs]; rfl), fun φ π σ H s0 g0 R q => by
  refine (aj_cons h aj_nil hs : AJ c [a] Γ μ [_] μ1) X g φ π σ H s0 g0 _ fun vs π1 H1 n1 k1 => ?_
  obtain ⟨v, rfl, k⟩ := k1.one
  cases k
  exact ⟨n, rfl, hl, hn, q _ π1 H1 n1 rg_walks⟩⟩
theorem it_range2 {tg : Expr} {lo n : Int} {p : Pos} (h : EvJ c a Γ μ (.int lo) μ1) (h' : EvJ c b Γ μ1 (.int n) μ2) (hl : -(2 ^ 62) ≤ lo ∧ lo < 2 ^ 62) (hn : -(2 ^ 62) ≤ n ∧ n < 2 ^ 62) (hg : c.sc.names.lookup ("range" : Str) = some .globalImplicit) (hm : c.mg "range" = none) (hs : isStar a = false := by rfl) (hs' : isStar b = false := by rfl) :
    IterJ c tg (.Call (.Name "range" p) [a, b] [] pos) Γ μ (rgD lo (n - lo).toNat) μ2 := fun X g =>
  ⟨_, pi_range2 (show X.env.scope.names.lookup ("range" : Str) = _ by rw [g.sc]; exact hg) (by rw [g.mg]; exact hm) pa_sem (by rw [star_cons hs, star_cons hs']; rfl) (by rw [star_cons hs']; rfl), fun φ π σ H s0 g0 R q => by
  refine (aj_cons h (aj_cons h' aj_nil hs') hs : AJ c [a, b] Γ μ [_, _] μ2) X g φ π σ H s0 g0 _ fun vs π1 H1 n1 k1 => ?_
  obtain ⟨v, w, rfl, k, k'⟩ := k1.two
  cases k; cases k'
  exact ⟨lo, n, rfl, ⟨hl.1, hl.2, hn.1, hn.2⟩, q _ π1 H1 n1 rg_walks⟩⟩
/-- the signs of a text -/
def chD (z : Str) : List T := z.cps.toList.map fun k => T.str ⟨#[k]⟩
theorem it_str {tg : Expr} {z : Str} (h : EvJ c e Γ μ (.str z) μ1) : IterJ c tg e Γ μ (chD z) μ1 := fun X g => ⟨_, pi_str pe_sem, fun φ π σ H s0 g0 R q => by
  refine h X g φ π σ H s0 g0 _ fun v π1 H1 n1 k1 => ?_
  cases k1
  refine ⟨z, rfl, q _ π1 H1 n1 fun i φ2 π2 H2 μ2 s2' _ le => ⟨fun t ht => ?_, fun hi => ?_⟩⟩
  · unfold chD at ht
    rw [List.getElem?_map] at ht
    cases e : z.cps.toList[i]? with
    | none => rw [e] at ht; cases ht
    | some x =>
      rw [e] at ht
      cases ht
      have hi : i < z.cps.size := by have := (List.getElem?_eq_some_iff.mp e).1; simpa using this
      refine ⟨hi, fun y H' hy => ?_⟩
      obtain ⟨rfl, k, hk, rfl⟩ := hy
      rw [Array.getElem?_toList] at e
      rw [hk] at e; cases e
      exact ⟨Nxt.refl s2', .str _⟩
  · show z.cps.size ≤ i
    simpa [chD] using hi⟩

/-! ### for -/
/-- what the turns over its come to -/
def LoopJ (c : Ctx) (gt : TG) (body : List Stmt) : List T → List (Option T) → List M → Out → Prop
  | [], Γ, μ, o => o = .nx Γ μ
  | t :: ts, Γ, μ, o => ∃ Γ1 js, GvJ c gt t Γ μ Γ1 js ∧ ∃ o1, SJ c body Γ1 μ o1 ∧ match o1 with
    | .nx Γ2 μ2 => LoopJ c gt body ts Γ2 μ2 o
    | .ct Γ2 μ2 => LoopJ c gt body ts Γ2 μ2 o
    | .bk Γ2 μ2 => o = .nx Γ2 μ2
    | .rt u μ2 => o = .rt u μ2
theorem st_for {tg iter : Expr} {body : List Stmt} {its : List T} {gt : TG} (hi : IterJ c tg iter Γ μ its μ1) (hg : TgJ c tg gt) (hl : LoopJ c gt body its Γ μ1 o) (hs : ∀ env x, foldedSetIterable iter env x = pure x := by intro _ _; rfl) : StJ c (.For tg iter body [] pos) Γ μ o := by
  intro X g φ π σ H s0 g0 D q
  obtain ⟨wi, hpi, oki⟩ := hi X g
  refine toS (ps_for g.pass g.calm hpi (hg X g) pss_sem (hs X.env)) ?_
  refine oki φ π σ H s0 g0 _ fun J π1 H1 n1 wk => ?_
  refine ⟨fun i m σ' H' => m = its.length - i ∧ i ≤ its.length ∧ ∃ π2 Γ2 μ2, Nxt X.K φ π1 H1 μ1 π2 H' μ2 ∧ FOk X.K π2 (hd φ π2 μ2 H') Γ2 σ' ∧ LoopJ c gt body (its.drop i) Γ2 μ2 o, ⟨its.length, by simp, by simp, π1, Γ, μ1, Nxt.refl n1.ok, g0.nx n1, hl⟩, ?_⟩
  rintro i m σ' H' ⟨rfl, hle, π2, Γ2, μ2, n2, f2, l2⟩
  obtain ⟨w1, w2⟩ := wk i φ π2 H' μ2 n2.ok n2.ext n2.le
  by_cases hlt : i < its.length
  · have hd' : its.drop i = its[i] :: its.drop (i + 1) := List.drop_eq_getElem_cons hlt
    rw [hd'] at l2
    obtain ⟨Γ3, js, hv, o1, hb, l3⟩ := l2
    obtain ⟨go, yl⟩ := w1 its[i] (List.getElem?_eq_getElem hlt)
    refine .inr ⟨go, fun σ4 H4 => ∃ m', m' < its.length - i ∧ (m' = its.length - (i + 1) ∧ i + 1 ≤ its.length ∧ ∃ π2 Γ2 μ2, Nxt X.K φ π1 H1 μ1 π2 H4 μ2 ∧ FOk X.K π2 (hd φ π2 μ2 H4) Γ2 σ4 ∧ LoopJ c gt body (its.drop (i + 1)) Γ2 μ2 o), fun σ4 H4 h4 => h4, fun x H3 hx => ?_⟩
    obtain ⟨n3, k3⟩ := yl x H3 hx
    have f3 := f2.nx n3
    have s3 := n3.ok
    rw [g.K] at f3 s3 k3
    refine hv φ π2 σ' H3 x s3 f3 k3 _ fun σ5 f5 _ => ?_
    rw [← g.K] at f5 s3
    refine hb X g φ π2 σ5 H3 n3.ok f5 _ ?_
    cases o1 with
    | nx Γ4 μ4 => exact fun σ6 π6 H6 n6 f6 => ⟨_, by omega, rfl, hlt, π6, Γ4, μ4, (n2.trans n3).trans n6, f6, l3⟩
    | ct Γ4 μ4 => exact fun σ6 π6 H6 n6 f6 => ⟨_, by omega, rfl, hlt, π6, Γ4, μ4, (n2.trans n3).trans n6, f6, l3⟩
    | bk Γ4 μ4 =>
      have l3 : o = .nx Γ4 μ4 := l3
      subst l3
      exact fun σ6 π6 H6 n6 f6 => q σ6 π6 H6 (((n1.trans n2).trans n3).trans n6) f6
    | rt u μ4 =>
      have l3 : o = .rt u μ4 := l3
      subst l3
      exact fun v π6 H6 n6 f6 => q v π6 H6 (((n1.trans n2).trans n3).trans n6) f6
  · have e : i = its.length := by omega
    subst e
    rw [List.drop_length] at l2
    have l2 : o = .nx Γ2 μ2 := l2
    subst l2
    exact .inl ⟨w2 (Nat.le_refl _), q σ' π2 H' (n1.trans n2) f2⟩

/-! ### while -/
inductive WhJ (c : Ctx) (x : Expr) (body : List Stmt) : Nat → List (Option T) → List M → Out → Prop
  | done {Γ : List (Option T)} {μ μ1 : List M} (h : TJ c x Γ μ false μ1) : WhJ c x body 0 Γ μ (.nx Γ μ1)
  | more {Γ Γ2 : List (Option T)} {μ μ1 μ2 : List M} {o : Out} {n : Nat} (h : TJ c x Γ μ true μ1) (hb : SJ c body Γ μ1 (.nx Γ2 μ2)) (hr : WhJ c x body n Γ2 μ2 o) : WhJ c x body (n + 1) Γ μ o
  | cont {Γ Γ2 : List (Option T)} {μ μ1 μ2 : List M} {o : Out} {n : Nat} (h : TJ c x Γ μ true μ1) (hb : SJ c body Γ μ1 (.ct Γ2 μ2)) (hr : WhJ c x body n Γ2 μ2 o) : WhJ c x body (n + 1) Γ μ o
  | brk {Γ Γ2 : List (Option T)} {μ μ1 μ2 : List M} (h : TJ c x Γ μ true μ1) (hb : SJ c body Γ μ1 (.bk Γ2 μ2)) : WhJ c x body 0 Γ μ (.nx Γ2 μ2)
  | ret {Γ : List (Option T)} {μ μ1 μ2 : List M} {u : T} (h : TJ c x Γ μ true μ1) (hb : SJ c body Γ μ1 (.rt u μ2)) : WhJ c x body 0 Γ μ (.rt u μ2)
theorem st_while {x : Expr} {body : List Stmt} (h : ∃ n, WhJ c x body n Γ μ o) : StJ c (.While x body [] pos) Γ μ o := by
  intro X g φ π σ H s0 g0 D q
  obtain ⟨n, h⟩ := h
  refine toS (ps_while g.pass pt_sem pss_sem) ?_
  refine ⟨fun m σ' H' => ∃ π2 Γ2 μ2, Nxt X.K φ π H μ π2 H' μ2 ∧ FOk X.K π2 (hd φ π2 μ2 H') Γ2 σ' ∧ WhJ c x body m Γ2 μ2 o, ⟨n, π, Γ, μ, Nxt.refl s0, g0, h⟩, ?_⟩
  rintro m σ' H' ⟨π2, Γ2, μ2, n2, f2, w2⟩
  cases w2 with
  | done ht =>
    refine ht X g φ π2 σ' H' n2.ok f2 _ fun π3 H3 n3 => ?_
    rw [if_neg Bool.false_ne_true]
    exact q σ' π3 H3 (n2.trans n3) (f2.nx n3)
  | more ht hb hr =>
    refine ht X g φ π2 σ' H' n2.ok f2 _ fun π3 H3 n3 => ?_
    rw [if_pos rfl]
    refine ⟨_, fun σ4 H4 h4 => h4, ?_⟩
    exact hb X g φ π3 σ' H3 n3.ok (f2.nx n3) _ fun σ4 π4 H4 n4 f4 => ⟨_, Nat.lt_succ_self _, π4, _, _, (n2.trans n3).trans n4, f4, hr⟩
  | cont ht hb hr =>
    refine ht X g φ π2 σ' H' n2.ok f2 _ fun π3 H3 n3 => ?_
    rw [if_pos rfl]
    refine ⟨_, fun σ4 H4 h4 => h4, ?_⟩
    exact hb X g φ π3 σ' H3 n3.ok (f2.nx n3) _ fun σ4 π4 H4 n4 f4 => ⟨_, Nat.lt_succ_self _, π4, _, _, (n2.trans n3).trans n4, f4, hr⟩
  | brk ht hb =>
    refine ht X g φ π2 σ' H' n2.ok f2 _ fun π3 H3 n3 => ?_
    rw [if_pos rfl]
    refine ⟨fun _ _ => False, fun σ4 H4 h4 => h4.elim, ?_⟩
    exact hb X g φ π3 σ' H3 n3.ok (f2.nx n3) _ fun σ4 π4 H4 n4 f4 => q σ4 π4 H4 ((n2.trans n3).trans n4) f4
  | ret ht hb =>
    refine ht X g φ π2 σ' H' n2.ok f2 _ fun π3 H3 n3 => ?_
    rw [if_pos rfl]
    refine ⟨fun _ _ => False, fun σ4 H4 h4 => h4.elim, ?_⟩
    exact hb X g φ π3 σ' H3 n3.ok (f2.nx n3) _ fun v π4 H4 n4 f4 => q v π4 H4 ((n2.trans n3).trans n4) f4

/-! ### list comprehensions -/
def wipeG (Γ : List (Option T)) : List Nat → List (Option T)
  | [] => Γ
  | v :: vs => (wipeG Γ vs).set v none
theorem FOk.wipe {K : PySem.W.Frag} {π : List Addr} {Hd : Hp} {σ : L2.St} (h : FOk K π Hd Γ σ) : ∀ vs : List Nat, FOk K π Hd (wipeG Γ vs) (L2.wipe σ vs)
  | [] => h
  | v :: vs => by
    have ih := FOk.wipe h vs
    refine ⟨by simp [wipeG, L2.wipe, ih.len], fun i t e => ?_⟩
    unfold wipeG at e
    unfold L2.wipe
    by_cases hv : v = i
    · subst hv
      by_cases hl : v < (wipeG Γ vs).length
      · rw [List.getElem?_set_self hl] at e; cases e
      · rw [List.getElem?_eq_none (by simpa using hl)] at e; cases e
    · rw [List.getElem?_set_ne hv] at e
      rw [List.getElem?_set_ne hv]
      exact ih.at_ i t e
/-- the context of a comprehension's block -/
abbrev Ctx.blk (c : Ctx) (scope : Scope) : Ctx := { c with sc := relS scope c.sc, sto := fun x => scope.names.lookup x == some .cell || (relS scope c.sc).names.lookup x == some .local }
theorem Good.blk {X : Cx} (g : Good c X) (scope : Scope) (s : Shared) (H : Hp) (cl : List (Str × Addr)) (C : Addr) (fp : List Addr) : Good (c.blk scope) (X.blk s H scope (compEnvC scope cl C X.env) fp) := by
  have hsc : (compEnvC scope cl C X.env).scope = relS scope c.sc := by rw [← g.sc]; rfl
  refine ⟨g.prog, g.w, g.K, g.mg, g.base, g.N, hsc, g.nd, g.room, g.calm, PassesOwn.never, fun x hx => ?_⟩
  simp only [Ctx.blk, Bool.or_eq_true, beq_iff_eq] at hx
  rcases hx with hx | hx
  · left; show (scope.names.lookup x == some .cell) = true; rw [hx]; rfl
  · right; show (compEnvC scope cl C X.env).scope.names.lookup x = _; rw [hsc]; exact hx
def IfsJ (c : Ctx) (ifs : List Expr) (Γ : List (Option T)) (μ : List M) (b : Bool) (μ' : List M) : Prop := match ifs with
  | [] => b = true ∧ μ' = μ
  | [x] => TJ c x Γ μ b μ'
  | _ => False
/-- what the turns of a comprehension come to -/
def CmpJ (c : Ctx) (gt : TG) (elt : Expr) (ifs : List Expr) (Γ : List (Option T)) (vs : List Nat) : List T → List M → List D → List M → Prop
  | [], μ, ds, μ' => ds = [] ∧ μ' = μ
  | t :: ts, μ, ds, μ' => ∃ Γ1 js b μ2, GvJ c gt t Γ μ Γ1 js ∧ (∀ j ∈ js, j ∈ vs) ∧ IfsJ c ifs Γ1 μ b μ2 ∧
    (b = true → ∃ d μ3 ds', EvJ c elt Γ1 μ2 (.dat d) μ3 ∧ CmpJ c gt elt ifs Γ vs ts μ3 ds' μ' ∧ ds = d :: ds') ∧ (b = false → CmpJ c gt elt ifs Γ vs ts μ2 ds μ')
def semEB (X : Cx) (scope : Scope) (e : Expr) : TE := fun σ H Q => ∀ s0 H0 C cl fp, semE (X.blk s0 H0 scope (compEnvC scope cl C X.env) fp) e σ H Q
def semTsB (X : Cx) (scope : Scope) (ifs : List Expr) : TT := fun σ H Q => ∀ s0 H0 C cl fp pins s, Inv (X.blk s0 H0 scope (compEnvC scope cl C X.env) fp) pins σ H s →
    wpAny (model X.prog X.w) X.A (forIn ifs true fun c r => if r = true then do let ok ← isTrue c (compEnvC scope cl C X.env) (eval c (compEnvC scope cl C X.env)); pure (ForInStep.yield ok) else pure (ForInStep.yield r)) (TP (X.blk s0 H0 scope (compEnvC scope cl C X.env) fp) pins σ Q) (fun _ _ => False) s
theorem wipe_idem {σ : L2.St} {vs : List Nat} : L2.wipe (L2.wipe σ vs) vs = L2.wipe σ vs := by
  apply List.ext_getElem?
  intro i
  by_cases hi : i ∈ vs
  · by_cases hl : i < σ.length
    · rw [wipe_get hi (by simpa [wipe_length] using hl), wipe_get hi hl]
    · rw [List.getElem?_eq_none (by simp [wipe_length]; omega), List.getElem?_eq_none (by simp [wipe_length]; omega)]
  · rw [wipe_out hi]
theorem FOk.mono {K : PySem.W.Frag} {π π' : List Addr} {Hd Hd' : Hp} {σ : L2.St} (h : FOk K π Hd Γ σ) (he : ∃ π2, π' = π ++ π2) (e : Ex Hd Hd') : FOk K π' Hd' Γ σ := ⟨h.len, h.at_.mono he e⟩
theorem ifs_ok {X : Cx} (g : Good c X) {scope : Scope} {ifs : List Expr} {r : Bool} (h : IfsJ (c.blk scope) ifs Γ μ r μ1) {φ π : List Addr} {σ : L2.St} {H : Hp} (s0 : SOk X.K φ π H μ) (g0 : FOk X.K π (hd φ π μ H) Γ σ)
    {Q : Bool → Hp → Prop} (q : ∀ π' H', Nxt X.K φ π H μ π' H' μ1 → Q r H') : semTsB X scope ifs σ H Q := by
  intro sx Hx C cl fp pins s I
  have gb := g.blk scope sx Hx cl C fp
  match ifs, h with
  | [], h =>
    obtain ⟨rfl, rfl⟩ := h
    exact (pts_nil (X := X.blk sx Hx scope (compEnvC scope cl C X.env) fp)).run pins s σ H Q I (q π H (Nxt.refl s0))
  | [x], h =>
    exact (pts_one (X := X.blk sx Hx scope (compEnvC scope cl C X.env) fp) pt_sem).run pins s σ H Q I (h _ gb φ π σ H s0 g0 Q q)
/-- the reading of a comprehension -/
theorem lc_ok {X : Cx} (g : Good c X) {tg iter elt : Expr} {ifs : List Expr} {scope : Scope} {vs : List Nat} {gt : TG} {its : List T} {ds : List D} {wi : TI} {φ π : List Addr} {σ : L2.St} {H : Hp} {Q : VK}
    (oki : ∀ R : It → Hp → Prop, (∀ J π1 H1, Nxt X.K φ π H μ π1 H1 μ1 → Walks X.K J its φ π1 H1 μ1 → R J H1) → wi σ H R) (s0 : SOk X.K φ π H μ) (g0 : FOk X.K π (hd φ π μ H) Γ σ)
    (hz : its.length ≤ 1000000) (hl : CmpJ (c.blk scope) gt elt ifs (wipeG Γ vs) vs its μ1 ds μ2) (q : Pst X.K φ π H μ (.dat (.lst ds)) μ2 Q) : tLc wi gt (semTsB X scope ifs) (semEB X scope elt) vs σ H Q := by
  refine oki _ fun J π1 H1 n1 wk => fun Dl hD => ?_
  have hφ : Dl ∉ φ := fun z => n1.ok.notin hD (List.mem_append_left _ z)
  obtain ⟨f1, e1⟩ := n1.ok.frame (o := .lst []) hD
  refine ⟨fun i m H' => m = its.length - i ∧ i ≤ its.length ∧ ∃ π2 μ2' acc done rest, (∃ p, π2 = π1 ++ p) ∧ SOk X.K (Dl :: φ) π2 H' μ2' ∧ (∀ a ∈ φ, H' a = H1 a) ∧ Ex (hd φ π1 μ1 H1) (hd (Dl :: φ) π2 μ2' H') ∧ H' Dl = some (.lst acc) ∧ acc.length ≤ i ∧ DtL X.K (hd (Dl :: φ) π2 μ2' H') done acc ∧ CmpJ (c.blk scope) gt elt ifs (wipeG Γ vs) vs (its.drop i) μ2' rest μ2 ∧ ds = done ++ rest,
    ⟨its.length, by simp, by simp, π1, μ1, [], [], ds, ⟨[], by simp⟩, f1, fun a ha => upd_ne (show a ≠ Dl from fun z => hφ (z ▸ ha)), by rw [e1]; exact Ex.rfl', upd_same, Nat.le_refl _, .nil, hl, rfl⟩, ?_⟩
  rintro i m H' ⟨rfl, hle, π2, μ3, acc, done, rest, hext, s2, same2, le2, hacc, hal, hdone, l2, hds⟩
  obtain ⟨w1, w2⟩ := wk i (Dl :: φ) π2 H' μ3 s2 hext le2
  by_cases hlt : i < its.length
  · have hd' : its.drop i = its[i] :: its.drop (i + 1) := List.drop_eq_getElem_cons hlt
    rw [hd'] at l2
    obtain ⟨Γ1, js, b, μ4, hv, hjs, hifs, ht, hf⟩ := l2
    obtain ⟨go, yl⟩ := w1 its[i] (List.getElem?_eq_getElem hlt)
    refine .inr ⟨go, fun H5 => ∃ m', m' < its.length - i ∧ (m' = its.length - (i + 1) ∧ i + 1 ≤ its.length ∧ ∃ π2 μ2' acc done rest, (∃ p, π2 = π1 ++ p) ∧ SOk X.K (Dl :: φ) π2 H5 μ2' ∧ (∀ a ∈ φ, H5 a = H1 a) ∧ Ex (hd φ π1 μ1 H1) (hd (Dl :: φ) π2 μ2' H5) ∧ H5 Dl = some (.lst acc) ∧ acc.length ≤ i + 1 ∧ DtL X.K (hd (Dl :: φ) π2 μ2' H5) done acc ∧ CmpJ (c.blk scope) gt elt ifs (wipeG Γ vs) vs (its.drop (i + 1)) μ2' rest μ2 ∧ ds = done ++ rest), fun H5 h5 => h5, fun x H3 hx => ?_⟩
    obtain ⟨n3, k3⟩ := yl x H3 hx
    have f0 : FOk X.K π2 (hd (Dl :: φ) π2 μ3 H3) (wipeG Γ vs) (L2.wipe σ vs) := by
      refine (g0.wipe vs).mono ?_ ((n1.le.tr le2).tr n3.le)
      obtain ⟨p1, e1'⟩ := n1.ext
      obtain ⟨p2, e2'⟩ := hext
      exact ⟨p1 ++ p2, by rw [e2', e1', List.append_assoc]⟩
    have s3 := n3.ok
    have f0' := f0; have s3' := s3; have k3' := k3
    rw [g.K] at f0' s3' k3'
    refine hv (Dl :: φ) π2 (L2.wipe σ vs) H3 x s3' f0' k3' _ fun σ4 f4 w4 => ?_
    replace f4 : FOk X.K π2 (hd (Dl :: φ) π2 μ3 H3) Γ1 σ4 := by rw [g.K]; exact f4
    refine ⟨(w4 vs hjs).trans wipe_idem, ?_⟩
    refine ifs_ok g hifs s3 f4 fun π5 H5 n5 => ?_
    have n35 := n3.trans n5
    have ext5 : ∃ p, π5 = π1 ++ p := by
      obtain ⟨p1, e1'⟩ := hext
      obtain ⟨p2, e2'⟩ := n35.ext
      exact ⟨p1 ++ p2, by rw [e2', e1', List.append_assoc]⟩
    cases b with
    | false =>
      rw [if_neg Bool.false_ne_true]
      exact ⟨_, by omega, rfl, hlt, π5, μ4, acc, done, rest, ext5, n5.ok, fun a ha => (n35.same a (List.mem_cons_of_mem _ ha)).trans (same2 a ha), le2.tr n35.le, by rw [n35.same Dl (by simp)]; exact hacc, by omega, DtL.mono n35.le hdone, hf rfl, hds⟩
    | true =>
      rw [if_pos rfl]
      obtain ⟨d, μ5, ds', hev, l5, rfl⟩ := ht rfl
      intro sx Hx C cl fp
      refine hev _ (g.blk scope sx Hx cl C fp) (Dl :: φ) π5 σ4 H5 n5.ok (f4.nx n5) _ fun y π6 H6 n6 k6 => ?_
      have n36 := n35.trans n6
      have hD6 : H6 Dl = some (.lst acc) := by rw [n36.same Dl (by simp)]; exact hacc
      refine ⟨acc, hD6, Nat.lt_of_le_of_lt (Nat.le_trans hal hle) (Nat.lt_of_le_of_lt hz (by decide)), ?_⟩
      obtain ⟨s7, e7⟩ := n6.ok.fwrite (o := .lst (acc ++ [y]))
      refine ⟨_, by omega, rfl, hlt, π6, μ5, acc ++ [y], done ++ [d], ds', ?_, s7, fun a ha => ?_, ?_, upd_same, by simp; omega, ?_, l5, by rw [hds]; simp⟩
      · obtain ⟨p1, e1'⟩ := hext
        obtain ⟨p2, e2'⟩ := n36.ext
        exact ⟨p1 ++ p2, by rw [e2', e1', List.append_assoc]⟩
      · rw [upd_ne (show a ≠ Dl from fun z => hφ (z ▸ ha)), n36.same a (List.mem_cons_of_mem _ ha)]
        exact same2 a ha
      · rw [e7]; exact le2.tr n36.le
      · rw [e7]; exact (DtL.mono n36.le hdone).append (.cons k6 .nil)
  · have e : i = its.length := by omega
    subst e
    rw [List.drop_length] at l2
    obtain ⟨rfl, rfl⟩ := l2
    rw [List.append_nil] at hds
    subst hds
    refine .inl ⟨w2 (Nat.le_refl _), ?_⟩
    obtain ⟨u1, u2, u3⟩ := s2.unframe hφ
    exact q _ π2 H' (n1.trans ⟨hext, u1, same2, le2.tr u2⟩) (.lst (SqL.of (by rw [u3]; exact hacc)) (DtL.mono u2 hdone))
/-- the slots of the block's own names -/
theorem ev_comp {tg iter elt : Expr} {ifs : List Expr} {scope : Scope} {own : List (Str × Nat)} {gt : TG} {its : List T} {ds : List D} (hi : IterJ c tg iter Γ μ its μ1) (hb : blkC c.N c.sc scope own = true) (hg : TgJ (c.blk scope) tg gt)
    (hl : CmpJ (c.blk scope) gt elt ifs (wipeG Γ (own.map (·.2))) (own.map (·.2)) its μ1 ds μ2) (hz : its.length ≤ 1000000) (hs : ∀ env x, foldedSetIterable iter env x = pure x := by intro _ _; rfl) :
    EvJ c (.ListComp elt [⟨tg, iter, ifs, 0⟩] scope pos) Γ μ (.dat (.lst ds)) μ2 := by
  intro X g φ π σ H s0 g0 Q q
  obtain ⟨wi, hpi, oki⟩ := hi X g
  refine toE (pe_lc (own := own) (g := gt) (tt := semTsB X scope ifs) (te := semEB X scope elt) g.calm (by rw [g.N]; exact g.nd) hpi (by rw [g.N, g.sc]; exact blkOk_by hb) (fun s H C cl fp => hg _ (g.blk scope s H cl C fp)) (fun s H C cl fp => ⟨fun pins s' σ H' Q I h => h s H C cl fp pins s' I⟩) (fun s H C cl fp => ⟨fun pins s' σ H' Q I h => h s H C cl fp pins s' I⟩) (hs X.env)) ?_
  exact lc_ok (tg := tg) (iter := iter) g (oki φ π σ H s0 g0) s0 g0 hz hl q
/-- name = [.. for ..] -/
theorem st_setLc {tg iter elt : Expr} {ifs : List Expr} {scope : Scope} {own : List (Str × Nat)} {gt : TG} {its : List T} {ds : List D} {i : Nat} {y : Str} {py spos : Pos} (hi : IterJ c tg iter Γ μ its μ1) (hy : c.N[i]? = some y) (hyl : c.sc.names.lookup y = some .local) (hk : c.sc.kind = .function := by rfl) (hb : blkC c.N c.sc scope own = true) (hg : TgJ (c.blk scope) tg gt)
    (hl : CmpJ (c.blk scope) gt elt ifs (wipeG Γ (own.map (·.2))) (own.map (·.2)) its μ1 ds μ2) (hz : its.length ≤ 1000000) (hll : (py.line == pos.line) = true) (ha : (scope.names.any fun (n, k) => n == y && (k == .local || k == .cell)) = false) (hs : ∀ env x, foldedSetIterable iter env x = pure x := by intro _ _; rfl) :
    StJ c (.Assign [.Name y py] (.ListComp elt [⟨tg, iter, ifs, 0⟩] scope pos) spos) Γ μ (.nx (Γ.set i (some (.dat (.lst ds)))) μ2) := by
  intro X g φ π σ H s0 g0 D q
  obtain ⟨wi, hpi, oki⟩ := hi X g
  refine toS (ps_setLc (i := i) (own := own) (g := gt) (tt := semTsB X scope ifs) (te := semEB X scope elt) g.calm (by rw [g.N]; exact g.nd) (by rw [g.N]; exact hy) (by rw [g.sc]; exact hyl) (sw_true (by rw [g.sc]; exact hk) (by rw [g.sc]; exact hyl) hll ha) hpi (by rw [g.N, g.sc]; exact blkOk_by hb) (fun s H C cl fp => hg _ (g.blk scope s H cl C fp)) (fun s H C cl fp => ⟨fun pins s' σ H' Q I h => h s H C cl fp pins s' I⟩) (fun s H C cl fp => ⟨fun pins s' σ H' Q I h => h s H C cl fp pins s' I⟩) (hs X.env)) ?_
  exact lc_ok (tg := tg) (iter := iter) g (oki φ π σ H s0 g0) s0 g0 hz hl fun v π1 H1 n1 k1 => q _ π1 H1 n1 ((g0.nx n1).set k1)
end

/-! ### a def by its body -/
def g0 (N : List Str) (ts : List T) : List (Option T) := ts.map some ++ List.replicate (N.length - ts.length) none
def HasDef (G : Gc) (d : He.DefD) : Prop := ∃ fd, FunD G.K d.name d.qual d.params d.body d.scope (d.dvs G.K) (d.kws G.K) (He.fAd G.K d.at_) fd
def DefBinds (G : Gc) (d : He.DefD) (ps : List Str) (dts : List D) : Prop := ∀ fd, FunD G.K d.name d.qual d.params d.body d.scope (d.dvs G.K) (d.kws G.K) (He.fAd G.K d.at_) fd → ∃ dvs ds, Vals dvs ds ∧ Binds G.K fd ps ds ∧ ∀ H, DtL G.K H dts dvs
abbrev bodyC (G : Gc) (N : List Str) (d : He.DefD) (k : Nat) : Ctx := { G with N := N, sc := d.scope, k := k, sto := fun _ => true }
theorem start_ok {K : PySem.W.Frag} {π : List Addr} {Hd : Hp} {N : List Str} {ts : List T} {vs : List V} (h : TL K π Hd ts vs) : FOk K π Hd (g0 N ts) (L2.start N vs) := by
  have hl := h.len
  refine ⟨by simp [g0, L2.start, hl], fun i t e => ?_⟩
  unfold g0 at e
  by_cases hi : i < ts.length
  · rw [List.getElem?_append_left (by simpa using hi)] at e
    have : ∀ {ts : List T} {vs : List V}, TL K π Hd ts vs → ∀ (i : Nat) (t : T), (ts.map some)[i]? = some (some t) → ∃ v, (vs.map some)[i]? = some (some v) ∧ TOk K π Hd t v := by
      intro ts vs h
      induction h with
      | nil => intro i t e; simp at e
      | cons q _ ih =>
        intro i t e
        cases i with
        | zero => simp at e; subst e; exact ⟨_, rfl, q⟩
        | succ i => exact ih i t (by simpa using e)
    obtain ⟨v, h1, h2⟩ := this h i t e
    refine ⟨v, ?_, h2⟩
    unfold L2.start
    rw [List.getElem?_append_left (by simpa [← hl] using hi)]
    exact h1
  · rw [List.getElem?_append_right (by simpa using hi)] at e
    rw [List.getElem?_replicate] at e
    split at e <;> cases e
/-- what a body comes to, told as a call's end -/
def Out.ends : Out → T → List M → Prop
  | .nx _ μ1, t, μ2 => t = .dat .non ∧ μ1 = μ2
  | .rt u μ1, t, μ2 => u = t ∧ μ1 = μ2
  | _, _, _ => False
theorem call_body {G : Gc} {d : He.DefD} {N ps : List Str} {k : Nat} {ts : List T} {dts : List D} {μ μ' : List M} {t : T} {o : Out} (hD : HasDef G d) (S : FnScope N ps d.scope) (hb : DefBinds G d ps dts) (hl : (ts ++ dats dts).length = ps.length)
    (h : SJ (bodyC G N d k) d.body (g0 N (ts ++ dats dts)) μ o) (ho : o.ends t μ') : CallJ G (k + 1) d.at_ ts dts μ t μ' := by
  obtain ⟨fd, F⟩ := hD
  obtain ⟨dvs, ds, h1, h2, h3⟩ := hb fd F
  refine ⟨fd, ps, dvs, ds, F.kp, h1, h2, h3, ?_⟩
  refine F.ok S (fun vs H Q E hsp => ?_) fun cdv A outer s H vs Q E hr hsp => ⟨_, pss_sem, ?_⟩
  · obtain ⟨φ, π, _, hts, _⟩ := hsp
    rw [← hts.len, hl]
  · obtain ⟨φ, π, s0, hts, q⟩ := hsp
    have g : Good (bodyC G N d k) (cxOf (L2.CX G.P G.w) G.P G.w G.K G.mg G.base N d.qual d.scope (He.fAd G.K d.at_) cdv A outer s H E) :=
      ⟨rfl, rfl, rfl, rfl, rfl, rfl, rfl, S.nd, hr, rfl, passes_of rfl, fun _ _ => .inl rfl⟩
    refine h _ g φ π _ H s0 (start_ok hts) _ ?_
    cases o with
    | nx Γ μ1 =>
      obtain ⟨rfl, rfl⟩ := ho
      exact fun σ' π' H' n f => q _ π' H' n .non
    | rt u μ1 =>
      obtain ⟨rfl, rfl⟩ := ho
      exact q
    | bk _ _ => cases ho
    | ct _ _ => cases ho
/-- no defaults -/
theorem binds0 {G : Gc} {d : He.DefD} {ps : List Str} (hd : d.dfl = []) (h : ∀ (kV doc pm : Value) (an : Option Addr) (cdv ct : Value) (us : List Value), us.length = ps.length → bindArgs (PySem.W.fnOf d.name d.qual d.params d.body d.scope .none kV doc pm an cdv ct) ⟨us, []⟩ = pure (ps.zip us)) : DefBinds G d ps [] := fun fd F => by
  have e : d.dvs G.K = [] := by unfold He.DefD.dvs; rw [hd]; rfl
  rw [e] at F
  exact ⟨[], [], .nil, F.bindsN h, fun _ => .nil⟩
/-- a law that comes to True, told for its row's end -/
theorem law_sp {K : PySem.W.Frag} {ns : List Int} {a : Addr} {H : Hp} (hS : SqL K H a (ns.map V.int)) : spJ K [.dat (.lst (ns.map D.int))] [] (.dat (.bl true)) [] [.ref a] H (fun v _ => v = .bl true) fun _ _ _ => False := by
  have s0 : SOk K [] [] H [] := ⟨(fun x h => nomatch h), rfl, List.nodup_nil, fun i a m h => by cases h⟩
  have e : hd [] [] [] H = H := by funext b; simp [hd, hds]
  refine ⟨[], [], s0, .cons (.lst ?_ intDt) .nil, fun v π' H' n k => by cases k; rfl⟩
  rw [e]; exact hS
end EN
/-! Short rules for the walk; the head. -/
namespace EN
open PySem PySem.Spec PyProof.Rows L2

def dbgB (x : Str) : Bool := !(x == ("__debug__" : Str)) && !(x == ("__classdict__" : Str))
def visB (sc : Scope) (x : Str) : Bool := dbgB x && match sc.names.lookup x with
  | some .local => true | some .cell => true | some .free => true
  | _ => false
theorem visB_ok {sc : Scope} {x : Str} (h : visB sc x = true) : Vis sc x ∧ (x == ("__debug__" : Str)) = false ∧ (x == ("__classdict__" : Str)) = false := by
  unfold visB at h
  simp only [Bool.and_eq_true, dbgB, Bool.not_eq_true'] at h
  obtain ⟨h0, h⟩ := h
  refine ⟨?_, h0⟩
  split at h <;> first | (rename_i q; first | exact .inl q | exact .inr (.inl q) | exact .inr (.inr q)) | cases h
def locB (sc : Scope) (x : Str) : Bool := match sc.names.lookup x with
  | some .local => true | some .cell => true
  | _ => false
theorem locB_ok {sc : Scope} {x : Str} (h : locB sc x = true) : Loc sc x := by
  unfold locB at h
  split at h <;> first | (rename_i q; first | exact .inl q | exact .inr q) | cases h
def gloB (sc : Scope) (x : Str) : Bool := dbgB x && match sc.names.lookup x with
  | some .globalImplicit => true
  | _ => false
theorem gloB_ok {sc : Scope} {x : Str} (h : gloB sc x = true) : sc.names.lookup x = some .globalImplicit ∧ (x == ("__debug__" : Str)) = false := by
  unfold gloB at h
  simp only [Bool.and_eq_true, dbgB, Bool.not_eq_true'] at h
  obtain ⟨h0, h⟩ := h
  refine ⟨?_, h0.1⟩
  split at h <;> first | assumption | cases h

/-- a constant of the module -/
def GCst (G : Gc) (x : Str) (d : D) : Prop := ∃ u v, G.mg x = some u ∧ RelV v u ∧ ∀ H, Dt G.K H d v
section
variable {c : Ctx} {a b e : Expr} {es : List Expr} {Γ Γ1 Γ2 : List (Option T)} {μ μ1 μ2 μ3 : List M} {t t1 t2 t3 : T} {pos p : Pos} {d : D} {ds : List D} {ts : List T} {x : Str}
theorem ev_nm {i : Nat} (hN : c.N[i]? = some x) (hv : visB c.sc x = true) (hΓ : Γ[i]? = some (some t)) : EvJ c (.Name x pos) Γ μ t μ :=
  ev_name hN (visB_ok hv).1 hΓ (visB_ok hv).2.1 (visB_ok hv).2.2
theorem ev_gcst (h : GCst c.toGc x d) (hg : gloB c.sc x = true) : EvJ c (.Name x pos) Γ μ (.dat d) μ := by
  obtain ⟨u, v, h1, h2, h3⟩ := h
  exact ev_glob (gloB_ok hg).1 h1 h2 h3 (gloB_ok hg).2
/-- arguments that are data -/
def AjD (c : Ctx) (es : List Expr) (Γ : List (Option T)) (μ : List M) (ds : List D) (μ' : List M) : Prop := AJ c es Γ μ (dats ds) μ'
theorem ajd_nil : AjD c [] Γ μ [] μ := aj_nil
theorem ajd_cons (h : EvJ c e Γ μ (.dat d) μ1) (h' : AjD c es Γ μ1 ds μ2) (hs : isStar e = false := by rfl) : AjD c (e :: es) Γ μ (d :: ds) μ2 := aj_cons h h' hs
theorem ev_tupD {x1 : Nat} (h : AjD c es Γ μ ds μ1) (hl : Nat.ble ds.length 1000000 = true := by rfl) : EvJ c (.Tuple es x1 pos) Γ μ (.dat (.tup ds)) μ1 := ev_tup h rfl (Nat.le_of_ble_eq_true hl)
theorem ev_lstD (h : AjD c es Γ μ ds μ1) (hl : Nat.ble ds.length 1000000 = true := by rfl) : EvJ c (.List es pos) Γ μ (.dat (.lst ds)) μ1 := ev_lst h rfl (Nat.le_of_ble_eq_true hl)
/-! what is built in, by its name -/
theorem ev_len (ha : AJ c (e :: es) Γ μ ts μ1) (hc : C1J c (.builtin "len") ts μ1 t μ2) (hg : gloB c.sc "len" = true) (hm : c.mg "len" = none) (hs : (e :: es).all (fun e => !isStar e) = true := by rfl) : EvJ c (.Call (.Name "len" p) (e :: es) [] pos) Γ μ t μ2 :=
  ev_callB ha hc (gloB_ok hg).1 hm (by decide +kernel) hs
theorem ev_all (ha : AJ c (e :: es) Γ μ ts μ1) (hc : C1J c (.builtin "all") ts μ1 t μ2) (hg : gloB c.sc "all" = true) (hm : c.mg "all" = none) (hs : (e :: es).all (fun e => !isStar e) = true := by rfl) : EvJ c (.Call (.Name "all" p) (e :: es) [] pos) Γ μ t μ2 :=
  ev_callB ha hc (gloB_ok hg).1 hm (by decide +kernel) hs
theorem ev_any (ha : AJ c (e :: es) Γ μ ts μ1) (hc : C1J c (.builtin "any") ts μ1 t μ2) (hg : gloB c.sc "any" = true) (hm : c.mg "any" = none) (hs : (e :: es).all (fun e => !isStar e) = true := by rfl) : EvJ c (.Call (.Name "any" p) (e :: es) [] pos) Γ μ t μ2 :=
  ev_callB ha hc (gloB_ok hg).1 hm (by decide +kernel) hs
theorem ev_sum (ha : AJ c (e :: es) Γ μ ts μ1) (hc : C1J c (.builtin "sum") ts μ1 t μ2) (hg : gloB c.sc "sum" = true) (hm : c.mg "sum" = none) (hs : (e :: es).all (fun e => !isStar e) = true := by rfl) : EvJ c (.Call (.Name "sum" p) (e :: es) [] pos) Γ μ t μ2 :=
  ev_callB ha hc (gloB_ok hg).1 hm (by decide +kernel) hs
theorem ev_max (ha : AJ c (e :: es) Γ μ ts μ1) (hc : C1J c (.builtin "max") ts μ1 t μ2) (hg : gloB c.sc "max" = true) (hm : c.mg "max" = none) (hs : (e :: es).all (fun e => !isStar e) = true := by rfl) : EvJ c (.Call (.Name "max" p) (e :: es) [] pos) Γ μ t μ2 :=
  ev_callB ha hc (gloB_ok hg).1 hm (by decide +kernel) hs
theorem ev_min (ha : AJ c (e :: es) Γ μ ts μ1) (hc : C1J c (.builtin "min") ts μ1 t μ2) (hg : gloB c.sc "min" = true) (hm : c.mg "min" = none) (hs : (e :: es).all (fun e => !isStar e) = true := by rfl) : EvJ c (.Call (.Name "min" p) (e :: es) [] pos) Γ μ t μ2 :=
  ev_callB ha hc (gloB_ok hg).1 hm (by decide +kernel) hs
theorem ev_intC (ha : AJ c (e :: es) Γ μ ts μ1) (hc : C1J c (.type "int") ts μ1 t μ2) (hg : gloB c.sc "int" = true) (hm : c.mg "int" = none) (hs : (e :: es).all (fun e => !isStar e) = true := by rfl) : EvJ c (.Call (.Name "int" p) (e :: es) [] pos) Γ μ t μ2 :=
  ev_callTy ha hc (gloB_ok hg).1 hm (by decide +kernel) hs
theorem ev_strC (ha : AJ c (e :: es) Γ μ ts μ1) (hc : C1J c (.type "str") ts μ1 t μ2) (hg : gloB c.sc "str" = true) (hm : c.mg "str" = none) (hs : (e :: es).all (fun e => !isStar e) = true := by rfl) : EvJ c (.Call (.Name "str" p) (e :: es) [] pos) Γ μ t μ2 :=
  ev_callTy ha hc (gloB_ok hg).1 hm (by decide +kernel) hs
theorem ev_listC (ha : AJ c (e :: es) Γ μ ts μ1) (hc : C1J c (.type "list") ts μ1 t μ2) (hg : gloB c.sc "list" = true) (hm : c.mg "list" = none) (hs : (e :: es).all (fun e => !isStar e) = true := by rfl) : EvJ c (.Call (.Name "list" p) (e :: es) [] pos) Γ μ t μ2 :=
  ev_callTy ha hc (gloB_ok hg).1 hm (by decide +kernel) hs
theorem ev_tupleC (ha : AJ c (e :: es) Γ μ ts μ1) (hc : C1J c (.type "tuple") ts μ1 t μ2) (hg : gloB c.sc "tuple" = true) (hm : c.mg "tuple" = none) (hs : (e :: es).all (fun e => !isStar e) = true := by rfl) : EvJ c (.Call (.Name "tuple" p) (e :: es) [] pos) Γ μ t μ2 :=
  ev_callTy ha hc (gloB_ok hg).1 hm (by decide +kernel) hs
theorem ev_isiTy {n : String} {y : Str} {q : Pos} {v : Value} {r : Bool} (ha : EvJ c a Γ μ (.dat d) μ1) (hv : bootBuiltins y = some (.type n)) (ht : DTy c.K d v) (hk : PySem.W.kitOne c.K v (.type n) = some r) (hg : gloB c.sc "isinstance" = true) (hm : c.mg "isinstance" = none) (hg2 : gloB c.sc y = true) (hm2 : c.mg y = none)
    (hs : isStar a = false := by rfl) (hn : y ≠ "__name__" := by decide +kernel) : EvJ c (.Call (.Name "isinstance" p) [a, .Name y q] [] pos) Γ μ (.bl r) μ1 :=
  ev_isi ha (evc_ty (gloB_ok hg2).1 hm2 hv hn (gloB_ok hg2).2) ht hk rfl (gloB_ok hg).1 hm hs rfl
/-- the built-in type of data -/
def tyD : D → Option String
  | .non => some "NoneType" | .bl _ => some "bool" | .int _ => some "int" | .str _ => some "str"
  | .lst _ => some "list" | .tup _ => some "tuple" | .dic _ => some "dict"
  | .ins _ _ => none
theorem tyD_ok {K : PySem.W.Frag} {n : String} (h : tyD d = some n) : DTy K d (.type n) := by
  cases d <;> first | (cases h; done) | (cases h; first | exact .non | exact .bl _ | exact .int _ | exact .str _ | exact .lst _ | exact .tup _ | exact .dic _)
theorem ev_isiB {n m : String} {y : Str} {q : Pos} {r : Bool} (ha : EvJ c a Γ μ (.dat d) μ1) (ht : tyD d = some m) (hv : bootBuiltins y = some (.type n)) (hk : kitB m n = some r) (hg : gloB c.sc "isinstance" = true) (hm : c.mg "isinstance" = none) (hg2 : gloB c.sc y = true) (hm2 : c.mg y = none)
    (hs : isStar a = false := by rfl) (hn : y ≠ "__name__" := by decide +kernel) : EvJ c (.Call (.Name "isinstance" p) [a, .Name y q] [] pos) Γ μ (.bl r) μ1 :=
  ev_isiTy ha hv (tyD_ok ht) (kit_ty hk) hg hm hg2 hm2 hs hn
section
theorem ev_isi_str {m : String} {q : Pos} {r : Bool} (ha : EvJ c a Γ μ (.dat d) μ1) (ht : tyD d = some m) (hk : kitB m "str" = some r) (hg : gloB c.sc "isinstance" = true) (hm : c.mg "isinstance" = none) (hg2 : gloB c.sc "str" = true) (hm2 : c.mg "str" = none)
    (hs : isStar a = false) : EvJ c (.Call (.Name "isinstance" p) [a, .Name "str" q] [] pos) Γ μ (.bl r) μ1 := ev_isiB ha ht (by decide +kernel) hk hg hm hg2 hm2 hs
theorem ev_isi_int {m : String} {q : Pos} {r : Bool} (ha : EvJ c a Γ μ (.dat d) μ1) (ht : tyD d = some m) (hk : kitB m "int" = some r) (hg : gloB c.sc "isinstance" = true) (hm : c.mg "isinstance" = none) (hg2 : gloB c.sc "int" = true) (hm2 : c.mg "int" = none)
    (hs : isStar a = false) : EvJ c (.Call (.Name "isinstance" p) [a, .Name "int" q] [] pos) Γ μ (.bl r) μ1 := ev_isiB ha ht (by decide +kernel) hk hg hm hg2 hm2 hs
theorem ev_isi_bool {m : String} {q : Pos} {r : Bool} (ha : EvJ c a Γ μ (.dat d) μ1) (ht : tyD d = some m) (hk : kitB m "bool" = some r) (hg : gloB c.sc "isinstance" = true) (hm : c.mg "isinstance" = none) (hg2 : gloB c.sc "bool" = true) (hm2 : c.mg "bool" = none)
    (hs : isStar a = false) : EvJ c (.Call (.Name "isinstance" p) [a, .Name "bool" q] [] pos) Γ μ (.bl r) μ1 := ev_isiB ha ht (by decide +kernel) hk hg hm hg2 hm2 hs
theorem ev_isi_list {m : String} {q : Pos} {r : Bool} (ha : EvJ c a Γ μ (.dat d) μ1) (ht : tyD d = some m) (hk : kitB m "list" = some r) (hg : gloB c.sc "isinstance" = true) (hm : c.mg "isinstance" = none) (hg2 : gloB c.sc "list" = true) (hm2 : c.mg "list" = none)
    (hs : isStar a = false) : EvJ c (.Call (.Name "isinstance" p) [a, .Name "list" q] [] pos) Γ μ (.bl r) μ1 := ev_isiB ha ht (by decide +kernel) hk hg hm hg2 hm2 hs
theorem ev_isi_tuple {m : String} {q : Pos} {r : Bool} (ha : EvJ c a Γ μ (.dat d) μ1) (ht : tyD d = some m) (hk : kitB m "tuple" = some r) (hg : gloB c.sc "isinstance" = true) (hm : c.mg "isinstance" = none) (hg2 : gloB c.sc "tuple" = true) (hm2 : c.mg "tuple" = none)
    (hs : isStar a = false) : EvJ c (.Call (.Name "isinstance" p) [a, .Name "tuple" q] [] pos) Γ μ (.bl r) μ1 := ev_isiB ha ht (by decide +kernel) hk hg hm hg2 hm2 hs
theorem ev_isi_dict {m : String} {q : Pos} {r : Bool} (ha : EvJ c a Γ μ (.dat d) μ1) (ht : tyD d = some m) (hk : kitB m "dict" = some r) (hg : gloB c.sc "isinstance" = true) (hm : c.mg "isinstance" = none) (hg2 : gloB c.sc "dict" = true) (hm2 : c.mg "dict" = none)
    (hs : isStar a = false) : EvJ c (.Call (.Name "isinstance" p) [a, .Name "dict" q] [] pos) Γ μ (.bl r) μ1 := ev_isiB ha ht (by decide +kernel) hk hg hm hg2 hm2 hs
end
/-- an own def -/
theorem ev_own {dts : List D} {k : Nat} (ha : AJ c (e :: es) Γ μ ts μ1) (h : CallJ c.toGc k (x, none) ts dts μ1 t μ2) (hk : Nat.ble k c.k = true) (hg : gloB c.sc x = true) (hm : c.mg x = some (.ref (He.ga c.K x)))
    (hs : (e :: es).all (fun e => !isStar e) = true := by rfl) : EvJ c (.Call (.Name x p) (e :: es) [] pos) Γ μ t μ2 :=
  ev_call ha h (Nat.le_of_ble_eq_true hk) (gloB_ok hg).1 hm hs (gloB_ok hg).2
theorem st_nm {i : Nat} (h : EvJ c e Γ μ t μ1) (hi : c.N[i]? = some x) (hx : locB c.sc x = true) (hs : isComp e = false := by rfl) (hf : c.sto x = true := by rfl) : StJ c (.Assign [.Name x p] e pos) Γ μ (.nx (Γ.set i (some t)) μ1) := st_set h hi (locB_ok hx) hs hf
theorem st_nmF {i : Nat} (hs : isComp e = false) (h : EvJ c e Γ μ t μ1) (hi : c.N[i]? = some x) (hx : locB c.sc x = true) (hf : c.sto x = true) : StJ c (.Assign [.Name x p] e pos) Γ μ (.nx (Γ.set i (some t)) μ1) := st_nm h hi hx hs hf
theorem st_exprF (hs : isComp e = false) (h : EvJ c e Γ μ t μ1) : StJ c (.Expr e pos) Γ μ (.nx Γ μ1) := st_expr h hs
theorem tg_nm {i : Nat} (hi : c.N[i]? = some x) (hx : locB c.sc x = true) (hf : c.sto x = true := by kernel_rfl) : TgJ c (.Name x p) (gName i) := tg_name hi (locB_ok hx) hf
/-! comprehensions that change nothing -/
theorem cmp_pure {gt : TG} {elt : Expr} {ifs : List Expr} {vs : List Nat} {its : List T} (f : T → D) (pr : T → Bool) (h : ∀ t ∈ its, ∃ Γ1 js, GvJ c gt t Γ μ Γ1 js ∧ (∀ j ∈ js, j ∈ vs) ∧ IfsJ c ifs Γ1 μ (pr t) μ ∧ (pr t = true → EvJ c elt Γ1 μ (.dat (f t)) μ)) :
    CmpJ c gt elt ifs Γ vs its μ ((its.filter pr).map f) μ := by
  induction its with
  | nil => exact ⟨rfl, rfl⟩
  | cons t r ih =>
    obtain ⟨Γ1, js, h1, h2, h3, h4⟩ := h t (by simp)
    have ih := ih fun t ht => h t (List.mem_cons_of_mem _ ht)
    refine ⟨Γ1, js, pr t, μ, h1, h2, h3, fun e => ⟨f t, μ, _, h4 e, ih, ?_⟩, fun e => ?_⟩
    · rw [List.filter_cons, if_pos e]; rfl
    · rw [List.filter_cons, if_neg (by rw [e]; exact Bool.false_ne_true)]; exact ih
/-- over data, the target a name -/
theorem cmp_dat {i : Nat} {elt : Expr} {ifs : List Expr} {vs : List Nat} (f : D → D) (pr : D → Bool) (hi : i ∈ vs) (h : ∀ x ∈ ds, IfsJ c ifs (Γ.set i (some (.dat x))) μ (pr x) μ ∧ (pr x = true → EvJ c elt (Γ.set i (some (.dat x))) μ (.dat (f x)) μ)) :
    CmpJ c (gName i) elt ifs Γ vs (dats ds) μ ((ds.filter pr).map f) μ := by
  induction ds with
  | nil => exact ⟨rfl, rfl⟩
  | cons t r ih =>
    obtain ⟨h3, h4⟩ := h t (by simp)
    have ih := ih fun t ht => h t (List.mem_cons_of_mem _ ht)
    refine ⟨_, [i], pr t, μ, gv_name, by simpa using hi, h3, fun e => ⟨f t, μ, _, h4 e, ih, ?_⟩, fun e => ?_⟩
    · rw [List.filter_cons, if_pos e]; rfl
    · rw [List.filter_cons, if_neg (by rw [e]; exact Bool.false_ne_true)]; exact ih
theorem cmp_map {i : Nat} {elt : Expr} {vs : List Nat} (f : D → D) (hi : i ∈ vs) (h : ∀ x ∈ ds, EvJ c elt (Γ.set i (some (.dat x))) μ (.dat (f x)) μ) : CmpJ c (gName i) elt [] Γ vs (dats ds) μ (ds.map f) μ := by
  have q := cmp_dat (c := c) (Γ := Γ) (μ := μ) (elt := elt) (ifs := []) f (fun _ => true) hi fun x hx => ⟨⟨rfl, rfl⟩, fun _ => h x hx⟩
  rwa [List.filter_eq_self.mpr fun _ _ => rfl] at q
theorem cmp_rg {i : Nat} {elt : Expr} {vs : List Nat} {n : Nat} {lo : Int} (f : Nat → D) (hi : i ∈ vs) (h : ∀ k, k < n → EvJ c elt (Γ.set i (some (.int (lo + (k : Nat))))) μ (.dat (f k)) μ) : CmpJ c (gName i) elt [] Γ vs (rgD lo n) μ ((List.range n).map f) μ := by
  have key : ∀ l : List Nat, (∀ k ∈ l, k < n) → CmpJ c (gName i) elt [] Γ vs (l.map fun k => T.int (lo + (k : Nat))) μ (l.map f) μ := by
    intro l
    induction l with
    | nil => exact fun _ => ⟨rfl, rfl⟩
    | cons k r ih =>
      intro hl
      exact ⟨_, [i], true, μ, gv_name, by simpa using hi, ⟨rfl, rfl⟩, fun _ => ⟨f k, μ, _, h k (hl k (by simp)), ih fun j hj => hl j (List.mem_cons_of_mem _ hj), rfl⟩, fun e => nomatch e⟩
  exact key _ fun k hk => List.mem_range.mp hk
theorem cmp_ch {i : Nat} {elt : Expr} {vs : List Nat} {z : Str} (f : Nat → D) (hi : i ∈ vs) (h : ∀ k ∈ z.cps.toList, EvJ c elt (Γ.set i (some (.str ⟨#[k]⟩))) μ (.dat (f k)) μ) : CmpJ c (gName i) elt [] Γ vs (chD z) μ (z.cps.toList.map f) μ := by
  have key : ∀ l : List Nat, (∀ k ∈ l, k ∈ z.cps.toList) → CmpJ c (gName i) elt [] Γ vs (l.map fun k => T.str ⟨#[k]⟩) μ (l.map f) μ := by
    intro l
    induction l with
    | nil => exact fun _ => ⟨rfl, rfl⟩
    | cons k r ih =>
      intro hl
      exact ⟨_, [i], true, μ, gv_name, by simpa using hi, ⟨rfl, rfl⟩, fun _ => ⟨f k, μ, _, h k (hl k (by simp)), ih fun j hj => hl j (List.mem_cons_of_mem _ hj), rfl⟩, fun e => nomatch e⟩
  exact key _ fun k hk => hk
theorem len_dats : (dats ds).length = ds.length := by simp [dats]
theorem len_rg {lo : Int} {n : Nat} : (rgD lo n).length = n := by simp [rgD]
theorem len_ch {z : Str} : (chD z).length = z.length := by simp [chD, Str.length]
/-! methods of texts and lists -/
def noBase : Expr → Bool
  | .Call .. => false
  | _ => true
theorem base_ok (h : noBase e = true) (f : Str) (env : Env) : attributeBase e f env (eval e env) = eval e env := by
  cases e <;> first | rfl | cases h
def isSuper : Expr → Bool
  | .Call (.Name id _) [] [] _ => id == ("super" : Str)
  | _ => false
theorem base_ok2 (h : isSuper e = false) (f : Str) (env : Env) : attributeBase e f env (eval e env) = eval e env := by
  unfold attributeBase
  split
  · rename_i id _ pos
    simp only [isSuper] at h
    have : (id != ("super" : Str)) = true := by simp [bne, h]
    rw [this]
    rfl
  · rfl
/-- sep.join(..) -/
theorem ev_join {sep : Str} {ys : List Str} {apos : Pos} (ho : EvJ c a Γ μ (.str sep) μ1) (he : EvJ c b Γ μ1 (.dat (.lst ds)) μ2) (hd' : ds = ys.map D.str) (hz : (ys.map (·.length)).sum + ys.length * sep.length ≤ 16777216) (hb : isSuper a = false := by rfl) (hs : isStar b = false := by rfl) (hl : (apos.endLine == pos.line) = true := by rfl) :
    EvJ c (.Call (.Attribute a "join" apos) [b] [] pos) Γ μ (.str (Txt.join sep ys)) μ2 := by
  subst hd'
  intro X g φ π σ H s0 g0 Q q
  refine toE (pe_join pe_sem pe_sem (star_cons hs _) (base_ok2 hb _ _) hl) ?_
  refine ho X g φ π σ H s0 g0 _ fun v π1 H1 n1 k1 => ?_
  cases k1
  refine ⟨⟨_, rfl⟩, ?_⟩
  refine he X g φ π1 σ H1 n1.ok (g0.nx n1) _ fun w π2 H2 n2 k2 => ?_
  cases k2 with
  | lst s l => exact ⟨_, _, ys, rfl, rfl, .inl (by rw [dtStr l] at s; exact (hd_le _ _ _ _ : Ex _ _).sqL s), hz, q _ π2 H2 (n1.trans n2) (.str _)⟩
theorem ev_lower {z : Str} {apos : Pos} (ho : EvJ c a Γ μ (.str z) μ1) (hz : z.length ≤ 5592405) (hb : isSuper a = false := by rfl) (hl : (apos.endLine == pos.line) = true := by rfl) : EvJ c (.Call (.Attribute a "lower" apos) [] [] pos) Γ μ (.str (Txt.lower z)) μ1 := by
  intro X g φ π σ H s0 g0 Q q
  refine toE (pe_lower pe_sem (base_ok2 hb _ _) hl) ?_
  refine ho X g φ π σ H s0 g0 _ fun v π1 H1 n1 k1 => ?_
  cases k1
  exact ⟨⟨_, rfl⟩, _, rfl, rfl, hz, q _ π1 H1 n1 (.str _)⟩
theorem ev_upper {z : Str} {apos : Pos} (ho : EvJ c a Γ μ (.str z) μ1) (hz : z.length ≤ 5592405) (hb : isSuper a = false := by rfl) (hl : (apos.endLine == pos.line) = true := by rfl) : EvJ c (.Call (.Attribute a "upper" apos) [] [] pos) Γ μ (.str (Txt.upper z)) μ1 := by
  intro X g φ π σ H s0 g0 Q q
  refine toE (pe_upper pe_sem (base_ok2 hb _ _) hl) ?_
  refine ho X g φ π σ H s0 g0 _ fun v π1 H1 n1 k1 => ?_
  cases k1
  exact ⟨⟨_, rfl⟩, _, rfl, rfl, hz, q _ π1 H1 n1 (.str _)⟩
/-! ### one's own lists -/
/-- [..], one's own -/
theorem ev_lstO (h : AJ c es Γ μ ts μ1) (hl : Nat.ble ts.length 1000000 = true := by rfl) : EvJ c (.List es pos) Γ μ (.own μ1.length) (μ1 ++ [.lst ts]) := by
  intro X g φ π σ H s0 g0 Q q
  refine toE (pe_lst pa_sem) ?_
  refine h X g φ π σ H s0 g0 _ fun vs π1 H1 n1 k1 => ?_
  have hl' : vs.length ≤ sizeLine := by
    rw [← k1.len]; exact Nat.le_trans (Nat.le_of_ble_eq_true hl) (by decide)
  refine ⟨hl', fun p np => ?_⟩
  have n2 := n1.ok.newOwn (o := .lst vs) (m := .lst ts) np rfl ⟨vs, upd_same, k1.mono ⟨[p], rfl⟩ Ex.rfl'⟩
  refine q _ (π1 ++ [p]) _ (n1.trans n2) ⟨p, ?_, rfl⟩
  rw [← n1.ok.len]; simp
/-- own.append(e) -/
theorem ev_append {i : Nat} {ts0 : List T} {apos : Pos} (ho : EvJ c a Γ μ (.own i) μ1) (he : EvJ c b Γ μ1 t μ2) (hi0 : μ1[i]? = some (.lst ts0)) (hi : μ2[i]? = some (.lst ts)) (hz : ts.length < sizeLine) (hb : isSuper a = false := by rfl) (hs : isStar b = false := by rfl) (hl : (apos.endLine == pos.line) = true := by rfl) :
    EvJ c (.Call (.Attribute a "append" apos) [b] [] pos) Γ μ (.dat .non) (μ2.set i (.lst (ts ++ [t]))) := by
  intro X g φ π σ H s0 g0 Q q
  refine toE (pe_bm PySem.F.plainAttrs_list PySem.F.slot_list_append PySem.F.type_list_append mt_append pe_sem (pa_cons pe_sem pa_nil (star_cons hs _)) (base_ok2 hb _ _) (by rw [star_cons hs]; rfl) hl (star_cons hs _) rfl) ?_
  refine ho X g φ π σ H s0 g0 _ fun v π1 H1 n1 k1 => ?_
  obtain ⟨p, hp, rfl⟩ := k1
  obtain ⟨vs0, hv0, _⟩ := n1.ok.obj i p _ hp hi0
  refine ⟨.inl ⟨rfl, vs0, SqL.of hv0⟩, ?_⟩
  refine he X g φ π1 σ H1 n1.ok (g0.nx n1) _ fun w π2 H2 n2 k2 => ?_
  have hp2 : π2[i]? = some p := by
    obtain ⟨p2, rfl⟩ := n2.ext
    rw [List.getElem?_append_left (List.getElem?_eq_some_iff.mp hp).1]; exact hp
  obtain ⟨vs, hv, hts⟩ := n2.ok.obj i p _ hp2 hi
  refine ⟨p, vs, w, rfl, rfl, hv, by rw [← hts.len]; exact hz, ?_⟩
  have n3 := n2.ok.write (o := .lst (vs ++ [w])) (m' := .lst (ts ++ [t])) hp2 hi rfl rfl ⟨_, upd_same, hts.append (.cons k2 .nil)⟩
  exact q _ π2 _ ((n1.trans n2).trans n3) .non
theorem no_swapS (h : isComp e = false) (tg : Expr) (l : Nat) (env : Env) : swapsWithSole [tg] e l env = pure false := by
  unfold swapsWithSole
  exact no_swap h _ _ _
/-- own[k] = e -/
theorem st_setIx {i k : Nat} {tg ix : Expr} {apos : Pos} {kI : Int} (he : EvJ c e Γ μ t μ1) (ho : EvJ c a Γ μ1 (.own i) μ1) (hx : EvJ c ix Γ μ1 (.int kI) μ1) (hi : μ1[i]? = some (.lst ts)) (hk : ixN ts.length kI = some k) (hs : isComp e = false := by rfl) (ht : isTup e = false := by rfl)
    (ha : ∀ env v, assign (.Subscript a ix apos) env v = (do
      let ov ← holding [v] (eval a env)
      let iv ← holding [v, ov] (eval ix env)
      standAt apos
      holding [v, ov, iv] (setItem ov iv v)
      release [v, ov, iv] []) := by intro _ _; rfl) : StJ c (.Assign [.Subscript a ix apos] e pos) Γ μ (.nx Γ (μ1.set i (.lst (ts.set k t)))) := by
  intro X g φ π σ H s0 g0 D q
  refine toS (ps_asg pe_sem (pg_sub pe_sem pe_sem set_list (ha X.env)) (no_swapS hs _ _ _) (no_stores ht _) rfl) ?_
  refine he X g φ π σ H s0 g0 _ fun w π1 H1 n1 k1 => ?_
  refine ho X g φ π1 σ H1 n1.ok (g0.nx n1) _ fun v π2 H2 n2 k2 => ?_
  refine hx X g φ π2 σ H2 n2.ok ((g0.nx n1).nx n2) _ fun u π3 H3 n3 k3 => ?_
  cases k3
  obtain ⟨p, hp, rfl⟩ := k2
  have hp3 : π3[i]? = some p := by
    obtain ⟨p2, rfl⟩ := n3.ext
    rw [List.getElem?_append_left (List.getElem?_eq_some_iff.mp hp).1]; exact hp
  obtain ⟨vs, hv, hts⟩ := n3.ok.obj i p _ hp3 hi
  refine ⟨p, vs, kI, k, rfl, rfl, hv, by rw [← hts.len]; exact hk, ?_⟩
  have hset : TL X.K π3 (hd φ π3 μ1 H3) (ts.set k t) (vs.set k w) := by
    have key : ∀ {ts : List T} {vs : List V} (k : Nat), TL X.K π3 (hd φ π3 μ1 H3) ts vs → TL X.K π3 (hd φ π3 μ1 H3) (ts.set k t) (vs.set k w) := by
      intro ts vs k h
      induction h generalizing k with
      | nil => exact .nil
      | cons q r ih =>
        cases k with
        | zero => exact .cons ((k1.nx n2).nx n3) r
        | succ k => exact .cons q (ih k)
    exact key k hts
  have n4 := n3.ok.write (o := .lst (vs.set k w)) (m' := .lst (ts.set k t)) hp3 hi rfl rfl ⟨_, upd_same, hset⟩
  exact q σ π3 _ (((n1.trans n2).trans n3).trans n4) (((g0.nx n1).nx n2).nx n3 |>.nx n4)
/-- an own list, read as data from here on -/
theorem EvJ.frz {i : Nat} (h : EvJ c e Γ μ (.own i) μ1) (hi : μ1[i]? = some (.lst (dats ds))) : EvJ c e Γ μ (.dat (.lst ds)) (μ1.set i (.frz (.lst ds))) := by
  intro X g φ π σ H s0 g0 Q q
  refine h X g φ π σ H s0 g0 _ fun v π1 H1 n1 k1 => ?_
  obtain ⟨p, hp, rfl⟩ := k1
  obtain ⟨vs, hv, hts⟩ := n1.ok.obj i p _ hp hi
  have n2 := n1.ok.freeze (d := .lst ds) hp hi rfl fun Hd' h1 h2 => .lst (SqL.of (h1 _ hv)) (DtL.mono h2 hts.dt)
  refine q _ π1 H1 (n1.trans n2) ?_
  have := n2.ok.obj i p (.frz (.lst ds)) hp (by rw [List.getElem?_set_self (List.getElem?_eq_some_iff.mp hi).1])
  exact this.2
/-- an own thing that is data by now -/
theorem EvJ.was {i : Nat} (h : EvJ c e Γ μ (.own i) μ1) (hi : μ1[i]? = some (.frz d)) : EvJ c e Γ μ (.dat d) μ1 := by
  intro X g φ π σ H s0 g0 Q q
  refine h X g φ π σ H s0 g0 _ fun v π1 H1 n1 k1 => ?_
  obtain ⟨p, hp, rfl⟩ := k1
  exact q _ π1 H1 n1 (n1.ok.obj i p _ hp hi).2
/-! own objects forgotten at a call's end -/
def T.inb (n : Nat) : T → Prop
  | .own i => i < n
  | .dat _ => True
def M.inb (n : Nat) : M → Prop
  | .lst ts => ∀ t ∈ ts, t.inb n
  | .dic kvs => ∀ kv ∈ kvs, kv.2.inb n
  | .ins _ fs => ∀ kv ∈ fs, kv.2.inb n
  | .frz _ => True
def Inb (μ : List M) : Prop := ∀ m ∈ μ, m.inb μ.length
theorem TOk.take {K : PySem.W.Frag} {π : List Addr} {Hd : Hp} {v : V} {n : Nat} (h : TOk K π Hd t v) (hb : t.inb n) : TOk K (π.take n) Hd t v := by
  cases t with
  | dat d => exact h
  | own i =>
    obtain ⟨a, h1, h2⟩ := h
    exact ⟨a, by rw [List.getElem?_take, if_pos (show i < n from hb)]; exact h1, h2⟩
theorem TL.take {K : PySem.W.Frag} {π : List Addr} {Hd : Hp} {vs : List V} {n : Nat} (h : TL K π Hd ts vs) (hb : ∀ t ∈ ts, t.inb n) : TL K (π.take n) Hd ts vs := by
  induction h with
  | nil => exact .nil
  | cons q _ ih => exact .cons (q.take (hb _ (by simp))) (ih fun t ht => hb t (List.mem_cons_of_mem _ ht))
theorem TK.take {κ : Type} {K : PySem.W.Frag} {π : List Addr} {Hd : Hp} {kts : List (κ × T)} {vs : List (κ × V)} {n : Nat} (h : TK K π Hd kts vs) (hb : ∀ kv ∈ kts, kv.2.inb n) : TK K (π.take n) Hd kts vs := by
  induction h with
  | nil => exact .nil
  | cons q _ ih => exact .cons (q.take (hb (_, _) (List.mem_cons_self))) (ih fun t ht => hb t (List.mem_cons_of_mem _ ht))
theorem MOk.take {K : PySem.W.Frag} {π : List Addr} {Hd H : Hp} {a : Addr} {m : M} {n : Nat} (h : MOk K π Hd H a m) (hb : m.inb n) : MOk K (π.take n) Hd H a m := by
  cases m with
  | lst ts => obtain ⟨vs, h1, h2⟩ := h; exact ⟨vs, h1, h2.take hb⟩
  | dic ts => obtain ⟨vs, h1, h2⟩ := h; exact ⟨vs, h1, h2.take hb⟩
  | ins _ ts => obtain ⟨dx, vs, h1, h2⟩ := h; exact ⟨dx, vs, h1, h2.take hb⟩
  | frz d => exact h
theorem TL.inb {K : PySem.W.Frag} {π : List Addr} {Hd : Hp} {vs : List V} (h : TL K π Hd ts vs) : ∀ t ∈ ts, t.inb π.length := by
  induction h with
  | nil => intro t ht; cases ht
  | cons q _ ih =>
    intro t ht
    rcases List.mem_cons.mp ht with rfl | ht
    · cases t with
      | dat d => trivial
      | own i => obtain ⟨a, h1, _⟩ := q; exact (List.getElem?_eq_some_iff.mp h1).1
    · exact ih t ht
theorem TK.inb {κ : Type} {K : PySem.W.Frag} {π : List Addr} {Hd : Hp} {kts : List (κ × T)} {vs : List (κ × V)} (h : TK K π Hd kts vs) : ∀ t ∈ kts, t.2.inb π.length := by
  induction h with
  | nil => intro t ht; cases ht
  | cons q _ ih =>
    intro t ht
    rcases List.mem_cons.mp ht with rfl | ht
    · rename_i t _ _ _ _
      cases t with
      | dat d => trivial
      | own i => obtain ⟨a, h1, _⟩ := q; exact (List.getElem?_eq_some_iff.mp h1).1
    · exact ih t ht
theorem SOk.inb {K : PySem.W.Frag} {φ π : List Addr} {H : Hp} (s : SOk K φ π H μ) : Inb μ := fun m hm => by
  obtain ⟨i, hi⟩ := List.getElem?_of_mem hm
  have hil : i < π.length := by rw [s.len]; exact (List.getElem?_eq_some_iff.mp hi).1
  have h := s.obj i π[i] m (List.getElem?_eq_getElem hil) hi
  rw [← s.len]
  cases m with
  | lst ts => obtain ⟨vs, _, h2⟩ := h; exact h2.inb
  | dic ts => obtain ⟨vs, _, h2⟩ := h; exact h2.inb
  | ins _ ts => obtain ⟨dx, vs, _, h2⟩ := h; exact h2.inb
  | frz d => trivial
theorem CallJ.drop {G : Gc} {k : Nat} {at_ : Str × Option Str} {dts : List D} {μ2 : List M} (h : CallJ G k at_ ts dts μ t (μ1 ++ μ2)) (ht : t.inb μ1.length) (hb : Inb μ → Inb μ1) (hpl0 : μ.length ≤ μ1.length) : CallJ G k at_ ts dts μ t μ1 := by
  obtain ⟨fd, ps, dvs, ds, h1, h2, h3, h4, h5⟩ := h
  refine ⟨fd, ps, dvs, ds, h1, h2, h3, h4, h5.imp fun vs H Q E hsp => ?_⟩
  obtain ⟨φ, π, s0, hts, q⟩ := hsp
  refine ⟨φ, π, s0, hts, fun v π' H' n k => ?_⟩
  have hB := hb s0.inb
  obtain ⟨s1, le⟩ := n.ok.forget fun i a m q1 q2 q3 => q3.take (hB m (List.mem_of_getElem? q2))
  have hpl : π.length ≤ μ1.length := by rw [s0.len]; exact hpl0
  refine q v (π'.take μ1.length) H' ⟨?_, s1, n.same, n.le.tr le⟩ ((k.take ht).mono ⟨[], by simp⟩ le)
  obtain ⟨p, rfl⟩ := n.ext
  exact ⟨p.take (μ1.length - π.length), by rw [List.take_append, List.take_of_length_le hpl]⟩
/-! more -/
theorem ev_if_t {x : Expr} (h : TJ c x Γ μ true μ1) (h1 : EvJ c a Γ μ1 t μ2) : EvJ c (.IfExp x a b pos) Γ μ t μ2 := ev_if h (fun _ => h1) fun z => nomatch z
theorem ev_if_f {x : Expr} (h : TJ c x Γ μ false μ1) (h1 : EvJ c b Γ μ1 t μ2) : EvJ c (.IfExp x a b pos) Γ μ t μ2 := ev_if h (fun z => nomatch z) fun _ => h1
theorem ev_and_f {rest : List Expr} (h : EvJ c a Γ μ (.bl false) μ1) : EvJ c (.BoolOp .And (a :: b :: rest) pos) Γ μ (.bl false) μ1 := by
  intro X g φ π σ H s0 g0 Q q
  refine toE (pe_and pe_sem pe_sem) ?_
  refine h X g φ π σ H s0 g0 _ fun v π1 H1 n1 k1 => ?_
  cases k1
  refine ⟨_, rfl, ?_⟩
  rw [if_neg Bool.false_ne_true]
  exact q _ π1 H1 n1 (.bl false)
theorem ev_or_t {rest : List Expr} (h : EvJ c a Γ μ (.bl true) μ1) : EvJ c (.BoolOp .Or (a :: b :: rest) pos) Γ μ (.bl true) μ1 := by
  intro X g φ π σ H s0 g0 Q q
  refine toE (pe_or pe_sem pe_sem) ?_
  refine h X g φ π σ H s0 g0 _ fun v π1 H1 n1 k1 => ?_
  cases k1
  refine ⟨_, rfl, ?_⟩
  rw [if_pos rfl]
  exact q _ π1 H1 n1 (.bl true)
theorem wj_and_f {rest : List Expr} (h : TJ c a Γ μ false μ1) : WJ c (.BoolOp .And (a :: b :: rest) pos) Γ μ false μ1 := fun X g => by
  refine ⟨_, pw_and pt_sem pw_any, fun φ π σ H s0 g0 Q q => ?_⟩
  refine h X g φ π σ H s0 g0 _ fun π1 H1 n1 => ?_
  rw [if_neg Bool.false_ne_true]
  exact q π1 H1 n1
theorem wj_or_t {rest : List Expr} (h : TJ c a Γ μ true μ1) : WJ c (.BoolOp .Or (a :: b :: rest) pos) Γ μ true μ1 := fun X g => by
  refine ⟨_, pw_or pt_sem pw_any, fun φ π σ H s0 g0 Q q => ?_⟩
  refine h X g φ π σ H s0 g0 _ fun π1 H1 n1 => ?_
  rw [if_pos rfl]
  exact q π1 H1 n1
/-- {} -/
theorem ev_dict0 : EvJ c (.Dict [] [] pos) Γ μ (.dat (.dic [])) μ := by
  intro X g φ π σ H s0 g0 Q q
  refine toE pe_dnewK ?_
  intro p np
  obtain ⟨n1, at1⟩ := s0.newData (o := .dK []) np
  exact q _ π _ n1 (.dic (.inl at1) .nil)
/-- an item, wherever it is -/
theorem pick {α : Type} {xs : List α} {i : Int} (h0 : 0 ≤ i) (h1 : i < xs.length) : ∃ x ∈ xs, atI xs i = some x := ⟨_, List.getElem_mem _, atI_some h0 h1⟩
theorem cmp_rg_ex {i : Nat} {elt : Expr} {vs : List Nat} {n : Nat} {lo : Int} (pr : D → Prop) (hi : i ∈ vs) (h : ∀ k, k < n → ∃ d, pr d ∧ EvJ c elt (Γ.set i (some (.int (lo + (k : Nat))))) μ (.dat d) μ) :
    ∃ ds : List D, ds.length = n ∧ (∀ d ∈ ds, pr d) ∧ CmpJ c (gName i) elt [] Γ vs (rgD lo n) μ ds μ := by
  have key : ∀ l : List Nat, (∀ k ∈ l, k < n) → ∃ ds : List D, ds.length = l.length ∧ (∀ d ∈ ds, pr d) ∧ CmpJ c (gName i) elt [] Γ vs (l.map fun k => T.int (lo + (k : Nat))) μ ds μ := by
    intro l
    induction l with
    | nil => exact fun _ => ⟨[], rfl, fun _ h => (nomatch h), rfl, rfl⟩
    | cons k r ih =>
      intro hl
      obtain ⟨ds, h1, h2, h3⟩ := ih fun j hj => hl j (List.mem_cons_of_mem _ hj)
      obtain ⟨d, q1, q2⟩ := h k (hl k (by simp))
      refine ⟨d :: ds, by simp [h1], fun e he => ?_, _, [i], true, μ, gv_name, by simpa using hi, ⟨rfl, rfl⟩, fun _ => ⟨d, μ, _, q2, h3, rfl⟩, fun e => nomatch e⟩
      rcases List.mem_cons.mp he with rfl | he
      · exact q1
      · exact h2 e he
  obtain ⟨ds, h1, h2, h3⟩ := key (List.range n) fun k hk => List.mem_range.mp hk
  exact ⟨ds, by simpa using h1, h2, h3⟩
theorem strs_of {ds : List D} (h : ∀ d ∈ ds, ∃ z, d = D.str z) : ∃ zs : List Str, ds = zs.map D.str := by
  induction ds with
  | nil => exact ⟨[], rfl⟩
  | cons d r ih =>
    obtain ⟨zs, e⟩ := ih fun x hx => h x (List.mem_cons_of_mem _ hx)
    obtain ⟨z, rfl⟩ := h d (by simp)
    exact ⟨z :: zs, by simp [e]⟩
theorem ints_of {ds : List D} (h : ∀ d ∈ ds, ∃ z, d = D.int z) : ∃ zs : List Int, ds = zs.map D.int := by
  induction ds with
  | nil => exact ⟨[], rfl⟩
  | cons d r ih =>
    obtain ⟨zs, e⟩ := ih fun x hx => h x (List.mem_cons_of_mem _ hx)
    obtain ⟨z, rfl⟩ := h d (by simp)
    exact ⟨z :: zs, by simp [e]⟩
end
theorem slen_append (x y : Str) : (x ++ y).length = x.length + y.length := by
  show (x.cps ++ y.cps).size = x.cps.size + y.cps.size
  simp
abbrev cpL (z : Str) : List Nat := z.cps.toList
theorem cpL_ext {x y : Str} (h : cpL x = cpL y) : x = y := _root_.TL.ext_tl h
theorem cpL_append (x y : Str) : cpL (x ++ y) = cpL x ++ cpL y := _root_.TL.tl_append x y
theorem cpL_len (x : Str) : x.length = (cpL x).length := _root_.TL.len_tl x
theorem joinL_nil : ∀ l : List (List Nat), _root_.TL.joinL [] l = l.flatten
  | [] => rfl
  | [p] => by simp [_root_.TL.joinL]
  | p :: q :: r => by
    rw [_root_.TL.joinL, joinL_nil (q :: r)]
    simp
theorem cpL_join0 {y : Str} (hy : cpL y = []) (zs : List Str) : cpL (Txt.join y zs) = (zs.map cpL).flatten := by
  rw [_root_.TL.join_eq]
  show _root_.TL.tl (Str.join y zs) = _
  rw [_root_.TL.tl_join, show _root_.TL.tl y = [] from hy, joinL_nil]
theorem slen_join1 {y : Str} (hy : cpL y = []) {zs : List Str} (h : ∀ z ∈ zs, z.length = 1) : (Txt.join y zs).length = zs.length := by
  rw [cpL_len, cpL_join0 hy]
  induction zs with
  | nil => rfl
  | cons z r ih =>
    simp only [List.map_cons, List.flatten_cons, List.length_append, List.length_cons]
    rw [ih fun x hx => h x (List.mem_cons_of_mem _ hx), ← cpL_len, h z (by simp)]
    omega
theorem sum_len1 {zs : List Str} (h : ∀ z ∈ zs, z.length = 1) : (zs.map (·.length)).sum = zs.length := by
  induction zs with
  | nil => rfl
  | cons z r ih =>
    rw [List.map_cons, List.sum_cons, List.length_cons, ih fun x hx => h x (List.mem_cons_of_mem _ hx), h z (by simp)]
    omega
end EN
/-! The head: what the top leaves, read by a Hook. -/
namespace EN
open PySem PySem.Spec PyProof.Rows L2

def obsB (ex : PySem.W.Frag → Bool) (fn : List He.DefD) (K : PySem.W.Frag) : Bool × List He.FnW := (ex K && fn.all fun d => d.ok K, fn.map fun d => He.fnW K d.at_)
def obsBG (n : Nat) (ex : PySem.W.Frag → Bool) (fn : List He.DefD) (g : Addr → Option Obj) : Bool × List He.FnW := obsB ex fn (He.frG g (He.asD g n))
def valB (fn : List He.DefD) : Bool × List He.FnW := (true, fn.map He.DefD.val)
def SaysB (ex : PySem.W.Frag → Bool) (fn : List He.DefD) (K : PySem.W.Frag) : Prop := obsB ex fn K = valB fn
def hookB (n : Nat) (ex : PySem.W.Frag → Bool) (fn : List He.DefD) : PySem.W.Hook where
  α := Bool × List He.FnW
  obs := fun s => obsBG n ex fn s.heap.get?
  val := fun _ => valB fn
  says := fun _ h => ∃ K : PySem.W.Frag, K.In h ∧ SaysB ex fn K
  of := fun _ _ e => ⟨_, He.frG_in, e⟩
  keeps := fun _ _ _ ⟨K, hK, c⟩ k => ⟨K, PySem.W.Frag.In.keeps hK k, c⟩
theorem obsBG_eq {n : Nat} {ex : PySem.W.Frag → Bool} {fn : List He.DefD} {g : Addr → Option Obj} {s : Shared} (h : ∀ a, g a = s.heap.get? a) : obsBG n ex fn g = (hookB n ex fn).obs s := by
  have : g = s.heap.get? := funext h
  subst this; rfl
section
variable {ex : PySem.W.Frag → Bool} {fn : List He.DefD} {K : PySem.W.Frag}
theorem SaysB.all (c : SaysB ex fn K) : ex K = true ∧ (fn.all fun d => d.ok K) = true := by
  have := congrArg Prod.fst c
  simp only [obsB, valB, Bool.and_eq_true] at this
  exact this
theorem SaysB.def_ (c : SaysB ex fn K) (i : Nat) {d : He.DefD} (h : fn[i]? = some d) : ∃ fd, FunD K d.name d.qual d.params d.body d.scope (d.dvs K) (d.kws K) (He.fAd K d.at_) fd := by
  refine He.DefD.funD ?_ ?_
  · have := congrArg Prod.snd c
    simp only [obsB, valB] at this
    have h2 := congrArg (fun l : List He.FnW => l[i]?) this
    simp only [List.getElem?_map, h, Option.map_some] at h2
    exact Option.some.inj h2
  · exact List.all_eq_true.mp c.all.2 d (List.mem_of_getElem? h)
end
theorem gc_int {G : Gc} {x : Str} {i : Int} (h : ∃ t, G.mg x = some (.int i t)) : GCst G x (.int i) := by
  obtain ⟨t, h⟩ := h
  exact ⟨_, .int i, h, ⟨t, rfl⟩, fun _ => .int i⟩
theorem gc_str {G : Gc} {x : Str} {i : Str} (h : ∃ t, G.mg x = some (.str i t)) : GCst G x (.str i) := by
  obtain ⟨t, h⟩ := h
  exact ⟨_, .str i, h, ⟨t, rfl⟩, fun _ => .str i⟩
/-- a tuple of texts -/
theorem gc_tupS {G : Gc} {x : Str} {zs : List Str} (h : G.mg x = some (.ref (He.ga G.K x))) (ht : He.tupB G.K x (zs.map He.Dv.str) = true) : GCst G x (.tup (zs.map D.str)) := by
  refine ⟨_, .ref (He.ga G.K x), h, rfl, fun H => .tup (He.tupB_ok ht H) ?_⟩
  rw [List.map_map]
  exact strDt
/-- the law's def, told for the end -/
theorem law_end {G0 : Heap → Gc} {P : Program} {w : World} {K : PySem.W.Frag} {mg : Str → Option Value} {d : He.DefD} {N : List Str} {x : Str} {k : Nat} (hG : ∀ b, G0 b = ⟨P, w, K, mg, b⟩) (hd : d.dfl = []) (hk : d.kwd = [])
    (hD : ∃ fd, FunD K d.name d.qual d.params d.body d.scope (d.dvs K) (d.kws K) (He.fAd K d.at_) fd) (S : FnScope N [x] d.scope)
    (hbind : ∀ (kV doc pm : Value) (an : Option Addr) (cdv ct : Value) (us : List Value), us.length = 1 → bindArgs (PySem.W.fnOf d.name d.qual d.params d.body d.scope .none kV doc pm an cdv ct) ⟨us, []⟩ = pure ([x].zip us))
    (body : ∀ base : Heap, K.In base → base.Ns mainGlobals mg → ∀ ns : List Int, ns.length ≤ 63 → ∃ o, SJ (bodyC (G0 base) N d k) d.body (g0 N [.dat (.lst (ns.map D.int))]) [] o ∧ o.ends (.dat (.bl true)) []) :
    ∃ (fd : FuncData) (sp : Sp), (∀ (s : Shared) (u : Value), BindsTo s fd ⟨[u], []⟩ [(x, u)]) ∧
      (∀ (H : Hp) (a : Addr) (ns : List Int), ns.length ≤ 63 → Only H → SqL K H a (ns.map V.int) → sp [.ref a] H (fun v _ => v = .bl true) fun _ _ _ => False) ∧
      ∀ base : Heap, K.In base → base.Ns mainGlobals mg → FnOk P w K mg base L2.CX0 (k + 1) (He.fAd K d.at_) fd [x] sp := by
  obtain ⟨fd, F⟩ := hD
  have e : d.dvs K = [] := by unfold He.DefD.dvs; rw [hd]; rfl
  have e2 : d.kws K = [] := by unfold He.DefD.kws; rw [hk]; rfl
  rw [e, e2] at F
  refine ⟨fd, fun vs H Q _ => ∃ ns : List Int, ns.length ≤ 63 ∧ spJ K [.dat (.lst (ns.map D.int))] [] (.dat (.bl true)) [] vs H Q fun _ _ _ => False, fun s v => F.bindsA (ps := [x]) hbind s [v] rfl, fun H a ns hl _ hS => ⟨ns, hl, law_sp hS⟩, fun base kin ns' => ?_⟩
  have key : ∀ ns : List Int, ns.length ≤ 63 → FnOk P w K mg base (L2.CX P w) (k + 1) (He.fAd K d.at_) fd [x] (spJ K [.dat (.lst (ns.map D.int))] [] (.dat (.bl true)) []) := fun ns hns => by
    obtain ⟨o, h, ho⟩ := body base kin ns' ns hns
    refine F.ok S (fun vs H Q E hsp => ?_) fun cdv A outer s H vs Q E hr hsp => ⟨_, pss_sem, ?_⟩
    · obtain ⟨φ, π, _, hts, _⟩ := hsp
      rw [← hts.len]; rfl
    · obtain ⟨φ, π, s0, hts, q⟩ := hsp
      have g : Good (bodyC (G0 base) N d k) (cxOf (L2.CX P w) P w K mg base N d.qual d.scope (He.fAd K d.at_) cdv A outer s H E) := by
        rw [hG]
        exact ⟨rfl, rfl, rfl, rfl, rfl, rfl, rfl, S.nd, hr, rfl, passes_of rfl, fun _ _ => .inl rfl⟩
      refine h _ g φ π _ H s0 (start_ok hts) _ ?_
      cases o with
      | nx Γ μ1 => obtain ⟨q1, _⟩ := ho; cases q1
      | rt u μ1 =>
        obtain ⟨rfl, rfl⟩ := ho
        exact q
      | bk _ _ => cases ho
      | ct _ _ => cases ho
  refine ⟨fun vs H Q E ⟨ns, hl, hsp⟩ => (key ns hl).len vs H Q _ hsp, fun A outer s H args us vs Q E hr e0 hb hv ⟨ns, hl, hsp⟩ => ?_⟩
  refine codeAny_mono ((key ns hl).run A outer s H args us vs Q _ hr e0 hb hv hsp) fun r s' h => ?_
  cases r with
  | ok f => cases f <;> exact h
  | error e => obtain ⟨_, _, _, _, _, _, _, _, _, _, _, _, z⟩ := h; exact z
end EN
/-! what the laws share -/
namespace EN
open PySem PySem.Spec PyProof.Rows L2
theorem ev_neg {c : EN.Ctx} {a : Expr} {Γ : List (Option T)} {μ μ1 : List M} {pos : Pos} {i : Int} (h : EvJ c a Γ μ (.int i) μ1) : EvJ c (.UnaryOp .USub a pos) Γ μ (.int (-i)) μ1 := by
  intro X g φ π σ H s0 g0 Q q
  refine toE (pe_un un_neg pe_sem) ?_
  refine h X g φ π σ H s0 g0 _ fun v π1 H1 n1 k1 => ?_
  cases k1
  exact ⟨_, rfl, q _ π1 H1 n1 (.int _)⟩
theorem at_slice (ns : List Int) (lo hi : Option Int) : ∃ v : Int, atI (EN.cutD (ns.map D.int) lo hi ++ [D.int 0]) 0 = some (.int v) := by
  have h : ∃ ms : List Int, EN.cutD (ns.map D.int) lo hi = ms.map D.int := by
    refine ints_of fun d hd => ?_
    unfold EN.cutD at hd
    have := List.mem_of_mem_drop (List.mem_of_mem_take hd)
    obtain ⟨z, _, e⟩ := List.mem_map.mp this
    exact ⟨z, e.symm⟩
  obtain ⟨ms, e⟩ := h
  rw [e]
  cases ms with
  | nil => exact ⟨0, rfl⟩
  | cons m r => exact ⟨m, by rw [show (0 : Int) = ((0 : Nat) : Int) from rfl]; exact atI_nat rfl⟩
theorem cut_len (ds : List D) (lo hi : Option Int) : (EN.cutD ds lo hi).length ≤ ds.length := by
  unfold EN.cutD
  exact Nat.le_trans (List.length_take_le' _ _) (by rw [List.length_drop]; omega)
theorem cutS_len (z : Str) (lo hi : Option Int) : (cutS z lo hi).length ≤ z.length := by
  unfold cutS
  show (List.toArray _).size ≤ z.cps.size
  rw [List.size_toArray]
  exact Nat.le_trans (List.length_take_le' _ _) (by rw [List.length_drop]; simp)
theorem pickS {zs : List Str} {i : Int} (n : Nat) (hn : zs.all (fun z => Nat.ble z.length n) = true) (h0 : 0 ≤ i) (h1 : i < zs.length) : ∃ z, z ∈ zs ∧ z.length ≤ n ∧ atI (zs.map D.str) i = some (.str z) := by
  obtain ⟨d, hm, hd'⟩ := pick (xs := zs.map D.str) h0 (by simpa using h1)
  obtain ⟨z, hz, rfl⟩ := List.mem_map.mp hm
  exact ⟨z, hz, Nat.le_of_ble_eq_true (List.all_eq_true.mp hn z hz), hd'⟩
theorem pickC {z : Str} {i : Int} (h0 : 0 ≤ i) (h1 : i < (z.length : Int)) : ∃ k, atI z.cps.toList i = some k := by
  obtain ⟨k, _, h⟩ := pick (xs := z.cps.toList) h0 (by simpa [Str.length] using h1)
  exact ⟨k, h⟩
theorem ex_sj {c : EN.Ctx} {sts : List Stmt} {Γ : List (Option T)} {μ μ' : List M} {p : Str → Prop} {z : Str} (h : SJ c sts Γ μ (.rt (.str z) μ')) (hp : p z) : ∃ z, p z ∧ SJ c sts Γ μ (.rt (.str z) μ') := ⟨z, hp, h⟩
theorem ex_cons {c : EN.Ctx} {st : Stmt} {sts : List Stmt} {Γ Γ1 : List (Option T)} {μ μ1 μ' : List M} {p : Str → Prop} (h : StJ c st Γ μ (.nx Γ1 μ1)) (h' : ∃ z, p z ∧ SJ c sts Γ1 μ1 (.rt (.str z) μ')) : ∃ z, p z ∧ SJ c (st :: sts) Γ μ (.rt (.str z) μ') := by
  obtain ⟨z, hp, hs⟩ := h'
  exact ⟨z, hp, sj_cons h hs⟩
theorem ex_stop {c : EN.Ctx} {st : Stmt} {sts : List Stmt} {Γ : List (Option T)} {μ μ' : List M} {p : Str → Prop} (h : ∃ z, p z ∧ StJ c st Γ μ (.rt (.str z) μ')) : ∃ z, p z ∧ SJ c (st :: sts) Γ μ (.rt (.str z) μ') := by
  obtain ⟨z, hp, hs⟩ := h
  exact ⟨z, hp, sj_stop hs⟩
theorem ex_if_t {c : EN.Ctx} {A B : List Stmt} {x : Expr} {pos : Pos} {Γ : List (Option T)} {μ μ1 μ' : List M} {p : Str → Prop} (h : TJ c x Γ μ true μ1) (h1 : ∃ z, p z ∧ SJ c A Γ μ1 (.rt (.str z) μ')) : ∃ z, p z ∧ StJ c (.If x A B pos) Γ μ (.rt (.str z) μ') := by
  obtain ⟨z, hp, hs⟩ := h1
  exact ⟨z, hp, st_if_t h hs⟩
theorem ex_set {c : EN.Ctx} {e : Expr} {x : Str} {pp pos : Pos} {sts : List Stmt} {Γ : List (Option T)} {μ μ' : List M} {p : Str → Prop} {i : Nat} (t : T) (h : EvJ c e Γ μ t μ) (hi : c.N[i]? = some x) (hx : locB c.sc x = true) (h' : ∃ z, p z ∧ SJ c sts (Γ.set i (some t)) μ (.rt (.str z) μ')) (hs : isComp e = false := by rfl) (hf : c.sto x = true := by rfl) :
    ∃ z, p z ∧ SJ c (.Assign [.Name x pp] e pos :: sts) Γ μ (.rt (.str z) μ') := ex_cons (st_nm h hi hx hs hf) h'
theorem sj_set {c : EN.Ctx} {e : Expr} {x : Str} {pp pos : Pos} {sts : List Stmt} {Γ : List (Option T)} {μ : List M} {o : Out} {i : Nat} (t : T) (h : EvJ c e Γ μ t μ) (hi : c.N[i]? = some x) (hx : locB c.sc x = true) (h' : SJ c sts (Γ.set i (some t)) μ o) (hs : isComp e = false := by rfl) (hf : c.sto x = true := by rfl) :
    SJ c (.Assign [.Name x pp] e pos :: sts) Γ μ o := sj_cons (st_nm h hi hx hs hf) h'
/-- a loop that keeps I and goes on while q, and answers r at the first item without q -/
theorem loop_I {c : EN.Ctx} {body : List Stmt} {μ : List M} {i : Nat} {r : T} (I : List (Option T) → Prop) (q : T → Bool) (its : List T)
    (h1 : ∀ t ∈ its, q t = true → ∀ Γ, I Γ → ∃ Γ', I Γ' ∧ SJ c body (Γ.set i (some t)) μ (.nx Γ' μ))
    (h2 : ∀ t ∈ its, q t = false → ∀ Γ, I Γ → SJ c body (Γ.set i (some t)) μ (.rt r μ)) :
    ∀ Γ, I Γ → (its.all q = true → ∃ Γ', I Γ' ∧ LoopJ c (gName i) body its Γ μ (.nx Γ' μ)) ∧ (its.all q = false → LoopJ c (gName i) body its Γ μ (.rt r μ)) := by
  induction its with
  | nil => exact fun Γ hI => ⟨fun _ => ⟨Γ, hI, rfl⟩, fun h => by cases h⟩
  | cons t ts ih =>
    intro Γ hI
    have ih' := ih (fun u hu => h1 u (List.mem_cons_of_mem _ hu)) fun u hu => h2 u (List.mem_cons_of_mem _ hu)
    cases hq : q t with
    | false =>
      refine ⟨fun h => by simp [hq] at h, fun _ => ⟨_, [i], gv_name, _, h2 t (by simp) hq Γ hI, rfl⟩⟩
    | true =>
      obtain ⟨Γ', hI', hs⟩ := h1 t (by simp) hq Γ hI
      refine ⟨fun h => ?_, fun h => ?_⟩
      · obtain ⟨Γ2, h3, h4⟩ := (ih' Γ' hI').1 (by simpa [hq] using h)
        exact ⟨Γ2, h3, _, [i], gv_name, _, hs, h4⟩
      · exact ⟨_, [i], gv_name, _, hs, (ih' Γ' hI').2 (by simpa [hq] using h)⟩
theorem sj_forI {c : EN.Ctx} {tg iter : Expr} {body sts : List Stmt} {pos : Pos} {Γ : List (Option T)} {μ : List M} {i : Nat} {r : T} {o : Out} {its : List T} (I : List (Option T) → Prop) (q : T → Bool) (hI : I Γ) (hi : IterJ c tg iter Γ μ its μ) (hg : TgJ c tg (gName i))
    (h1 : ∀ t ∈ its, q t = true → ∀ Γ, I Γ → ∃ Γ', I Γ' ∧ SJ c body (Γ.set i (some t)) μ (.nx Γ' μ))
    (h2 : ∀ t ∈ its, q t = false → ∀ Γ, I Γ → SJ c body (Γ.set i (some t)) μ (.rt r μ))
    (hr : its.all q = true → ∀ Γ, I Γ → SJ c sts Γ μ o) (ho : its.all q = false → o = .rt r μ) (hs : ∀ env x, foldedSetIterable iter env x = pure x := by intro _ _; rfl) : SJ c (.For tg iter body [] pos :: sts) Γ μ o := by
  obtain ⟨q1, q2⟩ := loop_I I q its h1 h2 Γ hI
  cases hq : its.all q with
  | true =>
    obtain ⟨Γ', h3, h4⟩ := q1 hq
    exact sj_cons (st_for hi hg h4 hs) (hr hq Γ' h3)
  | false =>
    rw [ho hq]
    exact sj_stop (st_for hi hg (q2 hq) hs)
theorem st_setIxE {c : EN.Ctx} {e a ix : Expr} {pos apos : Pos} {Γ : List (Option T)} {μ μ1 μ' : List M} {t : T} {ts : List T} {i k : Nat} {kI : Int} (he : EvJ c e Γ μ t μ1) (ho : EvJ c a Γ μ1 (.own i) μ1) (hx : EvJ c ix Γ μ1 (.int kI) μ1) (hi : μ1[i]? = some (.lst ts)) (hk : ixN ts.length kI = some k) (hE : μ1.set i (.lst (ts.set k t)) = μ') (hs : isComp e = false := by rfl) (ht : isTup e = false := by rfl)
    (ha : ∀ env v, assign (.Subscript a ix apos) env v = (do
      let ov ← holding [v] (eval a env)
      let iv ← holding [v, ov] (eval ix env)
      standAt apos
      holding [v, ov, iv] (setItem ov iv v)
      release [v, ov, iv] []) := by intro _ _; rfl) : StJ c (.Assign [.Subscript a ix apos] e pos) Γ μ (.nx Γ μ') := by
  subst hE
  exact st_setIx (tg := a) he ho hx hi hk hs ht ha
theorem loop_nil {c : EN.Ctx} {gt : TG} {body : List Stmt} {Γ : List (Option T)} {μ : List M} : LoopJ c gt body [] Γ μ (.nx Γ μ) := rfl
theorem loop_cons {c : EN.Ctx} {body : List Stmt} {i : Nat} {t : T} {ts : List T} {Γ Γ2 : List (Option T)} {μ μ2 : List M} {o : Out} (h : SJ c body (Γ.set i (some t)) μ (.nx Γ2 μ2)) (h' : LoopJ c (gName i) body ts Γ2 μ2 o) : LoopJ c (gName i) body (t :: ts) Γ μ o := ⟨_, [i], gv_name, _, h, h'⟩
theorem EvJ.eqB {c : EN.Ctx} {e : Expr} {Γ : List (Option T)} {μ μ' : List M} {r r' : Bool} (h : EvJ c e Γ μ (.bl r) μ') (q : r = r') : EvJ c e Γ μ (.bl r') μ' := q ▸ h
theorem str_zero {t : Str} (h : t.length = 0) : t = "" := by
  obtain ⟨a⟩ := t
  have : a = #[] := Array.size_eq_zero_iff.mp h
  subst this
  rfl
theorem ex_setE {c : EN.Ctx} {e : Expr} {x : Str} {pp pos : Pos} {sts : List Stmt} {Γ : List (Option T)} {μ μ' : List M} {p pt : Str → Prop} {i : Nat} (h : ∃ t, pt t ∧ EvJ c e Γ μ (.str t) μ) (hi : c.N[i]? = some x) (hx : locB c.sc x = true) (h' : ∀ t, pt t → ∃ z, p z ∧ SJ c sts (Γ.set i (some (.str t))) μ (.rt (.str z) μ')) (hs : isComp e = false := by rfl) (hf : c.sto x = true := by rfl) :
    ∃ z, p z ∧ SJ c (.Assign [.Name x pp] e pos :: sts) Γ μ (.rt (.str z) μ') := by
  obtain ⟨t, ht, he⟩ := h
  exact ex_cons (st_nm he hi hx hs hf) (h' t ht)
theorem ex_comp_rg {c : EN.Ctx} {tg iter elt : Expr} {pos : Pos} {scope : Scope} {own : List (Str × Nat)} {Γ : List (Option T)} {μ : List M} {n i : Nat} {lo : Int} (p : D → Prop) (hi : IterJ c tg iter Γ μ (rgD lo n) μ) (hb : blkC c.N c.sc scope own = true) (hg : TgJ (c.blk scope) tg (gName i)) (hm : i ∈ own.map (·.2)) (hz : n ≤ 1000000)
    (h : ∀ k, k < n → ∃ d, p d ∧ EvJ (c.blk scope) elt ((wipeG Γ (own.map (·.2))).set i (some (.int (lo + (k : Nat))))) μ (.dat d) μ) (hs : ∀ env x, foldedSetIterable iter env x = pure x := by intro _ _; rfl) :
    ∃ ds : List D, ds.length = n ∧ (∀ d ∈ ds, p d) ∧ EvJ c (.ListComp elt [⟨tg, iter, [], 0⟩] scope pos) Γ μ (.dat (.lst ds)) μ := by
  obtain ⟨ds, h1, h2, h3⟩ := cmp_rg_ex p hm h
  exact ⟨ds, h1, h2, ev_comp hi hb hg h3 (by rw [len_rg]; exact hz) hs⟩
theorem ex_join {c : EN.Ctx} {a b : Expr} {sep : Str} {pos apos : Pos} {Γ : List (Option T)} {μ : List M} {n : Nat} (ho : EvJ c a Γ μ (.str sep) μ) (hsep : cpL sep = []) (he : ∃ ds : List D, ds.length = n ∧ (∀ d ∈ ds, ∃ k : Nat, d = .str ⟨#[k]⟩) ∧ EvJ c b Γ μ (.dat (.lst ds)) μ) (hn : n ≤ 1000000) (hb : isSuper a = false := by rfl) (hs : isStar b = false := by rfl) (hl : (apos.endLine == pos.line) = true := by rfl) :
    ∃ t : Str, t.length = n ∧ EvJ c (.Call (.Attribute a "join" apos) [b] [] pos) Γ μ (.str t) μ := by
  obtain ⟨ds, h1, h2, h3⟩ := he
  obtain ⟨zs, rfl⟩ := strs_of fun d hd => (h2 d hd).imp' (fun k => ⟨#[k]⟩) fun k e => e
  have hz : ∀ z ∈ zs, z.length = 1 := fun z hz => by
    obtain ⟨k, e⟩ := h2 _ (List.mem_map_of_mem hz)
    cases e; rfl
  have hl0 : sep.length = 0 := by rw [cpL_len, hsep]; rfl
  rw [List.length_map] at h1
  exact ⟨_, by rw [slen_join1 hsep hz]; exact h1, ev_join ho h3 rfl (by rw [sum_len1 hz, hl0]; omega) hb hs hl⟩
end EN
namespace LK01
open PySem PySem.Spec PyProof.Rows L2 EN
def topS (i : Nat) : Stmt := PySem.Challenge.pw_readsmith_k01_names_and_signs.main.body.getD i (.Pass ⟨0, 0, 0, 0⟩)
abbrev s_are_among : Stmt := topS 6
def N_are_among : List Str := ["text", "signs", "sign"]
abbrev d_are_among : He.DefD := ⟨("are_among", none), "are_among", "are_among", defArgs s_are_among, defBody s_are_among, defScope s_are_among, [], []⟩
theorem sc_are_among : FnScope N_are_among ["text", "signs"] (defScope s_are_among) := ⟨rfl, rfl, rfl, by decide +kernel, rfl, by decide +kernel, by decide +kernel⟩
theorem bn_are_among {G : Gc} : DefBinds G d_are_among ["text", "signs"] [] := binds0 rfl fun _ _ _ _ _ _ us hl => match us, hl with | [_, _], _ => rfl
abbrev s_is_small : Stmt := topS 7
def N_is_small : List Str := ["thing"]
abbrev d_is_small : He.DefD := ⟨("is_small", none), "is_small", "is_small", defArgs s_is_small, defBody s_is_small, defScope s_is_small, [], []⟩
theorem sc_is_small : FnScope N_is_small ["thing"] (defScope s_is_small) := ⟨rfl, rfl, rfl, by decide +kernel, rfl, by decide +kernel, by decide +kernel⟩
theorem bn_is_small {G : Gc} : DefBinds G d_is_small ["thing"] [] := binds0 rfl fun _ _ _ _ _ _ us hl => match us, hl with | [_], _ => rfl
abbrev s_is_name : Stmt := topS 8
def N_is_name : List Str := ["thing"]
abbrev d_is_name : He.DefD := ⟨("is_name", none), "is_name", "is_name", defArgs s_is_name, defBody s_is_name, defScope s_is_name, [], []⟩
theorem sc_is_name : FnScope N_is_name ["thing"] (defScope s_is_name) := ⟨rfl, rfl, rfl, by decide +kernel, rfl, by decide +kernel, by decide +kernel⟩
theorem bn_is_name {G : Gc} : DefBinds G d_is_name ["thing"] [] := binds0 rfl fun _ _ _ _ _ _ us hl => match us, hl with | [_], _ => rfl
abbrev s_is_sign : Stmt := topS 9
def N_is_sign : List Str := ["thing"]
abbrev d_is_sign : He.DefD := ⟨("is_sign", none), "is_sign", "is_sign", defArgs s_is_sign, defBody s_is_sign, defScope s_is_sign, [], []⟩
theorem sc_is_sign : FnScope N_is_sign ["thing"] (defScope s_is_sign) := ⟨rfl, rfl, rfl, by decide +kernel, rfl, by decide +kernel, by decide +kernel⟩
theorem bn_is_sign {G : Gc} : DefBinds G d_is_sign ["thing"] [] := binds0 rfl fun _ _ _ _ _ _ us hl => match us, hl with | [_], _ => rfl
abbrev s_law_of : Stmt := topS 11
def N_law_of : List Str := ["_law_script", "_law_k"]
abbrev d_law_of : He.DefD := ⟨("_law_of", none), "_law_of", "_law_of", defArgs s_law_of, defBody s_law_of, defScope s_law_of, [], []⟩
theorem sc_law_of : FnScope N_law_of ["_law_script", "_law_k"] (defScope s_law_of) := ⟨rfl, rfl, rfl, by decide +kernel, rfl, by decide +kernel, by decide +kernel⟩
theorem bn_law_of {G : Gc} : DefBinds G d_law_of ["_law_script", "_law_k"] [] := binds0 rfl fun _ _ _ _ _ _ us hl => match us, hl with | [_, _], _ => rfl
abbrev s_law_mixed : Stmt := topS 12
def N_law_mixed : List Str := ["_law_script", "_law_k", "_law_cell"]
abbrev d_law_mixed : He.DefD := ⟨("_law_mixed", none), "_law_mixed", "_law_mixed", defArgs s_law_mixed, defBody s_law_mixed, defScope s_law_mixed, [], []⟩
theorem sc_law_mixed : FnScope N_law_mixed ["_law_script", "_law_k"] (defScope s_law_mixed) := ⟨rfl, rfl, rfl, by decide +kernel, rfl, by decide +kernel, by decide +kernel⟩
theorem bn_law_mixed {G : Gc} : DefBinds G d_law_mixed ["_law_script", "_law_k"] [] := binds0 rfl fun _ _ _ _ _ _ us hl => match us, hl with | [_, _], _ => rfl
abbrev s_law_turned : Stmt := topS 13
def N_law_turned : List Str := ["_law_number", "_law_k"]
abbrev d_law_turned : He.DefD := ⟨("_law_turned", none), "_law_turned", "_law_turned", defArgs s_law_turned, defBody s_law_turned, defScope s_law_turned, [], []⟩
theorem sc_law_turned : FnScope N_law_turned ["_law_number", "_law_k"] (defScope s_law_turned) := ⟨rfl, rfl, rfl, by decide +kernel, rfl, by decide +kernel, by decide +kernel⟩
theorem bn_law_turned {G : Gc} : DefBinds G d_law_turned ["_law_number", "_law_k"] [] := binds0 rfl fun _ _ _ _ _ _ us hl => match us, hl with | [_, _], _ => rfl
abbrev s_law_drawn : Stmt := topS 14
def N_law_drawn : List Str := ["_law_script", "_law_cell", "_law_letters", "_law_marks", "_law_signs", "_law_word", "_law_near", "_law_size", "_law_some", "_law_text", "_law_j", "_law_number", "_law_at", "_law_sign"]
abbrev d_law_drawn : He.DefD := ⟨("_law_drawn", none), "_law_drawn", "_law_drawn", defArgs s_law_drawn, defBody s_law_drawn, defScope s_law_drawn, [], []⟩
theorem sc_law_drawn : FnScope N_law_drawn ["_law_script"] (defScope s_law_drawn) := ⟨rfl, rfl, rfl, by decide +kernel, rfl, by decide +kernel, by decide +kernel⟩
theorem bn_law_drawn {G : Gc} : DefBinds G d_law_drawn ["_law_script"] [] := binds0 rfl fun _ _ _ _ _ _ us hl => match us, hl with | [_], _ => rfl
abbrev s_law_is_of : Stmt := topS 15
def N_law_is_of : List Str := ["_law_text", "_law_signs", "_law_sign"]
abbrev d_law_is_of : He.DefD := ⟨("_law_is_of", none), "_law_is_of", "_law_is_of", defArgs s_law_is_of, defBody s_law_is_of, defScope s_law_is_of, [], []⟩
theorem sc_law_is_of : FnScope N_law_is_of ["_law_text", "_law_signs"] (defScope s_law_is_of) := ⟨rfl, rfl, rfl, by decide +kernel, rfl, by decide +kernel, by decide +kernel⟩
theorem bn_law_is_of {G : Gc} : DefBinds G d_law_is_of ["_law_text", "_law_signs"] [] := binds0 rfl fun _ _ _ _ _ _ us hl => match us, hl with | [_, _], _ => rfl
abbrev s_law_dues : Stmt := topS 16
def N_law_dues : List Str := ["_law_text", "_law_small", "_law_marked", "_law_name"]
abbrev d_law_dues : He.DefD := ⟨("_law_dues", none), "_law_dues", "_law_dues", defArgs s_law_dues, defBody s_law_dues, defScope s_law_dues, [], []⟩
theorem sc_law_dues : FnScope N_law_dues ["_law_text"] (defScope s_law_dues) := ⟨rfl, rfl, rfl, by decide +kernel, rfl, by decide +kernel, by decide +kernel⟩
theorem bn_law_dues {G : Gc} : DefBinds G d_law_dues ["_law_text"] [] := binds0 rfl fun _ _ _ _ _ _ us hl => match us, hl with | [_], _ => rfl
abbrev s_law_told : Stmt := topS 17
def N_law_told : List Str := ["_law_thing", "_law_order", "_law_found", "_law_turn"]
abbrev d_law_told : He.DefD := ⟨("_law_told", none), "_law_told", "_law_told", defArgs s_law_told, defBody s_law_told, defScope s_law_told, [], []⟩
theorem sc_law_told : FnScope N_law_told ["_law_thing", "_law_order"] (defScope s_law_told) := ⟨rfl, rfl, rfl, by decide +kernel, rfl, by decide +kernel, by decide +kernel⟩
theorem bn_law_told {G : Gc} : DefBinds G d_law_told ["_law_thing", "_law_order"] [] := binds0 rfl fun _ _ _ _ _ _ us hl => match us, hl with | [_, _], _ => rfl
abbrev s_law : Stmt := topS 18
def N_law : List Str := ["_law_script", "_law_text", "_law_order", "_law_dues_here", "_law_turn", "_law_found", "_law_one", "_law_odd"]
abbrev d_law : He.DefD := ⟨("law", none), "law", "law", defArgs s_law, defBody s_law, defScope s_law, [], []⟩
theorem sc_law : FnScope N_law ["_law_script"] (defScope s_law) := ⟨rfl, rfl, rfl, by decide +kernel, rfl, by decide +kernel, by decide +kernel⟩
theorem bn_law {G : Gc} : DefBinds G d_law ["_law_script"] [] := binds0 rfl fun _ _ _ _ _ _ us hl => match us, hl with | [_], _ => rfl
/-- what the top has left -/
structure Env (G : Gc) : Prop where
  f_all : G.mg "all" = none
  f_isinstance : G.mg "isinstance" = none
  f_str : G.mg "str" = none
  f_len : G.mg "len" = none
  f_max : G.mg "max" = none
  f_range : G.mg "range" = none
  f_bool : G.mg "bool" = none
  g_are_among : G.mg "are_among" = some (.ref (He.ga G.K "are_among"))
  g_is_small : G.mg "is_small" = some (.ref (He.ga G.K "is_small"))
  g_is_name : G.mg "is_name" = some (.ref (He.ga G.K "is_name"))
  g_is_sign : G.mg "is_sign" = some (.ref (He.ga G.K "is_sign"))
  g_law_of : G.mg "_law_of" = some (.ref (He.ga G.K "_law_of"))
  g_law_mixed : G.mg "_law_mixed" = some (.ref (He.ga G.K "_law_mixed"))
  g_law_turned : G.mg "_law_turned" = some (.ref (He.ga G.K "_law_turned"))
  g_law_drawn : G.mg "_law_drawn" = some (.ref (He.ga G.K "_law_drawn"))
  g_law_is_of : G.mg "_law_is_of" = some (.ref (He.ga G.K "_law_is_of"))
  g_law_dues : G.mg "_law_dues" = some (.ref (He.ga G.K "_law_dues"))
  g_law_told : G.mg "_law_told" = some (.ref (He.ga G.K "_law_told"))
  g_law : G.mg "law" = some (.ref (He.ga G.K "law"))
  k_MOST : GCst G "MOST" (.int 8)
  k_SMALL : GCst G "SMALL" (.str "abcdefghijklmnopqrstuvwxyz")
  k_MARKS : GCst G "MARKS" (.str "()[]{},;:.+-*/<>=!&^~@#$?")
  k_KEPT : GCst G "KEPT" (.tup ((["left", "right", "alone"] : List Str).map D.str))
  k_CLASSES : GCst G "CLASSES" (.tup ((["WORD", "FIGURES"] : List Str).map D.str))
  d_are_among : HasDef G d_are_among
  d_is_small : HasDef G d_is_small
  d_is_name : HasDef G d_is_name
  d_is_sign : HasDef G d_is_sign
  d_law_of : HasDef G d_law_of
  d_law_mixed : HasDef G d_law_mixed
  d_law_turned : HasDef G d_law_turned
  d_law_drawn : HasDef G d_law_drawn
  d_law_is_of : HasDef G d_law_is_of
  d_law_dues : HasDef G d_law_dues
  d_law_told : HasDef G d_law_told
  d_law : HasDef G d_law

def fa : List He.Fa := [.free "all", .free "isinstance", .free "str", .free "len", .free "max", .free "range", .free "bool", .glo "are_among", .glo "is_small", .glo "is_name", .glo "is_sign", .glo "_law_of", .glo "_law_mixed", .glo "_law_turned", .glo "_law_drawn", .glo "_law_is_of", .glo "_law_dues", .glo "_law_told", .glo "law", .int "MOST" 8, .str "SMALL" "abcdefghijklmnopqrstuvwxyz", .str "MARKS" "()[]{},;:.+-*/<>=!&^~@#$?", .glo "KEPT", .glo "CLASSES"]
def fn : List He.DefD := [d_are_among, d_is_small, d_is_name, d_is_sign, d_law_of, d_law_mixed, d_law_turned, d_law_drawn, d_law_is_of, d_law_dues, d_law_told, d_law]
def tupsB (K : PySem.W.Frag) : Bool := He.tupB K "KEPT" ((["left", "right", "alone"] : List Str).map He.Dv.str) && He.tupB K "CLASSES" ((["WORD", "FIGURES"] : List Str).map He.Dv.str)
def more (K : PySem.W.Frag) : Bool := true
def ex (K : PySem.W.Frag) : Bool := (fa.all fun f => f.ok K) && (tupsB K && more K)
theorem env_of {G : Gc} {h : Heap} (X : G.K.In h) (M : h.Ns mainGlobals G.mg) (c : SaysB ex fn G.K) : Env G := by
  obtain ⟨c1, c2⟩ := c.all
  unfold ex at c1
  simp only [Bool.and_eq_true] at c1
  obtain ⟨c1, c3, c4⟩ := c1
  have F : ∀ (i : Nat) (f : He.Fa), fa[i]? = some f → f.ok G.K = true := fun i f h => List.all_eq_true.mp c1 f (List.mem_of_getElem? h)
  unfold tupsB at c3
  simp only [Bool.and_eq_true] at c3
  obtain ⟨t0, t1⟩ := c3

  exact {
    f_all := He.free_ok X M (F 0 _ rfl)
    f_isinstance := He.free_ok X M (F 1 _ rfl)
    f_str := He.free_ok X M (F 2 _ rfl)
    f_len := He.free_ok X M (F 3 _ rfl)
    f_max := He.free_ok X M (F 4 _ rfl)
    f_range := He.free_ok X M (F 5 _ rfl)
    f_bool := He.free_ok X M (F 6 _ rfl)
    g_are_among := He.glo_ok X M (F 7 _ rfl)
    g_is_small := He.glo_ok X M (F 8 _ rfl)
    g_is_name := He.glo_ok X M (F 9 _ rfl)
    g_is_sign := He.glo_ok X M (F 10 _ rfl)
    g_law_of := He.glo_ok X M (F 11 _ rfl)
    g_law_mixed := He.glo_ok X M (F 12 _ rfl)
    g_law_turned := He.glo_ok X M (F 13 _ rfl)
    g_law_drawn := He.glo_ok X M (F 14 _ rfl)
    g_law_is_of := He.glo_ok X M (F 15 _ rfl)
    g_law_dues := He.glo_ok X M (F 16 _ rfl)
    g_law_told := He.glo_ok X M (F 17 _ rfl)
    g_law := He.glo_ok X M (F 18 _ rfl)
    k_MOST := gc_int (He.int_ok X M (F 19 _ rfl))
    k_SMALL := gc_str (He.str_ok X M (F 20 _ rfl))
    k_MARKS := gc_str (He.str_ok X M (F 21 _ rfl))
    k_KEPT := gc_tupS (He.glo_ok X M (F 22 _ rfl)) t0
    k_CLASSES := gc_tupS (He.glo_ok X M (F 23 _ rfl)) t1
    d_are_among := c.def_ 0 rfl
    d_is_small := c.def_ 1 rfl
    d_is_name := c.def_ 2 rfl
    d_is_sign := c.def_ 3 rfl
    d_law_of := c.def_ 4 rfl
    d_law_mixed := c.def_ 5 rfl
    d_law_turned := c.def_ 6 rfl
    d_law_drawn := c.def_ 7 rfl
    d_law_is_of := c.def_ 8 rfl
    d_law_dues := c.def_ 9 rfl
    d_law_told := c.def_ 10 rfl
    d_law := c.def_ 11 rfl

  }
local macro_rules | `(tactic| walk_at "in_are_among") => `(tactic| (have : N_are_among[0]? = some ("text" : Str) := rfl; have : N_are_among[1]? = some ("signs" : Str) := rfl; have : N_are_among[2]? = some ("sign" : Str) := rfl; have := Env.f_all ‹Env _›))
local macro_rules | `(tactic| walk_at "in_is_small") => `(tactic| (have : N_is_small[0]? = some ("thing" : Str) := rfl; have := Env.f_isinstance ‹Env _›; have := Env.f_str ‹Env _›; have := Env.f_len ‹Env _›; have := Env.k_MOST ‹Env _›; have := Env.g_are_among ‹Env _›; have := Env.k_SMALL ‹Env _›))
local macro_rules | `(tactic| walk_at "in_is_name") => `(tactic| (have : N_is_name[0]? = some ("thing" : Str) := rfl; have := Env.g_is_small ‹Env _›; have := Env.k_KEPT ‹Env _›))
local macro_rules | `(tactic| walk_at "in_is_sign") => `(tactic| (have : N_is_sign[0]? = some ("thing" : Str) := rfl; have := Env.g_is_small ‹Env _›; have := Env.f_isinstance ‹Env _›; have := Env.f_str ‹Env _›; have := Env.k_CLASSES ‹Env _›; have := Env.f_len ‹Env _›; have := Env.g_are_among ‹Env _›; have := Env.k_MARKS ‹Env _›))
local macro_rules | `(tactic| walk_at "in_law_of") => `(tactic| (have : N_law_of[0]? = some ("_law_script" : Str) := rfl; have : N_law_of[1]? = some ("_law_k" : Str) := rfl))
local macro_rules | `(tactic| walk_at "in_law_mixed") => `(tactic| (have : N_law_mixed[0]? = some ("_law_script" : Str) := rfl; have : N_law_mixed[1]? = some ("_law_k" : Str) := rfl; have : N_law_mixed[2]? = some ("_law_cell" : Str) := rfl; have := Env.f_max ‹Env _›; have := Env.f_len ‹Env _›))
local macro_rules | `(tactic| walk_at "in_law_turned") => `(tactic| (have : N_law_turned[0]? = some ("_law_number" : Str) := rfl; have : N_law_turned[1]? = some ("_law_k" : Str) := rfl))
local macro_rules | `(tactic| walk_at "in_law_drawn") => `(tactic| (have : N_law_drawn[0]? = some ("_law_script" : Str) := rfl; have : N_law_drawn[1]? = some ("_law_cell" : Str) := rfl; have : N_law_drawn[2]? = some ("_law_letters" : Str) := rfl; have : N_law_drawn[3]? = some ("_law_marks" : Str) := rfl; have : N_law_drawn[4]? = some ("_law_signs" : Str) := rfl; have : N_law_drawn[5]? = some ("_law_word" : Str) := rfl; have : N_law_drawn[6]? = some ("_law_near" : Str) := rfl; have : N_law_drawn[7]? = some ("_law_size" : Str) := rfl; have : N_law_drawn[8]? = some ("_law_some" : Str) := rfl; have : N_law_drawn[9]? = some ("_law_text" : Str) := rfl; have : N_law_drawn[10]? = some ("_law_j" : Str) := rfl; have : N_law_drawn[11]? = some ("_law_number" : Str) := rfl; have : N_law_drawn[12]? = some ("_law_at" : Str) := rfl; have : N_law_drawn[13]? = some ("_law_sign" : Str) := rfl; have := Env.g_law_of ‹Env _›; have := Env.g_law_mixed ‹Env _›; have := Env.f_len ‹Env _›; have := Env.f_range ‹Env _›))
local macro_rules | `(tactic| walk_at "in_law_is_of") => `(tactic| (have : N_law_is_of[0]? = some ("_law_text" : Str) := rfl; have : N_law_is_of[1]? = some ("_law_signs" : Str) := rfl; have : N_law_is_of[2]? = some ("_law_sign" : Str) := rfl))
local macro_rules | `(tactic| walk_at "in_law_dues") => `(tactic| (have : N_law_dues[0]? = some ("_law_text" : Str) := rfl; have : N_law_dues[1]? = some ("_law_small" : Str) := rfl; have : N_law_dues[2]? = some ("_law_marked" : Str) := rfl; have : N_law_dues[3]? = some ("_law_name" : Str) := rfl; have := Env.f_len ‹Env _›; have := Env.g_law_is_of ‹Env _›))
local macro_rules | `(tactic| walk_at "in_law_told") => `(tactic| (have : N_law_told[0]? = some ("_law_thing" : Str) := rfl; have : N_law_told[1]? = some ("_law_order" : Str) := rfl; have : N_law_told[2]? = some ("_law_found" : Str) := rfl; have : N_law_told[3]? = some ("_law_turn" : Str) := rfl; have := Env.g_is_name ‹Env _›; have := Env.g_is_sign ‹Env _›))
local macro_rules | `(tactic| walk_at "in_law") => `(tactic| (have : N_law[0]? = some ("_law_script" : Str) := rfl; have : N_law[1]? = some ("_law_text" : Str) := rfl; have : N_law[2]? = some ("_law_order" : Str) := rfl; have : N_law[3]? = some ("_law_dues_here" : Str) := rfl; have : N_law[4]? = some ("_law_turn" : Str) := rfl; have : N_law[5]? = some ("_law_found" : Str) := rfl; have : N_law[6]? = some ("_law_one" : Str) := rfl; have : N_law[7]? = some ("_law_odd" : Str) := rfl; have := Env.g_law_drawn ‹Env _›; have := Env.g_law_of ‹Env _›; have := Env.g_law_dues ‹Env _›; have := Env.f_range ‹Env _›; have := Env.g_law_told ‹Env _›; have := Env.f_all ‹Env _›; have := Env.f_isinstance ‹Env _›; have := Env.f_bool ‹Env _›))
/-! the walk's tactics: "go" goes on as far as it can; what is left stands open -/
local macro_rules | `(tactic| walk_at "sz") => `(tactic| first | (with_reducible assumption) | (simp only [sizeLine]; omega) | omega | decide | assumption | (simp [sizeLine]; done) | (simp [sizeLine]; omega))
local macro_rules | `(tactic| walk_at "cm") => `(tactic| first | exact .inr (by constructor <;> omega) | exact .inl (by constructor <;> omega))
local macro_rules | `(tactic| walk_at "fl") => `(tactic| first | rfl | decide | (simp [flD]; done))
local macro_rules | `(tactic| walk_at "op") => `(tactic| first
  | with_reducible exact o_addI | with_reducible exact o_subI | ((with_reducible apply o_mulI); walk_at "cm") | ((with_reducible apply o_divI); constructor <;> omega) | ((with_reducible apply o_modI); first | omega | decide) | ((with_reducible apply o_powI); refine ⟨?_, ?_, ?_⟩ <;> first | decide | omega)
  | with_reducible exact o_ltI | with_reducible exact o_leI | with_reducible exact o_gtI | with_reducible exact o_geI | ((with_reducible apply o_eqS); exact rfl) | ((with_reducible apply o_neS); exact rfl) | ((with_reducible apply o_addS); walk_at "sz") | with_reducible exact o_inSign | with_reducible exact o_notInSign | with_reducible exact o_ltS | with_reducible exact o_leS
  | ((with_reducible apply o_inT) <;> walk_at "fl") | ((with_reducible apply o_notInT) <;> walk_at "fl") | ((with_reducible apply o_inL) <;> walk_at "fl") | ((with_reducible apply o_notInL) <;> walk_at "fl")
  | with_reducible exact o_isN | with_reducible exact o_notN | ((with_reducible apply o_catL); walk_at "sz") | with_reducible assumption
  | exact o_addS (by walk_at "sz") | exact o_inT (by walk_at "fl") (by walk_at "fl") | exact o_notInT (by walk_at "fl") (by walk_at "fl"))
local macro_rules | `(tactic| walk_at "at") => `(tactic| first | with_reducible assumption | assumption | with_unfolding_all rfl)
local macro_rules | `(tactic| walk_at "ix") => `(tactic| first | ((with_reducible apply x_lst); walk_at "at") | ((with_reducible apply x_tup); walk_at "at") | ((with_reducible apply x_str); walk_at "sz"; first | with_reducible assumption | assumption) | with_reducible assumption)
local macro_rules | `(tactic| walk_at "c1") => `(tactic| first | with_reducible exact c_lenL | with_reducible exact c_lenT | ((with_reducible apply c_lenS); walk_at "sz") | with_reducible exact c_max2 | with_reducible exact c_min2 | with_reducible exact c_intB | ((with_reducible apply c_strI); assumption) | ((with_reducible apply c_all); exact rfl) | ((with_reducible apply c_any); exact rfl) | ((with_reducible apply c_sum); exact rfl) | with_reducible exact c_listL | with_reducible exact c_listT | with_reducible exact c_tupL | with_reducible assumption)
local macro_rules | `(tactic| walk_at "sl") => `(tactic| first | with_reducible exact s_lst | ((with_reducible apply s_str); walk_at "sz") | with_reducible assumption)
local macro_rules | `(tactic| walk_at "own") => `(tactic| with_reducible assumption)
local macro_rules | `(tactic| walk_at "nm") => `(tactic| (with_reducible apply ev_nm); (with_reducible assumption); kernel_rfl; exact rfl)
local macro_rules | `(tactic| walk_at "gc") => `(tactic| (with_reducible apply ev_gcst); (with_reducible assumption); kernel_rfl)
local macro_rules | `(tactic| walk_at "call") => `(tactic| first
  | ((with_reducible show EvJ _ (.Call (.Name ("len" : Str) _) _ _ _) _ _ _ _); (with_reducible apply ev_len))
  | ((with_reducible show EvJ _ (.Call (.Name ("all" : Str) _) _ _ _) _ _ _ _); (with_reducible apply ev_all))
  | ((with_reducible show EvJ _ (.Call (.Name ("any" : Str) _) _ _ _) _ _ _ _); (with_reducible apply ev_any))
  | ((with_reducible show EvJ _ (.Call (.Name ("sum" : Str) _) _ _ _) _ _ _ _); (with_reducible apply ev_sum))
  | ((with_reducible show EvJ _ (.Call (.Name ("max" : Str) _) _ _ _) _ _ _ _); (with_reducible apply ev_max))
  | ((with_reducible show EvJ _ (.Call (.Name ("min" : Str) _) _ _ _) _ _ _ _); (with_reducible apply ev_min))
  | ((with_reducible show EvJ _ (.Call (.Name ("int" : Str) _) _ _ _) _ _ _ _); (with_reducible apply ev_intC))
  | ((with_reducible show EvJ _ (.Call (.Name ("str" : Str) _) _ _ _) _ _ _ _); (with_reducible apply ev_strC))
  | ((with_reducible show EvJ _ (.Call (.Name ("list" : Str) _) _ _ _) _ _ _ _); (with_reducible apply ev_listC))
  | ((with_reducible show EvJ _ (.Call (.Name ("tuple" : Str) _) _ _ _) _ _ _ _); (with_reducible apply ev_tupleC))
  | ((with_reducible show EvJ _ (.Call (.Name ("isinstance" : Str) _) [_, .Name _ _] _ _) _ _ _ _); first | (with_reducible apply ev_isi_str) | (with_reducible apply ev_isi_int) | (with_reducible apply ev_isi_bool) | (with_reducible apply ev_isi_list) | (with_reducible apply ev_isi_tuple) | (with_reducible apply ev_isi_dict))
  | ((with_reducible show EvJ _ (.Call (.Attribute _ ("lower" : Str) _) _ _ _) _ _ _ _); (with_reducible apply ev_lower))
  | ((with_reducible show EvJ _ (.Call (.Attribute _ ("upper" : Str) _) _ _ _) _ _ _ _); (with_reducible apply ev_upper))
  | ((with_reducible show EvJ _ (.Call (.Name _ _) _ _ _) _ _ _ _); (with_reducible apply ev_own)))
local macro_rules | `(tactic| walk_at "e1") => `(tactic| first
  | ((with_reducible show EvJ _ (.Constant (.int _) _ _) _ _ _ _); with_reducible exact ev_int)
  | ((with_reducible show EvJ _ (.Constant (.str _) _ _) _ _ _ _); with_reducible exact ev_str)
  | ((with_reducible show EvJ _ (.Name _ _) _ _ _ _); first | walk_at "nm" | walk_at "gc")
  | ((with_reducible show EvJ _ (.BinOp _ _ _ _) _ _ _ _); (with_reducible apply ev_bin))
  | ((with_reducible show EvJ _ (.Compare _ _ _ _) _ _ _ _); first | (with_reducible apply ev_cmp) | (with_reducible apply ev_chain))
  | ((with_reducible show EvJ _ (.BoolOp _ _ _) _ _ _ _); first | (with_reducible apply ev_bool1) | (with_reducible apply ev_and) | (with_reducible apply ev_or))
  | ((with_reducible show EvJ _ (.UnaryOp _ _ _) _ _ _ _); first | (with_reducible apply ev_not) | (with_reducible apply ev_neg))
  | ((with_reducible show EvJ _ (.Tuple _ _ _) _ _ _ _); (with_reducible apply ev_tupD))
  | ((with_reducible show EvJ _ (.List _ _) _ _ _ _); (with_reducible apply ev_lstD))
  | ((with_reducible show EvJ _ (.Subscript _ _ _) _ _ _ _); first | (with_reducible apply ev_slice) | (with_reducible apply ev_ix))
  | ((with_reducible show EvJ _ (.Call _ _ _ _) _ _ _ _); walk_at "call")
  | with_reducible exact ev_bl | with_reducible exact ev_non | with_reducible exact ev_dict0 | with_reducible assumption)
local macro_rules | `(tactic| walk_at "t1") => `(tactic| first | (with_reducible apply tj_cmp) | (with_reducible apply tj_chain) | (with_reducible apply tj_not) | ((with_reducible show TJ _ (.BoolOp _ _ _) _ _ _ _); (with_reducible apply WJ.tj)) | (with_reducible apply tj_val))
local macro_rules | `(tactic| walk_at "st1") => `(tactic| first
  | ((with_reducible show SJ _ [] _ _ _); exact sj_nil)
  | ((with_reducible apply sj_one); (with_reducible apply st_ret))
  | ((with_reducible apply sj_stop); (with_reducible apply st_ret))
  | ((with_reducible apply sj_cons); ((with_reducible apply st_nmF); exact rfl))
  | ((with_reducible apply sj_cons); ((with_reducible apply st_exprF); exact rfl))
  | (apply sj_one; (with_reducible apply st_ret))
  | (apply sj_cons; ((with_reducible apply st_nmF); exact rfl)))
local macro_rules | `(tactic| walk_at "s") => `(tactic| focus (first
  | ((with_reducible show EvJ _ _ _ _ _ _); walk_at "e1")
  | ((with_reducible show R2J _ _ _ _ _ _ _); walk_at "op")
  | ((with_reducible show AJ _ _ _ _ _ _); first | with_reducible exact aj_nil | (with_reducible apply aj_cons))
  | ((with_reducible show AjD _ _ _ _ _ _); first | with_reducible exact ajd_nil | (with_reducible apply ajd_cons))
  | ((with_reducible show TJ _ _ _ _ _ _); walk_at "t1")
  | ((with_reducible show WJ _ _ _ _ _ _); first | (with_reducible apply wj_and1) | (with_reducible apply wj_or1) | (with_reducible apply wj_and) | (with_reducible apply wj_or))
  | ((with_reducible show SJ _ _ _ _ _); walk_at "st1")
  | ((with_reducible show I2J _ _ _ _ _ _); walk_at "ix")
  | ((with_reducible show S3J _ _ _ _ _ _ _); walk_at "sl")
  | ((with_reducible show OJ _ _ _ _ _); first | with_reducible exact oj_none | (with_reducible apply oj_some))
  | ((with_reducible show C1J _ _ _ _ _ _); walk_at "c1")
  | ((with_reducible show CallJ _ _ _ _ _ _ _ _); walk_at "own")
  | ((with_reducible show gloB _ _ = true); kernel_rfl)
  | ((with_reducible show locB _ _ = true); kernel_rfl)
  | ((with_reducible show _ = none); (with_reducible assumption))
  | ((with_reducible show _ = some _); (with_reducible assumption))
  | ((with_reducible show _ = true → _); intro _)
  | ((with_reducible show _ = false → _); intro _)
  | ((with_reducible show PlainIx _); intro _ _; exact rfl)
  | ((with_reducible show _ ≤ _); walk_at "sz")
  | ((with_reducible show _ < _); walk_at "sz")
  | exact rfl | (intro _ _; exact rfl) | (decide +kernel)))
local macro_rules | `(tactic| walk_at "go") => `(tactic| repeat (walk_at "s"))
local macro_rules | `(tactic| walk_at "ev") => `(tactic| focus (walk_at "go"; done))


--CFG {"M": 3000, "steps": 4, "lev": 6}
abbrev small26 : Str := "abcdefghijklmnopqrstuvwxyz"
abbrev marks25 : Str := "()[]{},;:.+-*/<>=!&^~@#$?"
def amongL (z S : Str) : List Bool := z.cps.toList.map fun k => decide (k ∈ S.cps.toList)
def smallB (z : Str) : Bool := (decide ((1 : Int) ≤ z.length) && decide ((z.length : Int) ≤ 8)) && (amongL z small26).all id
def markB (z : Str) : Bool := (decide ((1 : Int) ≤ z.length) && decide ((z.length : Int) ≤ 2)) && (amongL z marks25).all id
abbrev kept3 : List D := ([("left" : Str), "right", "alone"]).map D.str
abbrev cls2 : List D := ([("WORD" : Str), "FIGURES"]).map D.str
def nameB (z : Str) : Bool := smallB z && !inF (.str z) kept3
def signB (z : Str) : Bool := smallB z || (inF (.str z) cls2 || markB z)
/-- a thing that is no text -/
def oddB (d : D) : Prop := ∃ m, tyD d = some m ∧ kitB m "str" = some false
section
variable {G : Gc} (E : Env G) {μ : List M}
include E
theorem c_are_among (z S : Str) (hz : z.length ≤ 1000000) : CallJ G 1 ("are_among", none) [.str z, .str S] [] μ (.bl ((amongL z S).all id)) μ := by
  refine call_body (d := d_are_among) (k := 0) E.d_are_among sc_are_among bn_are_among rfl (o := .rt _ _) ?_ ⟨rfl, rfl⟩
  walk_at "in_are_among"
  refine sj_one (st_ret ?_)
  refine ev_all (aj_cons (ev_comp (own := [("sign", 2)]) (it_str ?_) (by kernel_rfl) (tg_nm (by assumption) (by kernel_rfl)) (cmp_ch (fun k => D.bl (decide (k ∈ S.cps.toList))) (by decide) ?_) (by rw [len_ch]; exact hz)) aj_nil) (c_all (bs := amongL z S) (by simp [amongL])) (by kernel_rfl) (by assumption)
  · walk_at "go"
  · intro k hk
    walk_at "go"
local macro_rules | `(tactic| walk_at "own") => `(tactic| with_reducible exact c_are_among (by assumption) _ _ (by omega))
theorem c_is_small (z : Str) (hz : z.length ≤ 1000000) : CallJ G 2 ("is_small", none) [.str z] [] μ (.bl (smallB z)) μ := by
  refine call_body (d := d_is_small) (k := 1) E.d_is_small sc_is_small bn_is_small rfl (o := .rt _ _) ?_ ⟨rfl, rfl⟩
  walk_at "in_is_small"
  refine (?_ : SJ _ _ _ _ (.rt (.bl (true && ((decide ((1 : Int) ≤ z.length) && decide ((z.length : Int) ≤ 8)) && (amongL z small26).all id))) μ))
  walk_at "go"
theorem c_is_small_odd (d : D) (hd' : oddB d) : CallJ G 2 ("is_small", none) [.dat d] [] μ (.bl false) μ := by
  obtain ⟨m, h1, h2⟩ := hd'
  refine call_body (d := d_is_small) (k := 1) E.d_is_small sc_is_small bn_is_small rfl (o := .rt _ _) ?_ ⟨rfl, rfl⟩
  walk_at "in_is_small"
  refine sj_one (st_ret (ev_and_f ?_))
  refine ev_isiB (m := m) (n := "str") ?_ h1 (by decide +kernel) h2 (by kernel_rfl) (by assumption) (by kernel_rfl) (by assumption)
  walk_at "go"
local macro_rules | `(tactic| walk_at "own") => `(tactic| with_reducible exact c_is_small (by assumption) _ (by omega))
theorem c_is_name (z : Str) (hz : z.length ≤ 1000000) : CallJ G 3 ("is_name", none) [.str z] [] μ (.bl (nameB z)) μ := by
  refine call_body (d := d_is_name) (k := 2) E.d_is_name sc_is_name bn_is_name rfl (o := .rt _ _) ?_ ⟨rfl, rfl⟩
  walk_at "in_is_name"
  refine (?_ : SJ _ _ _ _ (.rt (.bl (smallB z && !inF (.str z) kept3)) μ))
  walk_at "go"
theorem c_is_name_odd (d : D) (hd' : oddB d) : CallJ G 3 ("is_name", none) [.dat d] [] μ (.bl false) μ := by
  refine call_body (d := d_is_name) (k := 2) E.d_is_name sc_is_name bn_is_name rfl (o := .rt _ _) ?_ ⟨rfl, rfl⟩
  walk_at "in_is_name"
  refine sj_one (st_ret (ev_and_f ?_))
  refine ev_own (aj_cons (t := .dat d) ?_ aj_nil) (c_is_small_odd E d hd') rfl (by kernel_rfl) (by assumption)
  walk_at "go"
theorem c_is_sign (z : Str) (hz : z.length ≤ 1000000) : CallJ G 3 ("is_sign", none) [.str z] [] μ (.bl (signB z)) μ := by
  refine call_body (d := d_is_sign) (k := 2) E.d_is_sign sc_is_sign bn_is_sign rfl (o := .rt _ _) ?_ ⟨rfl, rfl⟩
  walk_at "in_is_sign"
  cases h : smallB z with
  | true =>
    refine (?_ : SJ _ _ _ _ (.rt (.bl (signB z)) μ))
    rw [show signB z = true by unfold signB; rw [h]; rfl]
    refine sj_stop (st_if_t (TJ.eq (r := smallB z) (μ1 := μ) ?_ h) ?_)
    · walk_at "go"
    · walk_at "go"
  | false =>
    refine (?_ : SJ _ _ _ _ (.rt (.bl (signB z)) μ))
    rw [show signB z = (inF (.str z) cls2 || ((decide ((1 : Int) ≤ z.length) && decide ((z.length : Int) ≤ 2)) && (amongL z marks25).all id)) by unfold signB; rw [h]; rfl]
    refine sj_cons (st_if_f (TJ.eq (r := smallB z) (μ1 := μ) ?_ h) sj_nil) ?_
    · walk_at "go"
    refine sj_cons (st_if_f (TJ.eq (r := !true) (μ1 := μ) ?_ rfl) sj_nil) ?_
    · walk_at "go"
    walk_at "go"
end
abbrev lets : Str := "abcdefghijklmnopqrstuvwxyz"
abbrev mks : Str := "()[]{},;:.+-*/<>=!&^~@#$?"
def sgs : Str := (((lets ++ mks) ++ " '_|\\`") ++ Txt.upper lets) ++ "0123456789" ++ "\""
theorem sgs_len : sgs.length = 94 := by decide +kernel
section
variable {G : Gc} (E : Env G) {μ : List M}
include E
theorem c_law_of (ns : List Int) (hns : ns.length ≤ 63) (k : Int) (hk0 : 0 ≤ k) (hk : k ≤ 1000) : ∃ v : Int, 0 ≤ v ∧ CallJ G 1 ("_law_of", none) [.dat (.lst (ns.map D.int)), .int k] [] μ (.int v) μ := by
  obtain ⟨v, hv⟩ := at_slice ns (some k) (some (k + 1))
  have hl := cut_len (ns.map D.int) (some k) (some (k + 1))
  rw [List.length_map] at hl
  refine ⟨v % (10 : Int) ^ (60 : Int).toNat, Int.emod_nonneg _ (by decide), ?_⟩
  refine call_body (d := d_law_of) (k := 0) E.d_law_of sc_law_of bn_law_of rfl (o := .rt _ _) ?_ ⟨rfl, rfl⟩
  walk_at "in_law_of"
  refine (?_ : SJ _ _ _ _ (.rt (.int (v % (10 : Int) ^ (60 : Int).toNat)) μ))
  walk_at "go"
theorem c_law_mixed (ns : List Int) (hns : ns.length ≤ 63) (k : Int) (hk0 : 0 ≤ k) (hk : k ≤ 1000) : ∃ v : Int, 0 ≤ v ∧ CallJ G 1 ("_law_mixed", none) [.dat (.lst (ns.map D.int)), .int k] [] μ (.int v) μ := by
  have hp : ∃ d ∈ ns.map D.int ++ [D.int 0], atI (ns.map D.int ++ [D.int 0]) (k % (if ((ns.map D.int).length : Int) > 1 then ((ns.map D.int).length : Int) else 1)) = some d := by
    refine pick (Int.emod_nonneg _ (by split <;> omega)) ?_
    have : (k % (if ((ns.map D.int).length : Int) > 1 then ((ns.map D.int).length : Int) else 1)) < (if ((ns.map D.int).length : Int) > 1 then ((ns.map D.int).length : Int) else 1) := Int.emod_lt_of_pos _ (by split <;> omega)
    simp only [List.length_append, List.length_map, List.length_singleton] at this ⊢
    refine Int.lt_of_lt_of_le this ?_
    split <;> omega
  obtain ⟨d, hm, hd'⟩ := hp
  obtain ⟨x, rfl⟩ : ∃ x, d = D.int x := by
    rcases List.mem_append.mp hm with h | h
    · obtain ⟨z, _, e⟩ := List.mem_map.mp h; exact ⟨z, e.symm⟩
    · exact ⟨0, by simpa using h⟩
  have hpos : 0 < (if ((ns.map D.int).length : Int) > 1 then ((ns.map D.int).length : Int) else 1) := by split <;> omega
  refine ⟨((x + 1 + 1009 * k * k) * (48271 + 2 * k)) % 2147483647, Int.emod_nonneg _ (by decide), ?_⟩
  refine call_body (d := d_law_mixed) (k := 0) E.d_law_mixed sc_law_mixed bn_law_mixed rfl (o := .rt _ _) ?_ ⟨rfl, rfl⟩
  walk_at "in_law_mixed"
  refine (?_ : SJ _ _ _ _ (.rt (.int (((x + 1 + 1009 * k * k) * (48271 + 2 * k)) % 2147483647)) μ))
  walk_at "go"
theorem c_law_drawn (ns : List Int) (hns : ns.length ≤ 63) : ∃ z : Str, z.length ≤ 40 ∧ CallJ G 2 ("_law_drawn", none) [.dat (.lst (ns.map D.int))] [] μ (.str z) μ := by
  have key : ∃ z : Str, z.length ≤ 40 ∧ SJ (bodyC G N_law_drawn d_law_drawn 1) d_law_drawn.body (g0 N_law_drawn ([.dat (.lst (ns.map D.int))] ++ dats [])) μ (.rt (.str z) μ) := by
    walk_at "in_law_drawn"
    obtain ⟨c, hc0, hc⟩ := c_law_of E (μ := μ) ns hns 0 (by omega) (by omega)
    refine ex_set (.int c) ?_ (by assumption) (by kernel_rfl) ?_
    · walk_at "go"
    refine ex_set (.str lets) ?_ (by assumption) (by kernel_rfl) ?_
    · walk_at "go"
    refine ex_set (.str mks) ?_ (by assumption) (by kernel_rfl) ?_
    · walk_at "go"
    refine ex_set (.str sgs) ?_ (by assumption) (by kernel_rfl) ?_
    · walk_at "go"
    by_cases h7 : c % 7 = 1
    · refine ex_stop (ex_if_t (TJ.eq (r := eqS (.int (c % 7)) (.int 1)) (μ1 := μ) ?_ (by simp [eqS, h7])) ?_)
      · walk_at "go"
      obtain ⟨w, hwm, hwl, hw⟩ := pickS (zs := ["left", "right", "alone", "WORD", "FIGURES"]) (i := c / 7 % 5) 7 (by decide) (by omega) (by simp; omega)
      have hw' : atI [D.str "left", D.str "right", D.str "alone", D.str "WORD", D.str "FIGURES"] (c / 7 % 5) = some (.str w) := hw
      clear hw
      refine ex_set (.str w) ?_ (by assumption) (by kernel_rfl) ?_
      · walk_at "go"
      obtain ⟨q, hq⟩ := pickC (z := lets) (i := c / 35 % 26) (by omega) (by show _ < (26 : Int); omega)
      have hlets : lets.length ≤ sizeLine := by decide
      have hq1 : (⟨#[q]⟩ : Str).length = 1 := rfl
      refine ex_set (.dat (.lst [.str w, .str (w ++ ⟨#[q]⟩), .str (cutS w (some 1) none), .str (cutS w none (some (-1))), .str (Txt.lower w)])) ?_ (by assumption) (by kernel_rfl) ?_
      · walk_at "go"
      have hn : ∀ d ∈ [D.str w, .str (w ++ ⟨#[q]⟩), .str (cutS w (some 1) none), .str (cutS w none (some (-1))), .str (Txt.lower w)], ∃ z : Str, z.length ≤ 40 ∧ d = .str z := by
        have e1 := cutS_len w (some 1) none
        have e2 := cutS_len w none (some (-1))
        have e3 : (w ++ (⟨#[q]⟩ : Str)).length = w.length + 1 := slen_append _ _
        have e4 : (Txt.lower w).length ≤ 7 := by
          simp only [List.mem_cons, List.not_mem_nil, or_false] at hwm
          rcases hwm with rfl | rfl | rfl | rfl | rfl <;> decide +kernel
        intro d hd
        simp only [List.mem_cons, List.not_mem_nil, or_false] at hd
        rcases hd with rfl | rfl | rfl | rfl | rfl <;> exact ⟨_, by omega, rfl⟩
      obtain ⟨d, hdm, hd'⟩ := pick (i := c / 910 % 5) (xs := [D.str w, .str (w ++ ⟨#[q]⟩), .str (cutS w (some 1) none), .str (cutS w none (some (-1))), .str (Txt.lower w)]) (by omega) (by simp; omega)
      obtain ⟨z, hz, rfl⟩ := hn d hdm
      refine ex_sj (z := z) (sj_one (st_ret ?_)) hz
      walk_at "go"
    · refine ex_cons (st_if_f (TJ.eq (r := eqS (.int (c % 7)) (.int 1)) (μ1 := μ) ?_ (by simp [eqS, h7])) sj_nil) ?_
      · walk_at "go"
      obtain ⟨n, hn0, hn, hnm⟩ : ∃ n : Int, 0 ≤ n ∧ n ≤ 11 ∧ atI [D.int (c / 7 % 9), D.int (c / 7 % 3), D.int (1 + c / 7 % 11)] (c % 3) = some (.int n) := by
        obtain ⟨d, hdm, hd'⟩ := pick (i := c % 3) (xs := [D.int (c / 7 % 9), D.int (c / 7 % 3), D.int (1 + c / 7 % 11)]) (by omega) (by simp; omega)
        simp only [List.mem_cons, List.not_mem_nil, or_false] at hdm
        rcases hdm with rfl | rfl | rfl <;> exact ⟨_, by omega, by omega, hd'⟩
      refine ex_set (.int n) ?_ (by assumption) (by kernel_rfl) ?_
      · walk_at "go"
      obtain ⟨e, he0, he⟩ := c_law_of E (μ := μ) ns hns 1 (by omega) (by omega)
      obtain ⟨y, hy1, hy2, hy⟩ : ∃ y : Str, 1 ≤ y.length ∧ y.length ≤ 94 ∧ atI [D.str lets, D.str mks, D.str sgs] (e % 3) = some (.str y) := by
        obtain ⟨d, hdm, hd'⟩ := pick (i := e % 3) (xs := [D.str lets, D.str mks, D.str sgs]) (by omega) (by simp; omega)
        simp only [List.mem_cons, List.not_mem_nil, or_false] at hdm
        have h94 : sgs.length = 94 := sgs_len
        rcases hdm with h | h | h
        · exact ⟨lets, by decide, by decide, h ▸ hd'⟩
        · exact ⟨mks, by decide, by decide, h ▸ hd'⟩
        · exact ⟨sgs, by omega, by omega, h ▸ hd'⟩
      refine ex_set (.str y) ?_ (by assumption) (by kernel_rfl) ?_
      · walk_at "go"
      refine ex_setE (pt := fun t => t.length = n.toNat) ?_ (by assumption) (by kernel_rfl) ?_
      · refine ex_join (sep := "") ?_ (by decide) (ex_comp_rg (own := [("_law_j", 10)]) (lo := 0) _ (it_range1 (n := n) ?_ (by omega) (by kernel_rfl) (by assumption) (by omega)) (by kernel_rfl) (tg_nm (by assumption) (by kernel_rfl)) (by decide) (by omega) ?_) (by omega)
        · walk_at "go"
        · walk_at "go"
        intro j hj
        obtain ⟨x, hx0, hx⟩ := c_law_mixed E (μ := μ) ns hns (4 + (0 + (j : Int))) (by omega) (by omega)
        obtain ⟨q, hq⟩ := pickC (z := y) (i := x % (y.length : Int)) (Int.emod_nonneg _ (by omega)) (Int.emod_lt_of_pos _ (by omega))
        refine ⟨_, ⟨q, rfl⟩, ?_⟩
        walk_at "go"
      intro t ht
      obtain ⟨m, hm0, hm⟩ := c_law_mixed E (μ := μ) ns hns 2 (by omega) (by omega)
      refine ex_set (.int m) ?_ (by assumption) (by kernel_rfl) ?_
      · walk_at "go"
      cases hb : (eqS (.int (m % 3)) (.int 1) && !eqS (.str t) (.str "")) with
      | false =>
        refine ex_cons (st_if_f (TJ.eq (r := (eqS (.int (m % 3)) (.int 1) && !eqS (.str t) (.str ""))) (μ1 := μ) ?_ hb) sj_nil) ?_
        · walk_at "go"
        refine ex_sj (z := t) (sj_one (st_ret ?_)) (by omega)
        walk_at "go"
      | true =>
        have ht0 : 0 < t.length := by
          rcases Nat.eq_zero_or_pos t.length with h | h
          · have : t = "" := str_zero h
            subst this
            simp [eqS] at hb
          · exact h
        have h94 : sgs.length = 94 := sgs_len
        obtain ⟨q, hq⟩ := pickC (z := sgs) (i := m / 36 % (sgs.length : Int)) (Int.emod_nonneg _ (by omega)) (Int.emod_lt_of_pos _ (by omega))
        have hq1 : (⟨#[q]⟩ : Str).length = 1 := rfl
        have hk0 : 0 ≤ m / 3 % (t.length : Int) := Int.emod_nonneg _ (by omega)
        have hk1 : m / 3 % (t.length : Int) < t.length := Int.emod_lt_of_pos _ (by omega)
        have l1 := cutS_len t none (some (m / 3 % (t.length : Int)))
        have l2 := cutS_len t (some (m / 3 % (t.length : Int) + 1)) none
        have l3 := slen_append (cutS t none (some (m / 3 % (t.length : Int)))) ⟨#[q]⟩
        have l4 := slen_append (cutS t none (some (m / 3 % (t.length : Int))) ++ ⟨#[q]⟩) (cutS t (some (m / 3 % (t.length : Int) + 1)) none)
        refine ex_cons (st_if_t (TJ.eq (r := (eqS (.int (m % 3)) (.int 1) && !eqS (.str t) (.str ""))) (μ1 := μ) ?_ hb) (sj_set (.int (m / 3 % (t.length : Int))) ?_ (by assumption) (by kernel_rfl) (sj_set (.str ⟨#[q]⟩) ?_ (by assumption) (by kernel_rfl) (sj_set (.str (cutS t none (some (m / 3 % (t.length : Int))) ++ ⟨#[q]⟩ ++ cutS t (some (m / 3 % (t.length : Int) + 1)) none)) ?_ (by assumption) (by kernel_rfl) sj_nil)))) ?_
        · walk_at "go"
        · walk_at "go"
        · walk_at "go"
        · walk_at "go"
        refine ex_sj (z := cutS t none (some (m / 3 % (t.length : Int))) ++ ⟨#[q]⟩ ++ cutS t (some (m / 3 % (t.length : Int) + 1)) none) (sj_one (st_ret ?_)) (by rw [l4, l3]; omega)
        walk_at "go"
  obtain ⟨z, hz, hs⟩ := key
  exact ⟨z, hz, call_body (d := d_law_drawn) (k := 1) E.d_law_drawn sc_law_drawn bn_law_drawn rfl (o := .rt _ _) hs ⟨rfl, rfl⟩⟩
theorem c_law_is_of (z S : Str) : CallJ G 1 ("_law_is_of", none) [.str z, .str S] [] μ (.bl ((amongL z S).all id)) μ := by
  refine call_body (d := d_law_is_of) (k := 0) E.d_law_is_of sc_law_is_of bn_law_is_of rfl (o := .rt _ _) ?_ ⟨rfl, rfl⟩
  walk_at "in_law_is_of"
  refine (?_ : SJ _ _ _ _ (.rt (.bl ((amongL z S).all id)) μ))
  have hq : (chD z).all (fun t => match t with | .dat (.str ⟨#[k]⟩) => decide (k ∈ S.cps.toList) | _ => false) = (amongL z S).all id := by
    unfold chD amongL
    rw [List.all_map, List.all_map]
    rfl
  refine sj_forI (its := chD z) (r := .bl false) (fun Γ => ∃ u, Γ = [some (.str z), some (.str S), u]) (fun t => match t with | .dat (.str ⟨#[k]⟩) => decide (k ∈ S.cps.toList) | _ => false) ⟨none, rfl⟩ (it_str ?_) (tg_nm (by assumption) (by kernel_rfl)) ?_ ?_ ?_ ?_
  · walk_at "go"
  · rintro t ht h Γ ⟨u, rfl⟩
    obtain ⟨k, hk, rfl⟩ := List.mem_map.mp ht
    refine ⟨_, ⟨_, rfl⟩, sj_cons (st_if_f (TJ.eq (r := !decide (k ∈ S.cps.toList)) (μ1 := μ) ?_ (by rw [show decide (k ∈ S.cps.toList) = true from h]; rfl)) sj_nil) sj_nil⟩
    walk_at "go"
  · rintro t ht h Γ ⟨u, rfl⟩
    obtain ⟨k, hk, rfl⟩ := List.mem_map.mp ht
    refine sj_stop (st_if_t (TJ.eq (r := !decide (k ∈ S.cps.toList)) (μ1 := μ) ?_ (by rw [show decide (k ∈ S.cps.toList) = false from h]; rfl)) ?_)
    · walk_at "go"
    · walk_at "go"
  · rintro h Γ ⟨u, rfl⟩
    rw [hq] at h
    rw [h]
    walk_at "go"
  · intro h
    rw [hq] at h
    rw [h]
local macro_rules | `(tactic| walk_at "own") => `(tactic| with_reducible exact c_law_is_of (by assumption) _ _)
theorem c_law_dues (z : Str) (hz : z.length ≤ 1000000) : CallJ G 2 ("_law_dues", none) [.str z] [] μ (.dat (.lst [.bl (nameB z), .bl (signB z)])) μ := by
  refine call_body (d := d_law_dues) (k := 1) E.d_law_dues sc_law_dues bn_law_dues rfl (o := .rt _ _) ?_ ⟨rfl, rfl⟩
  walk_at "in_law_dues"
  refine (?_ : SJ _ _ _ _ (.rt (.dat (.lst [.bl (nameB z), .bl (signB z)])) μ))
  rw [show signB z = (smallB z || (markB z || inF (.str z) cls2)) by unfold signB; rw [Bool.or_comm (markB z)]]
  refine sj_set (.bl (smallB z)) ?_ (by assumption) (by kernel_rfl) ?_
  · refine (?_ : EvJ _ _ _ _ (.bl ((decide ((1 : Int) ≤ z.length) && decide ((z.length : Int) ≤ 8)) && (amongL z small26).all id)) _)
    walk_at "go"
  refine sj_set (.bl (markB z)) ?_ (by assumption) (by kernel_rfl) ?_
  · refine (?_ : EvJ _ _ _ _ (.bl ((decide ((1 : Int) ≤ z.length) && decide ((z.length : Int) ≤ 2)) && (amongL z marks25).all id)) _)
    walk_at "go"
  refine sj_set (.bl (nameB z)) ?_ (by assumption) (by kernel_rfl) ?_
  · refine (?_ : EvJ _ _ _ _ (.bl (smallB z && !inF (.str z) kept3)) _)
    walk_at "go"
  walk_at "go"
theorem c_law_told (d : D) (o : Int) (ho : 0 ≤ o) (a b : Bool) (hN : ∀ μ, CallJ G 3 ("is_name", none) [.dat d] [] μ (.bl a) μ) (hS : ∀ μ, CallJ G 3 ("is_sign", none) [.dat d] [] μ (.bl b) μ) :
    CallJ G 4 ("_law_told", none) [.dat d, .int o] [] μ (.dat (.lst [.bl a, .bl b])) μ := by
  refine CallJ.drop (μ2 := [.frz (.lst [.bl a, .bl b])]) ?_ trivial id (Nat.le_refl _)
  refine call_body (d := d_law_told) (k := 3) E.d_law_told sc_law_told bn_law_told rfl (o := .rt _ _) ?_ ⟨rfl, rfl⟩
  walk_at "in_law_told"
  have hget : ∀ m : M, (μ ++ [m])[μ.length]? = some m := fun m => by simp
  have hset : ∀ m m' : M, (μ ++ [m]).set μ.length m' = μ ++ [m'] := fun m m' => by simp
  refine sj_cons (st_nm (t := .own μ.length) (μ1 := μ ++ [.lst [.dat .non, .dat .non]]) (ev_lstO (ts := [.dat .non, .dat .non]) (aj_cons ev_non (aj_cons ev_non aj_nil))) (by assumption) (by kernel_rfl)) ?_
  have fin : ∀ u p1 p2, SJ (bodyC G N_law_told d_law_told 3) [Stmt.Return (some (.Name "_law_found" p1)) p2] [some (.dat d), some (.int o), some (.own μ.length), u] (μ ++ [.lst [.dat (.bl a), .dat (.bl b)]]) (.rt (.dat (.lst [.bl a, .bl b])) (μ ++ [.frz (.lst [.bl a, .bl b])])) := fun u p1 p2 => by
    have h : EvJ (bodyC G N_law_told d_law_told 3) (.Name "_law_found" p1) [some (.dat d), some (.int o), some (.own μ.length), u] (μ ++ [.lst [.dat (.bl a), .dat (.bl b)]]) (.own μ.length) (μ ++ [.lst [.dat (.bl a), .dat (.bl b)]]) := by walk_at "go"
    have h' := h.frz (ds := [.bl a, .bl b]) (hget _)
    rw [hset] at h'
    exact sj_one (st_ret h')
  rcases (by omega : o % 2 = 0 ∨ o % 2 = 1) with h | h
  · have hat : atI [D.lst [.int 0, .int 1], D.lst [.int 1, .int 0]] (o % 2) = some (.lst [.int 0, .int 1]) := by rw [h]; with_unfolding_all rfl
    refine sj_cons (st_for (o := .nx [some (.dat d), some (.int o), some (.own μ.length), some (.int 1)] (μ ++ [.lst [.dat (.bl a), .dat (.bl b)]])) (it_lst (ds := [.int 0, .int 1]) (μ1 := μ ++ [.lst [.dat .non, .dat .non]]) ?_) (tg_nm (by assumption) (by kernel_rfl)) (loop_cons (Γ2 := [some (.dat d), some (.int o), some (.own μ.length), some (.int 0)]) (μ2 := μ ++ [.lst [.dat (.bl a), .dat .non]]) ?_ (loop_cons (Γ2 := [some (.dat d), some (.int o), some (.own μ.length), some (.int 1)]) (μ2 := μ ++ [.lst [.dat (.bl a), .dat (.bl b)]]) ?_ loop_nil))) (fin _ _ _)
    · walk_at "go"
    · have hh := hN (μ ++ [.lst [.dat .non, .dat .non]])
      refine sj_cons (st_setIxE (i := μ.length) (k := 0) (kI := 0) (t := .bl a) (μ1 := μ ++ [.lst [.dat .non, .dat .non]]) (ts := [.dat .non, .dat .non]) (ev_if_t (TJ.eq (r := eqS (.int 0) (.int 0)) (μ1 := μ ++ [.lst [.dat .non, .dat .non]]) ?_ rfl) ?_) ?_ ?_ (hget _) rfl (hset _ _)) sj_nil
      · walk_at "go"
      · walk_at "go"
      · walk_at "go"
      · walk_at "go"
    · have hh := hS (μ ++ [.lst [.dat (.bl a), .dat .non]])
      refine sj_cons (st_setIxE (i := μ.length) (k := 1) (kI := 1) (t := .bl b) (μ1 := μ ++ [.lst [.dat (.bl a), .dat .non]]) (ts := [.dat (.bl a), .dat .non]) (ev_if_f (TJ.eq (r := eqS (.int 1) (.int 0)) (μ1 := μ ++ [.lst [.dat (.bl a), .dat .non]]) ?_ rfl) ?_) ?_ ?_ (hget _) rfl (hset _ _)) sj_nil
      · walk_at "go"
      · walk_at "go"
      · walk_at "go"
      · walk_at "go"
  · have hat : atI [D.lst [.int 0, .int 1], D.lst [.int 1, .int 0]] (o % 2) = some (.lst [.int 1, .int 0]) := by rw [h]; with_unfolding_all rfl
    refine sj_cons (st_for (o := .nx [some (.dat d), some (.int o), some (.own μ.length), some (.int 0)] (μ ++ [.lst [.dat (.bl a), .dat (.bl b)]])) (it_lst (ds := [.int 1, .int 0]) (μ1 := μ ++ [.lst [.dat .non, .dat .non]]) ?_) (tg_nm (by assumption) (by kernel_rfl)) (loop_cons (Γ2 := [some (.dat d), some (.int o), some (.own μ.length), some (.int 1)]) (μ2 := μ ++ [.lst [.dat .non, .dat (.bl b)]]) ?_ (loop_cons (Γ2 := [some (.dat d), some (.int o), some (.own μ.length), some (.int 0)]) (μ2 := μ ++ [.lst [.dat (.bl a), .dat (.bl b)]]) ?_ loop_nil))) (fin _ _ _)
    · walk_at "go"
    · have hh := hS (μ ++ [.lst [.dat .non, .dat .non]])
      refine sj_cons (st_setIxE (i := μ.length) (k := 1) (kI := 1) (t := .bl b) (μ1 := μ ++ [.lst [.dat .non, .dat .non]]) (ts := [.dat .non, .dat .non]) (ev_if_f (TJ.eq (r := eqS (.int 1) (.int 0)) (μ1 := μ ++ [.lst [.dat .non, .dat .non]]) ?_ rfl) ?_) ?_ ?_ (hget _) rfl (hset _ _)) sj_nil
      · walk_at "go"
      · walk_at "go"
      · walk_at "go"
      · walk_at "go"
    · have hh := hN (μ ++ [.lst [.dat .non, .dat (.bl b)]])
      refine sj_cons (st_setIxE (i := μ.length) (k := 0) (kI := 0) (t := .bl a) (μ1 := μ ++ [.lst [.dat .non, .dat (.bl b)]]) (ts := [.dat .non, .dat (.bl b)]) (ev_if_t (TJ.eq (r := eqS (.int 0) (.int 0)) (μ1 := μ ++ [.lst [.dat .non, .dat (.bl b)]]) ?_ rfl) ?_) ?_ ?_ (hget _) rfl (hset _ _)) sj_nil
      · walk_at "go"
      · walk_at "go"
      · walk_at "go"
      · walk_at "go"
theorem c_law_told_text (z : Str) (hz : z.length ≤ 1000000) (o : Int) (ho : 0 ≤ o) : CallJ G 4 ("_law_told", none) [.str z, .int o] [] μ (.dat (.lst [.bl (nameB z), .bl (signB z)])) μ :=
  c_law_told E (.str z) o ho _ _ (fun μ => c_is_name E z hz) (fun μ => c_is_sign E z hz)
theorem c_is_sign_odd (d : D) (hd' : oddB d) : CallJ G 3 ("is_sign", none) [.dat d] [] μ (.bl false) μ := by
  refine call_body (d := d_is_sign) (k := 2) E.d_is_sign sc_is_sign bn_is_sign rfl (o := .rt _ _) ?_ ⟨rfl, rfl⟩
  walk_at "in_is_sign"
  have hs := c_is_small_odd (μ := μ) E d hd'
  obtain ⟨m, h1, h2⟩ := hd'
  refine sj_cons (st_if_f (TJ.eq (r := false) (μ1 := μ) ?_ rfl) sj_nil) ?_
  · walk_at "go"
  refine sj_stop (st_if_t (TJ.eq (r := !false) (μ1 := μ) (tj_not (tj_val (ev_isiB (m := m) (n := "str") ?_ h1 (by decide +kernel) h2 (by kernel_rfl) (by assumption) (by kernel_rfl) (by assumption)))) rfl) ?_)
  · walk_at "go"
  · walk_at "go"
theorem c_law_told_odd (d : D) (hd' : oddB d) (o : Int) (ho : 0 ≤ o) : CallJ G 4 ("_law_told", none) [.dat d, .int o] [] μ (.dat (.lst [.bl false, .bl false])) μ :=
  c_law_told E d o ho _ _ (fun μ => c_is_name_odd E d hd') (fun μ => c_is_sign_odd E d hd')
local macro_rules | `(tactic| walk_at "own") => `(tactic| with_reducible exact c_law_told_text (by assumption) _ (by omega) _ (by omega))
theorem b_law (ns : List Int) (hns : ns.length ≤ 63) : SJ (bodyC G N_law d_law 5) d_law.body (g0 N_law [.dat (.lst (ns.map D.int))]) [] (.rt (.bl true) []) := by
  walk_at "in_law"
  obtain ⟨z, hzl, hz⟩ := c_law_drawn E (μ := []) ns hns
  obtain ⟨c, hc0, hc⟩ := c_law_of E (μ := []) ns hns 1 (by omega) (by omega)
  have hd2 := c_law_dues E (μ := []) z (by omega)
  refine sj_set (.str z) ?_ (by assumption) (by kernel_rfl) ?_
  · walk_at "go"
  refine sj_set (.int (c / 3)) ?_ (by assumption) (by kernel_rfl) ?_
  · walk_at "go"
  refine sj_set (.dat (.lst [.bl (nameB z), .bl (signB z)])) ?_ (by assumption) (by kernel_rfl) ?_
  · walk_at "go"
  have heq : ∀ a b : Bool, PyData.eqv (D.lst [.bl a, .bl b]).p (D.lst [.bl a, .bl b]).p = true := by decide
  refine sj_forI (its := rgD 0 2) (r := .bl false) (fun Γ => ∃ u v, Γ = [some (.dat (.lst (ns.map D.int))), some (.str z), some (.int (c / 3)), some (.dat (.lst [.bl (nameB z), .bl (signB z)])), u, v, none, none]) (fun _ => true) ⟨none, none, rfl⟩ (it_range1 (n := 2) ev_int (by omega) (by kernel_rfl) (by assumption) (by omega)) (tg_nm (by assumption) (by kernel_rfl)) ?_ (fun _ _ h => by cases h) ?_ (fun h => by simp at h)
  · rintro t ht _ Γ ⟨u, v, rfl⟩
    obtain ⟨k, hk, rfl⟩ := List.mem_map.mp ht
    refine ⟨_, ⟨_, _, rfl⟩, sj_set (.dat (.lst [.bl (nameB z), .bl (signB z)])) ?_ (by assumption) (by kernel_rfl) (sj_cons (st_if_f (TJ.eq (r := !([true, true].all id) || !PyData.eqv (D.lst [.bl (nameB z), .bl (signB z)]).p (D.lst [.bl (nameB z), .bl (signB z)]).p) (μ1 := []) (WJ.tj (wj_or (tj_not (tj_val (ev_all (aj_cons (ev_comp (own := [("_law_one", 6)]) (it_lst (ds := [.bl (nameB z), .bl (signB z)]) ?_) (by kernel_rfl) (tg_nm (by assumption) (by kernel_rfl)) (cmp_map (fun _ => .bl true) (by decide) ?_) (by rw [len_dats]; exact Nat.le_of_ble_eq_true rfl)) aj_nil) (c_all (bs := [true, true]) rfl) (by kernel_rfl) (by assumption)))) fun _ => wj_or1 (tj_cmp (μ1 := []) (μ2 := []) ?_ ?_ (o_neD rfl rfl)))) (by rw [heq]; rfl)) sj_nil) sj_nil)⟩
    · walk_at "go"
    · walk_at "go"
    · intro x hx
      obtain ⟨y, rfl⟩ : ∃ y, x = .bl y := by
        simp only [List.mem_cons, List.not_mem_nil, or_false] at hx
        rcases hx with rfl | rfl <;> exact ⟨_, rfl⟩
      walk_at "go"
    · walk_at "go"
    · walk_at "go"
  rintro _ Γ ⟨u, v, rfl⟩
  refine sj_forI (its := dats [.non, .bl true, .int 0, .int 7, .lst [.str z], .tup [.str z], .dic [], .lst [.str "a"], .tup [.str "+"]]) (r := .bl false) (fun Γ => ∃ w, Γ = [some (.dat (.lst (ns.map D.int))), some (.str z), some (.int (c / 3)), some (.dat (.lst [.bl (nameB z), .bl (signB z)])), u, v, none, w]) (fun _ => true) ⟨none, rfl⟩ (it_lst ?_) (tg_nm (by assumption) (by kernel_rfl)) ?_ (fun _ _ h => by cases h) ?_ (fun h => by simp at h)
  · walk_at "go"
  · rintro t ht _ Γ ⟨w, rfl⟩
    obtain ⟨d, hd', rfl⟩ := List.mem_map.mp ht
    have hodd : oddB d := by
      simp only [List.mem_cons, List.not_mem_nil, or_false] at hd'
      rcases hd' with rfl | rfl | rfl | rfl | rfl | rfl | rfl | rfl | rfl <;> exact ⟨_, rfl, by decide +kernel⟩
    have ht := c_law_told_odd E (μ := []) d hodd (c / 3) (by omega)
    refine ⟨_, ⟨_, rfl⟩, sj_cons (st_if_f (TJ.eq (r := !PyData.eqv (D.lst [.bl false, .bl false]).p (D.lst [.bl false, .bl false]).p) (μ1 := []) (tj_cmp (μ1 := []) (μ2 := []) ?_ ?_ (o_neD rfl rfl)) rfl) sj_nil) sj_nil⟩
    · walk_at "go"
    · walk_at "go"
  rintro _ Γ ⟨w, rfl⟩
  refine sj_one (st_ret ((ev_cmp (μ1 := []) (μ2 := []) (t1 := .dat (.lst [.bl (nameB z), .bl (signB z)])) (t2 := .dat (.lst [.bl (nameB z), .bl (signB z)])) ?_ ?_ (o_eqD rfl rfl)).eqB (heq _ _)))
  · walk_at "go"
  · walk_at "go"
end
theorem the_end {P : Program} {w : World} {mg : Str → Option Value} {K : PySem.W.Frag} (c : SaysB ex fn K) :
    ∃ (fd : FuncData) (sp : Sp), (∀ (s : Shared) (u : Value), BindsTo s fd ⟨[u], []⟩ [("_law_script", u)]) ∧
      (∀ (H : Hp) (a : Addr) (ns : List Int), ns.length ≤ 63 → Only H → SqL K H a (ns.map V.int) → sp [.ref a] H (fun v _ => v = .bl true) fun _ _ _ => False) ∧
      ∀ base : Heap, K.In base → base.Ns mainGlobals mg → FnOk P w K mg base L2.CX0 (5 + 1) (He.fAd K d_law.at_) fd ["_law_script"] sp :=
  law_end (G0 := fun b => ⟨P, w, K, mg, b⟩) (N := N_law) (fun _ => rfl) rfl rfl (c.def_ 11 rfl) sc_law (fun _ _ _ _ _ _ us hl => match us, hl with | [_], _ => rfl) fun base kin hn ns hns => ⟨_, b_law (env_of (G := ⟨P, w, K, mg, base⟩) kin hn c) ns hns, rfl, rfl⟩

end LK01
namespace LK01
open PySem PySem.Spec PyProof.Rows L2 EN
abbrev R : PySem.W.OpenRow := PySem.W.OpenLaw.row PySem.Challenge.rw_readsmith_k01_names_and_signs
abbrev hk : PySem.W.Hook := hookB 4 ex fn
def ob (s : PySem.W.SharedT) : Bool × List He.FnW := obsBG 4 ex fn (HandSHeadRun.getT s)
theorem ob_eq (s : PySem.W.SharedT) : ob s = hk.obs s.abs := obsBG_eq (HandSHeadRun.getT_eq s)
def loose : List Str := ["MOST", "SMALL", "MARKS", "KEPT", "CLASSES", "are_among", "is_small", "is_name", "is_sign", "_law_of", "_law_mixed", "_law_turned", "_law_drawn", "_law_is_of", "_law_dues", "_law_told"]
set_option maxHeartbeats 0 in
theorem run (w : World) : HandSHeadRun.RunEq R (PySem.W.view R.prog [18]) hk ob 3000 loose w := by
  intro os
  kernel_rfl
end LK01
open PySem PySem.W PySem.Calls PyProof.Rows L2 EN
set_option maxRecDepth 100000 in
set_option maxHeartbeats 0 in
theorem PySem.Challenge.cw_readsmith_k01_names_and_signs_holds : PySem.Challenge.rw_readsmith_k01_names_and_signs.Holds := by
  w_on; o_law
  refine HandSHeadRun.head_any (r := OpenLaw.row PySem.Challenge.rw_readsmith_k01_names_and_signs) (q := view (OpenLaw.row PySem.Challenge.rw_readsmith_k01_names_and_signs).prog [18]) (H := LK01.hk) (ob := LK01.ob) (M := 3000) (loose := LK01.loose) (d := HandSHeadRun.topDef (OpenLaw.row PySem.Challenge.rw_readsmith_k01_names_and_signs).prog 18) (kwd := []) LK01.ob_eq
    (by kernel_rfl) (fun s => by kernel_rfl) LK01.run (by kernel_rfl) (by kernel_rfl) (by kernel_rfl) (by rfl) (by first | assumption | decide +kernel) (by decide +kernel) ⟨rfl, rfl, rfl, rfl, rfl, by decide +kernel⟩ ?hw ?hc
  case hw => w_witness2
  case hc =>
    refine L2.walk_ofE (l := PySem.Challenge.rw_readsmith_k01_names_and_signs) (n := 63) (k := 6) (x := "_law_script") (CX := L2.CX0) rfl (by decide) (by kernel_rfl) ⟨rfl, by decide, by decide⟩ ?F (fun _ _ _ _ z => z)
    intro w mg fa h Y G hmg0
    obtain ⟨K, KX, c⟩ := Y
    have hmg : mg ("law" : PySem.Str) = some (.ref fa) := by
      have e : (HandSHeadRun.topDef (OpenLaw.row PySem.Challenge.rw_readsmith_k01_names_and_signs).prog 18).name = ("law" : PySem.Str) := by kernel_rfl
      rw [← e]
      exact hmg0
    have e := hmg.symm.trans (He.glo_ok (x := "law") KX G (List.all_eq_true.mp (Bool.and_eq_true_iff.mp c.all.1).1 (.glo "law") (List.mem_of_getElem? (i := 18) rfl)))
    cases e
    obtain ⟨fd, sp, h1, h2, h3⟩ := LK01.the_end (P := PySem.Challenge.pw_readsmith_k01_names_and_signs) (w := w) (mg := mg) c
    exact ⟨K, fd, sp, KX, h1, h2, h3⟩
