import PyProof.Rows.All
import HandS.ForMost
import HandS.Flow
import HandS.IsInst
import HandS.Conv
import HandS.Deep
import HandS.Zip
import HandS.Defaults
import HandS.HeadHook2
import HandS.HeadEnd
import HandS.Head0
import HandS.Head1
import HandS.Head2
import HandS.ForExc
import HandS.TupAny
import HandS.Style
import KE.GoesMore
import PyProof.Draws
import PyProof.EnumMake
import HandS.WideBits
import PyProof.StrOps2
import HandS.Sort
import HandS.Dict
import HandS.WordsDict
import HandS.EndBits
import HandS.DeepEq
import HandS.TryOnly
import KE.GoesZip
import HandS.CallLocal
import HandS.More
import KE.DataMinMax
import KE.DatumOrd
import HandS.SortKw
import PyProof.Rows.CountFlat
import KE.IntBitsLaws
import PySem.Challenge.RW_readsmith_k02_parts_told
set_option Elab.async false
set_option linter.all false
set_option maxRecDepth 100000
set_option autoImplicit false
set_option maxHeartbeats 4000000
/-! An engine of big steps over data: what an expression, a statement comes to, the heap aside. -/
namespace EN
open PySem PySem.Spec PyProof.Rows L2

/-- data that no one changes -/
inductive D where
  | non | bl (b : Bool) | int (i : Int) | str (x : Str)
  | lst (xs : List D) | tup (xs : List D)
  | dic (kvs : List (Key × D))
  | ins (c : Str) (fs : List (Str × D))
  /-- what a global name stands for -/
  | fn (x : Str)

abbrev Ex (H H' : Hp) : Prop := ∀ a o, H a = some o → H' a = some o
theorem Ex.rfl' {H : Hp} : Ex H H := fun _ _ h => h
theorem Ex.tr {H H1 H2 : Hp} (a : Ex H H1) (b : Ex H1 H2) : Ex H H2 := fun x o h => b x o (a x o h)
theorem Ex.rd {H H' : Hp} {a : Addr} {u : HO} (e : Ex H H') (h : Rd H a u) : Rd H' a u := by
  rcases h with h | ⟨o, h⟩
  · exact Or.inl (e a _ h)
  · exact Or.inr ⟨o, e a _ h⟩
theorem Ex.sqL {K : PySem.W.Frag} {H H' : Hp} {a : Addr} {xs : List V} (e : Ex H H') (h : SqL K H a xs) : SqL K H' a xs := by
  rcases h with h | h
  · exact Or.inl (e.rd h)
  · exact Or.inr h
theorem Ex.sqT {K : PySem.W.Frag} {H H' : Hp} {a : Addr} {xs : List V} (e : Ex H H') (h : SqT K H a xs) : SqT K H' a xs := by
  rcases h with h | h
  · exact Or.inl (e.rd h)
  · exact Or.inr h
theorem Ex.new {H : Hp} {p : Addr} {o : HO} (h : H p = none) : Ex H (upd H p o) := fun a u e => by
  rw [upd_ne (ne_of_none e h)]
  exact e
theorem Ex.fresh {H H' : Hp} {p : Addr} (e : Ex H H') (h : H' p = none) : H p = none := by
  cases h1 : H p with
  | none => rfl
  | some o => rw [e p o h1] at h; cases h

mutual
inductive Dt (K : PySem.W.Frag) (H : Hp) : D → V → Prop
  | non : Dt K H .non .non
  | bl (b : Bool) : Dt K H (.bl b) (.bl b)
  | int (i : Int) : Dt K H (.int i) (.int i)
  | str (x : Str) : Dt K H (.str x) (.str x)
  | lst {a : Addr} {xs : List V} {ds : List D} : SqL K H a xs → DtL K H ds xs → Dt K H (.lst ds) (.ref a)
  | tup {a : Addr} {xs : List V} {ds : List D} : SqT K H a xs → DtL K H ds xs → Dt K H (.tup ds) (.ref a)
  | dic {a : Addr} {kvs : List (Key × V)} {ds : List (Key × D)} : Rd H a (.dK kvs) → DtK K H ds kvs → Dt K H (.dic ds) (.ref a)
  | ins {a dx : Addr} {c : Str} {fs : List (Str × V)} {ds : List (Str × D)} : H a = some (.ins (He.ga K c) dx fs) → DtF K H ds fs → Dt K H (.ins c ds) (.ref a)
  | fn (x : Str) : Dt K H (.fn x) (.ref (He.ga K x))
inductive DtL (K : PySem.W.Frag) (H : Hp) : List D → List V → Prop
  | nil : DtL K H [] []
  | cons {d : D} {v : V} {ds : List D} {vs : List V} : Dt K H d v → DtL K H ds vs → DtL K H (d :: ds) (v :: vs)
inductive DtK (K : PySem.W.Frag) (H : Hp) : List (Key × D) → List (Key × V) → Prop
  | nil : DtK K H [] []
  | cons {k : Key} {d : D} {v : V} {ds : List (Key × D)} {vs : List (Key × V)} : Dt K H d v → DtK K H ds vs → DtK K H ((k, d) :: ds) ((k, v) :: vs)
inductive DtF (K : PySem.W.Frag) (H : Hp) : List (Str × D) → List (Str × V) → Prop
  | nil : DtF K H [] []
  | cons {k : Str} {d : D} {v : V} {ds : List (Str × D)} {vs : List (Str × V)} : Dt K H d v → DtF K H ds vs → DtF K H ((k, d) :: ds) ((k, v) :: vs)
end
section
variable {K : PySem.W.Frag} {H H' : Hp}
mutual
theorem Dt.mono (e : Ex H H') : ∀ {d : D} {v : V}, Dt K H d v → Dt K H' d v
  | _, _, .non => .non
  | _, _, .bl b => .bl b
  | _, _, .int b => .int b
  | _, _, .str b => .str b
  | _, _, .lst s l => .lst (e.sqL s) (DtL.mono e l)
  | _, _, .tup s l => .tup (e.sqT s) (DtL.mono e l)
  | _, _, .dic s l => .dic (e.rd s) (DtK.mono e l)
  | _, _, .ins s l => .ins (e _ _ s) (DtF.mono e l)
  | _, _, .fn x => .fn x
theorem DtL.mono (e : Ex H H') : ∀ {d : List D} {v : List V}, DtL K H d v → DtL K H' d v
  | _, _, .nil => .nil
  | _, _, .cons h t => .cons (Dt.mono e h) (DtL.mono e t)
theorem DtK.mono (e : Ex H H') : ∀ {d : List (Key × D)} {v : List (Key × V)}, DtK K H d v → DtK K H' d v
  | _, _, .nil => .nil
  | _, _, .cons h t => .cons (Dt.mono e h) (DtK.mono e t)
theorem DtF.mono (e : Ex H H') : ∀ {d : List (Str × D)} {v : List (Str × V)}, DtF K H d v → DtF K H' d v
  | _, _, .nil => .nil
  | _, _, .cons h t => .cons (Dt.mono e h) (DtF.mono e t)
end
theorem DtL.len : ∀ {d : List D} {v : List V}, DtL K H d v → d.length = v.length
  | _, _, .nil => rfl
  | _, _, .cons _ t => by simp [t.len]
theorem DtL.get : ∀ {d : List D} {v : List V} {i : Nat} {x : D}, DtL K H d v → d[i]? = some x → ∃ y, v[i]? = some y ∧ Dt K H x y
  | _, _, _, _, .nil, h => by simp at h
  | _, _, 0, _, .cons q t, h => ⟨_, rfl, by simp at h; subst h; exact q⟩
  | _, _, i + 1, _, .cons q t, h => t.get (i := i) (by simpa using h)
theorem DtL.append : ∀ {d e : List D} {v w : List V}, DtL K H d v → DtL K H e w → DtL K H (d ++ e) (v ++ w)
  | _, _, _, _, .nil, h => h
  | _, _, _, _, .cons q t, h => .cons q (t.append h)
theorem DtL.rev {d : List D} {v : List V} (h : DtL K H d v) : DtL K H d.reverse v.reverse := by
  induction h using DtL.rec (motive_1 := fun _ _ _ => True) (motive_3 := fun _ _ _ => True) (motive_4 := fun _ _ _ => True) <;> try trivial
  case nil => exact .nil
  case cons q t _ ih =>
    simp only [List.reverse_cons]
    exact ih.append (.cons q .nil)
theorem DtL.take : ∀ {d : List D} {v : List V} (n : Nat), DtL K H d v → DtL K H (d.take n) (v.take n)
  | _, _, 0, _ => by simpa using DtL.nil
  | _, _, _ + 1, .nil => by simpa using DtL.nil
  | _, _, n + 1, .cons q t => .cons q (t.take n)
theorem DtL.drop : ∀ {d : List D} {v : List V} (n : Nat), DtL K H d v → DtL K H (d.drop n) (v.drop n)
  | _, _, 0, h => h
  | _, _, _ + 1, .nil => .nil
  | _, _, n + 1, .cons q t => t.drop n
theorem DtF.look : ∀ {d : List (Str × D)} {v : List (Str × V)} {f : Str} {x : D}, DtF K H d v → d.lookup f = some x → ∃ y, v.lookup f = some y ∧ Dt K H x y
  | _, _, f, x, .nil, h => by simp at h
  | _, _, f, x, .cons (k := k) q t, h => by
    simp only [List.lookup_cons] at h ⊢
    cases e : f == k with
    | true => rw [e] at h; simp at h; subst h; exact ⟨_, rfl, q⟩
    | false => rw [e] at h; exact t.look h
theorem DtF.look0 : ∀ {d : List (Str × D)} {v : List (Str × V)} {f : Str}, DtF K H d v → d.lookup f = none → v.lookup f = none
  | _, _, f, .nil, h => by simp
  | _, _, f, .cons (k := k) q t, h => by
    simp only [List.lookup_cons] at h ⊢
    cases e : f == k with
    | true => rw [e] at h; cases h
    | false => rw [e] at h; exact t.look0 h
end

/-- a value: data, or an object of one's own by its number; vls: a list whose items are known one by one -/
inductive T where
  | dat (d : D) | own (i : Nat) | vls (ds : List D) (vs : List V)
/-- an object of one's own -/
inductive M where
  | lst (ts : List T)
  | dic (kvs : List (Key × T))
  | ins (c : Str) (fs : List (Str × T))
  | frz (d : D)
def M.isFrz : M → Bool
  | .frz _ => true
  | _ => false

/-- the addresses of one's own objects -/
def hds : List Addr → List M → List Addr
  | a :: π, m :: μ => if m.isFrz then hds π μ else a :: hds π μ
  | _, _ => []
def hd (φ π : List Addr) (μ : List M) (H : Hp) : Hp := fun a => if a ∈ φ ++ hds π μ then none else H a
theorem hd_le (φ π : List Addr) (μ : List M) (H : Hp) : Ex (hd φ π μ H) H := fun a o h => by
  unfold hd at h
  split at h
  · cases h
  · exact h
theorem mem_hds : ∀ {π : List Addr} {μ : List M} {a : Addr}, a ∈ hds π μ → ∃ (i : Nat) (m : M), π[i]? = some a ∧ μ[i]? = some m ∧ m.isFrz = false
  | [], _, _, h => by simp [hds] at h
  | _ :: _, [], _, h => by simp [hds] at h
  | p :: π, m :: μ, a, h => by
    unfold hds at h
    cases e : m.isFrz with
    | true =>
      rw [e] at h
      obtain ⟨i, m', h1, h2, h3⟩ := mem_hds (π := π) (μ := μ) (by simpa using h)
      exact ⟨i + 1, m', by simpa using h1, by simpa using h2, h3⟩
    | false =>
      rw [e] at h
      rcases List.mem_cons.mp (by simpa using h) with rfl | h
      · exact ⟨0, m, rfl, rfl, e⟩
      · obtain ⟨i, m', h1, h2, h3⟩ := mem_hds (π := π) (μ := μ) h
        exact ⟨i + 1, m', by simpa using h1, by simpa using h2, h3⟩
theorem hds_mem : ∀ {π : List Addr} {μ : List M} {a : Addr} {i : Nat} {m : M}, π[i]? = some a → μ[i]? = some m → m.isFrz = false → a ∈ hds π μ
  | [], _, _, _, _, h, _, _ => by simp at h
  | _ :: _, [], _, _, _, _, h, _ => by simp at h
  | p :: π, m :: μ, a, 0, m', h1, h2, h3 => by
    simp at h1 h2; subst h1; subst h2
    unfold hds; rw [h3]; simp
  | p :: π, m :: μ, a, i + 1, m', h1, h2, h3 => by
    have := hds_mem (π := π) (μ := μ) (i := i) (by simpa using h1) (by simpa using h2) h3
    unfold hds
    split
    · exact this
    · exact List.mem_cons_of_mem _ this
theorem hds_append : ∀ {π π2 : List Addr} {μ μ2 : List M}, π.length = μ.length → hds (π ++ π2) (μ ++ μ2) = hds π μ ++ hds π2 μ2
  | [], _, [], _, _ => by simp [hds]
  | [], _, _ :: _, _, h => by simp at h
  | _ :: _, _, [], _, h => by simp at h
  | p :: π, π2, m :: μ, μ2, h => by
    have ih := hds_append (π := π) (π2 := π2) (μ := μ) (μ2 := μ2) (by simpa using h)
    simp only [List.cons_append, hds, ih]
    split <;> simp
theorem hds_set : ∀ {π : List Addr} {μ : List M} {i : Nat} {m m' : M}, μ[i]? = some m → m.isFrz = m'.isFrz → hds π (μ.set i m') = hds π μ
  | [], _, _, _, _, _, _ => by simp [hds]
  | _ :: _, [], _, _, _, h, _ => by simp at h
  | p :: π, m :: μ, 0, m1, m', h, e => by
    simp at h; subst h
    simp only [List.set_cons_zero, hds, e]
  | p :: π, m :: μ, i + 1, m1, m', h, e => by
    have ih := hds_set (π := π) (μ := μ) (i := i) (m := m1) (m' := m') (by simpa using h) e
    simp only [List.set_cons_succ, hds, ih]

section
variable (K : PySem.W.Frag)
def TOk (π : List Addr) (Hd : Hp) : T → V → Prop
  | .dat d, v => Dt K Hd d v
  | .own i, v => ∃ a : Addr, π[i]? = some a ∧ v = .ref a
  | .vls ds vs, v => ∃ a : Addr, v = .ref a ∧ SqL K Hd a vs ∧ DtL K Hd ds vs
inductive TL (π : List Addr) (Hd : Hp) : List T → List V → Prop
  | nil : TL π Hd [] []
  | cons {t : T} {v : V} {ts : List T} {vs : List V} : TOk K π Hd t v → TL π Hd ts vs → TL π Hd (t :: ts) (v :: vs)
inductive TK (π : List Addr) (Hd : Hp) {κ : Type} : List (κ × T) → List (κ × V) → Prop
  | nil : TK π Hd [] []
  | cons {k : κ} {t : T} {v : V} {ts : List (κ × T)} {vs : List (κ × V)} : TOk K π Hd t v → TK π Hd ts vs → TK π Hd ((k, t) :: ts) ((k, v) :: vs)
def MOk (π : List Addr) (Hd : Hp) (H : Hp) (a : Addr) : M → Prop
  | .lst ts => ∃ vs, H a = some (.lst vs) ∧ TL K π Hd ts vs
  | .dic kvs => ∃ vs, H a = some (.dK vs) ∧ TK K π Hd kvs vs
  | .ins c fs => ∃ dx vs, H a = some (.ins (He.ga K c) dx vs) ∧ TK K π Hd fs vs
  | .frz d => (∃ o, Hd a = some o) ∧ Dt K Hd d (.ref a)
/-- the store of one's own objects -/
structure SOk (φ π : List Addr) (H : Hp) (μ : List M) : Prop where
  fr : ∀ a ∈ φ, a ∉ π ∧ ∃ o, H a = some o
  len : π.length = μ.length
  nd : π.Nodup
  obj : ∀ (i : Nat) (a : Addr) (m : M), π[i]? = some a → μ[i]? = some m → MOk K π (hd φ π μ H) H a m
/-- the frame's names -/
def GOk (π : List Addr) (Hd : Hp) (Γ : List (Option T)) (σ : L2.St) : Prop :=
  ∀ (i : Nat) (t : T), Γ[i]? = some (some t) → ∃ v, σ[i]? = some (some v) ∧ TOk K π Hd t v
/-- a later state -/
structure Nxt (φ π : List Addr) (H : Hp) (μ : List M) (π' : List Addr) (H' : Hp) (μ' : List M) : Prop where
  ext : ∃ π2, π' = π ++ π2
  ok : SOk K φ π' H' μ'
  same : ∀ a ∈ φ, H' a = H a
  le : Ex (hd φ π μ H) (hd φ π' μ' H')
end
section
variable {K : PySem.W.Frag} {φ π π' : List Addr} {H H' Hd Hd' : Hp} {μ μ' : List M}
theorem TOk.mono (he : ∃ π2, π' = π ++ π2) (e : Ex Hd Hd') {t : T} {v : V} (h : TOk K π Hd t v) : TOk K π' Hd' t v := by
  cases t with
  | dat d => exact Dt.mono e h
  | own i =>
    obtain ⟨a, h1, h2⟩ := h
    obtain ⟨π2, rfl⟩ := he
    refine ⟨a, ?_, h2⟩
    rw [List.getElem?_append_left (List.getElem?_eq_some_iff.mp h1).1]
    exact h1
  | vls ds vs =>
    obtain ⟨a, h1, h2, h3⟩ := h
    exact ⟨a, h1, e.sqL h2, DtL.mono e h3⟩
theorem TL.mono (he : ∃ π2, π' = π ++ π2) (e : Ex Hd Hd') {t : List T} {v : List V} (h : TL K π Hd t v) : TL K π' Hd' t v := by
  induction h with
  | nil => exact .nil
  | cons q _ ih => exact .cons (q.mono he e) ih
theorem TK.mono {κ : Type} (he : ∃ π2, π' = π ++ π2) (e : Ex Hd Hd') {t : List (κ × T)} {v : List (κ × V)} (h : TK K π Hd t v) : TK K π' Hd' t v := by
  induction h with
  | nil => exact .nil
  | cons q _ ih => exact .cons (q.mono he e) ih
theorem GOk.mono (he : ∃ π2, π' = π ++ π2) (e : Ex Hd Hd') {Γ : List (Option T)} {σ : L2.St} (h : GOk K π Hd Γ σ) : GOk K π' Hd' Γ σ := fun i t q => by
  obtain ⟨v, h1, h2⟩ := h i t q
  exact ⟨v, h1, h2.mono he e⟩
theorem MOk.mono (he : ∃ π2, π' = π ++ π2) (e : Ex Hd Hd') {a : Addr} {m : M} (h : MOk K π Hd H a m) (hh : m.isFrz = false → H' a = H a) : MOk K π' Hd' H' a m := by
  cases m with
  | lst ts => obtain ⟨vs, h1, h2⟩ := h; exact ⟨vs, (hh rfl).trans h1, h2.mono he e⟩
  | dic ts => obtain ⟨vs, h1, h2⟩ := h; exact ⟨vs, (hh rfl).trans h1, h2.mono he e⟩
  | ins c ts => obtain ⟨dx, vs, h1, h2⟩ := h; exact ⟨dx, vs, (hh rfl).trans h1, h2.mono he e⟩
  | frz d => exact ⟨h.1.elim fun o q => ⟨o, e _ _ q⟩, Dt.mono e h.2⟩
theorem MOk.there {a : Addr} {m : M} (h : MOk K π Hd H a m) (hf : m.isFrz = false) : ∃ o, H a = some o := by
  cases m with
  | lst ts => obtain ⟨vs, h1, h2⟩ := h; exact ⟨_, h1⟩
  | dic ts => obtain ⟨vs, h1, h2⟩ := h; exact ⟨_, h1⟩
  | ins c ts => obtain ⟨dx, vs, h1, h2⟩ := h; exact ⟨_, h1⟩
  | frz d => cases hf
theorem SOk.hdAt (s : SOk K φ π H μ) {a : Addr} (h : a ∈ hds π μ) : ∃ o, H a = some o := by
  obtain ⟨i, m, h1, h2, h3⟩ := mem_hds h
  exact (s.obj i a m h1 h2).there h3
theorem Nxt.refl (s : SOk K φ π H μ) : Nxt K φ π H μ π H μ := ⟨⟨[], by simp⟩, s, fun _ _ => rfl, Ex.rfl'⟩
theorem Nxt.trans {π1 π2 : List Addr} {H1 H2 : Hp} {μ1 μ2 : List M} (a : Nxt K φ π H μ π1 H1 μ1) (b : Nxt K φ π1 H1 μ1 π2 H2 μ2) : Nxt K φ π H μ π2 H2 μ2 := by
  obtain ⟨p, rfl⟩ := a.ext
  obtain ⟨q, e⟩ := b.ext
  exact ⟨⟨p ++ q, by rw [e, List.append_assoc]⟩, b.ok, fun x hx => (b.same x hx).trans (a.same x hx), a.le.tr b.le⟩
theorem TOk.nx {π1 : List Addr} {H1 : Hp} {μ1 : List M} {t : T} {v : V} (h : TOk K π (hd φ π μ H) t v) (n : Nxt K φ π H μ π1 H1 μ1) : TOk K π1 (hd φ π1 μ1 H1) t v := h.mono n.ext n.le
theorem TL.nx {π1 : List Addr} {H1 : Hp} {μ1 : List M} {t : List T} {v : List V} (h : TL K π (hd φ π μ H) t v) (n : Nxt K φ π H μ π1 H1 μ1) : TL K π1 (hd φ π1 μ1 H1) t v := h.mono n.ext n.le
theorem GOk.nx {π1 : List Addr} {H1 : Hp} {μ1 : List M} {Γ : List (Option T)} {σ : L2.St} (h : GOk K π (hd φ π μ H) Γ σ) (n : Nxt K φ π H μ π1 H1 μ1) : GOk K π1 (hd φ π1 μ1 H1) Γ σ := h.mono n.ext n.le
theorem GOk.set {Γ : List (Option T)} {σ : L2.St} (h : GOk K π Hd Γ σ) {i : Nat} {t : T} {v : V} (q : TOk K π Hd t v) (hi : Γ.length = σ.length) : GOk K π Hd (Γ.set i (some t)) (σ.set i (some v)) := fun j u e => by
  by_cases hj : i = j
  · subst hj
    by_cases hl : i < Γ.length
    · rw [List.getElem?_set_self hl] at e
      cases e
      exact ⟨v, by rw [List.getElem?_set_self (by omega)], q⟩
    · rw [List.getElem?_eq_none (by simpa using hl)] at e; cases e
  · rw [List.getElem?_set_ne hj] at e
    obtain ⟨w, h1, h2⟩ := h j u e
    exact ⟨w, by rw [List.getElem?_set_ne hj]; exact h1, h2⟩

/-- a new thing that is data -/
theorem hd_upd {p : Addr} {o : HO} (h : p ∉ φ ++ hds π μ) : hd φ π μ (upd H p o) = upd (hd φ π μ H) p o := by
  funext b
  unfold hd upd
  by_cases hb : b = p
  · subst hb; rw [if_neg h, if_pos rfl, if_pos rfl]
  · rw [if_neg hb, if_neg hb]
theorem hd_upd_in {p : Addr} {o : HO} (h : p ∈ φ ++ hds π μ) : hd φ π μ (upd H p o) = hd φ π μ H := by
  funext b
  unfold hd upd
  by_cases hb : b = p
  · subst hb; rw [if_pos h, if_pos h]
  · rw [if_neg hb]
theorem SOk.notin (s : SOk K φ π H μ) {p : Addr} (hp : H p = none) : p ∉ φ ++ hds π μ := fun h => by
  rcases List.mem_append.mp h with h | h
  · obtain ⟨_, o, e⟩ := s.fr p h
    rw [hp] at e; cases e
  · obtain ⟨o, e⟩ := s.hdAt h
    rw [hp] at e; cases e
theorem hd_none {p : Addr} (hp : H p = none) : hd φ π μ H p = none := by
  unfold hd
  split
  · rfl
  · exact hp
/-- the heap has grown by things that are nobody's own -/
theorem SOk.grow (s : SOk K φ π H μ) (e : Ex H H') : Nxt K φ π H μ π H' μ := by
  have le : Ex (hd φ π μ H) (hd φ π μ H') := fun a o h => by
    unfold hd at h ⊢
    split at h
    · cases h
    · rename_i hn; rw [if_neg hn]; exact e a o h
  have sm : ∀ a ∈ φ, H' a = H a := fun a ha => by
    obtain ⟨_, o, q⟩ := s.fr a ha
    rw [q]; exact e a o q
  refine ⟨⟨[], by simp⟩, ⟨fun a ha => ⟨(s.fr a ha).1, by rw [sm a ha]; exact (s.fr a ha).2⟩, s.len, s.nd, fun i a m h1 h2 => ?_⟩, sm, le⟩
  refine (s.obj i a m h1 h2).mono ⟨[], by simp⟩ le fun hf => ?_
  obtain ⟨o, ho⟩ := (s.obj i a m h1 h2).there hf
  rw [ho]; exact e a o ho
theorem SOk.newData (s : SOk K φ π H μ) {p : Addr} {o : HO} (hp : H p = none) : Nxt K φ π H μ π (upd H p o) μ ∧ hd φ π μ (upd H p o) p = some o := by
  refine ⟨s.grow (Ex.new hp), ?_⟩
  rw [hd_upd (s.notin hp), upd_same]
/-- a new object of one's own -/
theorem SOk.newOwn (s : SOk K φ π H μ) {p : Addr} {o : HO} {m : M} (hp : H p = none) (hm : m.isFrz = false) (h : MOk K (π ++ [p]) (hd φ π μ H) (upd H p o) p m) :
    Nxt K φ π H μ (π ++ [p]) (upd H p o) (μ ++ [m]) := by
  have hn := s.notin hp
  have e1 : hds (π ++ [p]) (μ ++ [m]) = hds π μ ++ [p] := by
    rw [hds_append s.len]; simp [hds, hm]
  have e2 : hd φ (π ++ [p]) (μ ++ [m]) (upd H p o) = hd φ π μ H := by
    funext b
    unfold hd
    rw [e1]
    by_cases hb : b = p
    · subst hb; simp [hp]
    · rw [upd_ne hb]
      simp [hb]
  have hnp : p ∉ π := fun hm' => by
    obtain ⟨i, hi⟩ := List.getElem?_of_mem hm'
    have hil : i < μ.length := by rw [← s.len]; exact (List.getElem?_eq_some_iff.mp hi).1
    cases hf : (μ[i]).isFrz with
    | false => exact hn (List.mem_append_right _ (hds_mem hi (List.getElem?_eq_getElem hil) hf))
    | true =>
      cases hmu : μ[i] with
      | frz d =>
        obtain ⟨⟨o, q⟩, _⟩ := s.obj i p _ hi (by rw [List.getElem?_eq_getElem hil, hmu])
        rw [hd_none hp] at q; cases q
      | lst _ => rw [hmu] at hf; cases hf
      | dic _ => rw [hmu] at hf; cases hf
      | ins _ _ => rw [hmu] at hf; cases hf
  have sm : ∀ a ∈ φ, upd H p o a = H a := fun a ha => upd_ne fun z => hn (List.mem_append_left _ (z ▸ ha))
  refine ⟨⟨[p], rfl⟩, ⟨fun a ha => ⟨?_, by rw [sm a ha]; exact (s.fr a ha).2⟩, by simp [s.len], ?_, fun i a m' h1 h2 => ?_⟩, sm, by rw [e2]; exact Ex.rfl'⟩
  · intro q
    rcases List.mem_append.mp q with q | q
    · exact (s.fr a ha).1 q
    · simp at q; subst q; exact hn (List.mem_append_left _ ha)
  · rw [List.nodup_append]
    exact ⟨s.nd, by simp, fun x hx y hy => by simp at hy; subst hy; exact fun z => hnp (z ▸ hx)⟩
  · rw [e2]
    by_cases hi : i < π.length
    · rw [List.getElem?_append_left hi] at h1
      rw [List.getElem?_append_left (by rw [← s.len]; exact hi)] at h2
      refine (s.obj i a m' h1 h2).mono ⟨[p], rfl⟩ Ex.rfl' fun hf => ?_
      have ha : a ≠ p := fun z => hnp (z ▸ List.mem_of_getElem? h1)
      exact upd_ne ha
    · have hi' : i = π.length := by
        have := (List.getElem?_eq_some_iff.mp h1).1
        simp at this; omega
      subst hi'
      simp at h1; subst h1
      rw [s.len] at h2
      simp at h2; subst h2
      exact h
/-- one's own object is written -/
theorem SOk.write (s : SOk K φ π H μ) {i : Nat} {a : Addr} {m m' : M} {o : HO} (h1 : π[i]? = some a) (h2 : μ[i]? = some m) (hf : m.isFrz = false) (hf' : m'.isFrz = false) (h : MOk K π (hd φ π μ H) (upd H a o) a m') :
    Nxt K φ π H μ π (upd H a o) (μ.set i m') := by
  have e1 : hds π (μ.set i m') = hds π μ := hds_set h2 (by rw [hf, hf'])
  have ha : a ∈ hds π μ := hds_mem h1 h2 hf
  have e2 : hd φ π (μ.set i m') (upd H a o) = hd φ π μ H := by
    have : hd φ π (μ.set i m') (upd H a o) = hd φ π μ (upd H a o) := by unfold hd; rw [e1]
    rw [this, hd_upd_in (List.mem_append_right _ ha)]
  have sm : ∀ b ∈ φ, upd H a o b = H b := fun b hb => upd_ne fun z => (s.fr b hb).1 (z ▸ List.mem_of_getElem? h1)
  refine ⟨⟨[], by simp⟩, ⟨fun b hb => ⟨(s.fr b hb).1, by rw [sm b hb]; exact (s.fr b hb).2⟩, by simp [s.len], s.nd, fun j b m1 q1 q2 => ?_⟩, sm, by rw [e2]; exact Ex.rfl'⟩
  rw [e2]
  by_cases hj : i = j
  · subst hj
    rw [h1] at q1; cases q1
    rw [List.getElem?_set_self (List.getElem?_eq_some_iff.mp h2).1] at q2
    cases q2
    exact h
  · rw [List.getElem?_set_ne hj] at q2
    refine (s.obj j b m1 q1 q2).mono ⟨[], by simp⟩ Ex.rfl' fun _ => ?_
    have : b ≠ a := fun z => by
      subst z
      obtain ⟨l1, g1⟩ := List.getElem?_eq_some_iff.mp h1
      obtain ⟨l2, g2⟩ := List.getElem?_eq_some_iff.mp q1
      exact hj ((List.getElem_inj s.nd).mp (g1.trans g2.symm))
    exact upd_ne this
/-- one's own object is data from here on -/
theorem SOk.freeze (s : SOk K φ π H μ) {i : Nat} {a : Addr} {m : M} {d : D} (h1 : π[i]? = some a) (h2 : μ[i]? = some m) (hf : m.isFrz = false) (h : ∀ Hd', (∀ o, H a = some o → Hd' a = some o) → Ex (hd φ π μ H) Hd' → Dt K Hd' d (.ref a)) :
    Nxt K φ π H μ π H (μ.set i (.frz d)) := by
  have hth : ∃ o, H a = some o := (s.obj i a m h1 h2).there hf
  have haφ : a ∉ φ := fun z => (s.fr a z).1 (List.mem_of_getElem? h1)
  have sub : ∀ b, b ∈ hds π (μ.set i (.frz d)) → b ∈ hds π μ ∧ b ≠ a := fun b hb => by
    obtain ⟨j, m1, q1, q2, q3⟩ := mem_hds hb
    have hj : i ≠ j := fun z => by
      subst z
      rw [List.getElem?_set_self (List.getElem?_eq_some_iff.mp h2).1] at q2
      cases q2; cases q3
    rw [List.getElem?_set_ne hj] at q2
    refine ⟨hds_mem q1 q2 q3, fun z => ?_⟩
    subst z
    obtain ⟨l1, g1⟩ := List.getElem?_eq_some_iff.mp h1
    obtain ⟨l2, g2⟩ := List.getElem?_eq_some_iff.mp q1
    exact hj ((List.getElem_inj s.nd).mp (g1.trans g2.symm))
  have le : Ex (hd φ π μ H) (hd φ π (μ.set i (.frz d)) H) := fun b o e => by
    unfold hd at e ⊢
    split at e
    · cases e
    · rename_i hn
      rw [if_neg fun z => hn ?_]
      · exact e
      · rcases List.mem_append.mp z with z | z
        · exact List.mem_append_left _ z
        · exact List.mem_append_right _ (sub b z).1
  have ha : ∀ o, H a = some o → hd φ π (μ.set i (.frz d)) H a = some o := fun o e => by
    unfold hd
    rw [if_neg fun z => ?_]
    · exact e
    · rcases List.mem_append.mp z with z | z
      · exact haφ z
      · exact (sub a z).2 rfl
  refine ⟨⟨[], by simp⟩, ⟨s.fr, by simp [s.len], s.nd, fun j b m1 q1 q2 => ?_⟩, fun _ _ => rfl, le⟩
  by_cases hj : i = j
  · subst hj
    rw [h1] at q1; cases q1
    rw [List.getElem?_set_self (List.getElem?_eq_some_iff.mp h2).1] at q2
    cases q2
    exact ⟨hth.elim fun o q => ⟨o, ha o q⟩, h _ ha le⟩
  · rw [List.getElem?_set_ne hj] at q2
    exact (s.obj j b m1 q1 q2).mono ⟨[], by simp⟩ le fun _ => rfl
/-- the last objects are forgotten -/
theorem SOk.forget {μ2 : List M} (s : SOk K φ π H (μ ++ μ2)) (hc : ∀ (i : Nat) (a : Addr) (m : M), (π.take μ.length)[i]? = some a → μ[i]? = some m → MOk K π (hd φ π (μ ++ μ2) H) H a m → MOk K (π.take μ.length) (hd φ π (μ ++ μ2) H) H a m) :
    SOk K φ (π.take μ.length) H μ ∧ Ex (hd φ π (μ ++ μ2) H) (hd φ (π.take μ.length) μ H) := by
  have hl : (π.take μ.length).length = μ.length := by
    rw [List.length_take]
    have := s.len
    simp at this; omega
  have e0 : π = π.take μ.length ++ π.drop μ.length := (List.take_append_drop _ _).symm
  have e1 : hds π (μ ++ μ2) = hds (π.take μ.length) μ ++ hds (π.drop μ.length) μ2 := by
    rw [← hds_append hl, ← e0]
  have le : Ex (hd φ π (μ ++ μ2) H) (hd φ (π.take μ.length) μ H) := fun b o e => by
    unfold hd at e ⊢
    rw [e1] at e
    split at e
    · cases e
    · rename_i hn
      rw [if_neg fun z => hn ?_]
      · exact e
      · rcases List.mem_append.mp z with z | z
        · exact List.mem_append_left _ z
        · exact List.mem_append_right _ (List.mem_append_left _ z)
  refine ⟨⟨fun a ha => ⟨fun z => (s.fr a ha).1 (List.mem_of_mem_take z), (s.fr a ha).2⟩, hl, ?_, fun i a m h1 h2 => ?_⟩, le⟩
  · exact (List.take_sublist _ _).nodup s.nd
  · have hi : i < μ.length := (List.getElem?_eq_some_iff.mp h2).1
    have h1' : π[i]? = some a := by
      rw [List.getElem?_take] at h1
      simpa [hi] using h1
    have h2' : (μ ++ μ2)[i]? = some m := by rw [List.getElem?_append_left hi]; exact h2
    exact (hc i a m h1 h2 (s.obj i a m h1' h2')).mono ⟨[], by simp⟩ le fun _ => rfl
/-- one more object in the frame -/
theorem SOk.frame (s : SOk K φ π H μ) {p : Addr} {o : HO} (hp : H p = none) : SOk K (p :: φ) π (upd H p o) μ ∧ hd (p :: φ) π μ (upd H p o) = hd φ π μ H := by
  have hn := s.notin hp
  have e2 : hd (p :: φ) π μ (upd H p o) = hd φ π μ H := by
    funext b
    unfold hd
    by_cases hb : b = p
    · subst hb; simp [hp]
    · rw [upd_ne hb]; simp [hb]
  have hnp : p ∉ π := fun hm' => by
    obtain ⟨i, hi⟩ := List.getElem?_of_mem hm'
    have hil : i < μ.length := by rw [← s.len]; exact (List.getElem?_eq_some_iff.mp hi).1
    cases hf : (μ[i]).isFrz with
    | false => exact hn (List.mem_append_right _ (hds_mem hi (List.getElem?_eq_getElem hil) hf))
    | true =>
      cases hmu : μ[i] with
      | frz d =>
        obtain ⟨⟨o, q⟩, _⟩ := s.obj i p _ hi (by rw [List.getElem?_eq_getElem hil, hmu])
        rw [hd_none hp] at q; cases q
      | lst _ => rw [hmu] at hf; cases hf
      | dic _ => rw [hmu] at hf; cases hf
      | ins _ _ => rw [hmu] at hf; cases hf
  refine ⟨⟨fun a ha => ?_, s.len, s.nd, fun i a m h1 h2 => ?_⟩, e2⟩
  · rcases List.mem_cons.mp ha with rfl | ha
    · exact ⟨hnp, o, upd_same⟩
    · refine ⟨(s.fr a ha).1, ?_⟩
      rw [upd_ne (show a ≠ p from fun z => hn (List.mem_append_left _ (z ▸ ha)))]
      exact (s.fr a ha).2
  · rw [e2]
    refine (s.obj i a m h1 h2).mono ⟨[], by simp⟩ Ex.rfl' fun hf => upd_ne fun z => hnp (z ▸ List.mem_of_getElem? h1)
/-- the frame's object is written -/
theorem SOk.fwrite {p : Addr} {o : HO} (s : SOk K (p :: φ) π H μ) : SOk K (p :: φ) π (upd H p o) μ ∧ hd (p :: φ) π μ (upd H p o) = hd (p :: φ) π μ H := by
  have e2 : hd (p :: φ) π μ (upd H p o) = hd (p :: φ) π μ H := hd_upd_in (by simp)
  refine ⟨⟨fun a ha => ?_, s.len, s.nd, fun i a m h1 h2 => ?_⟩, e2⟩
  · refine ⟨(s.fr a ha).1, ?_⟩
    by_cases hb : a = p
    · subst hb; exact ⟨o, upd_same⟩
    · rw [upd_ne hb]; exact (s.fr a ha).2
  · rw [e2]
    exact (s.obj i a m h1 h2).mono ⟨[], by simp⟩ Ex.rfl' fun hf => upd_ne fun z => (s.fr p (by simp)).1 (z ▸ List.mem_of_getElem? h1)
/-- the frame's object is data from here on -/
theorem SOk.unframe {p : Addr} (s : SOk K (p :: φ) π H μ) (hp : p ∉ φ) : SOk K φ π H μ ∧ Ex (hd (p :: φ) π μ H) (hd φ π μ H) ∧ hd φ π μ H p = H p := by
  have hnp := (s.fr p (by simp)).1
  have le : Ex (hd (p :: φ) π μ H) (hd φ π μ H) := fun b o e => by
    unfold hd at e ⊢
    by_cases hn : b ∈ p :: φ ++ hds π μ
    · rw [if_pos hn] at e; cases e
    · rw [if_neg hn] at e
      rw [if_neg fun z => hn (by simp only [List.cons_append]; exact List.mem_cons_of_mem _ z)]
      exact e
  refine ⟨⟨fun a ha => s.fr a (List.mem_cons_of_mem _ ha), s.len, s.nd, fun i a m h1 h2 => (s.obj i a m h1 h2).mono ⟨[], by simp⟩ le fun _ => rfl⟩, le, ?_⟩
  unfold hd
  rw [if_neg]
  intro z
  rcases List.mem_append.mp z with z | z
  · exact hp z
  · obtain ⟨i, m, h1, h2, h3⟩ := mem_hds z
    exact hnp (List.mem_of_getElem? h1)
end
end EN
/-! Contexts, what an expression comes to. -/
namespace EN
open PySem PySem.Spec PyProof.Rows L2

structure Gc where
  P : Program
  w : World
  K : PySem.W.Frag
  mg : Str → Option Value
  base : Heap
structure Ctx extends Gc where
  N : List Str
  sc : Scope
  k : Nat
  sto : Str → Bool

structure Good (c : Ctx) (X : Cx) : Prop where
  prog : X.prog = c.P
  w : X.w = c.w
  K : X.K = c.K
  mg : X.mg = c.mg
  base : X.base = c.base
  N : X.N = c.N
  sc : X.env.scope = c.sc
  nd : c.N.Nodup
  room : Room c.k X.A
  calm : X.calm = true
  pass : PassesOwn (model X.prog X.w) X.A X.env X.xe
  sto : ∀ x, c.sto x = true → X.fn x = true ∨ X.env.scope.names.lookup x = some .local

def semE (X : Cx) (e : Expr) : TE := fun σ H Q => ∀ pins s, Inv X pins σ H s → wpAny (model X.prog X.w) X.A (eval e X.env) (EP X pins σ Q) X.xe s
def semT (X : Cx) (e : Expr) : TT := fun σ H Q => ∀ pins s, Inv X pins σ H s → wpAny (model X.prog X.w) X.A (isTrue e X.env (eval e X.env)) (TP X pins σ Q) X.xe s
def semA (X : Cx) (es : List Expr) : TA := fun σ H Q => ∀ pos pins s, Inv X pins σ H s → wpAny (model X.prog X.w) X.A (spliced (backTo pos (starEach es X.env))) (AP X pins σ Q) X.xe s
def semS (X : Cx) (st : Stmt) : TS := fun D σ H => ∀ pins s, Inv X pins σ H s → wpAny (model X.prog X.w) X.A (exec st X.env) (SP X pins D) X.xe s
def semSs (X : Cx) (st : List Stmt) : TS := fun D σ H => ∀ pins s, Inv X pins σ H s → wpAny (model X.prog X.w) X.A (execs st X.env) (SP X pins D) X.xe s
section
variable {X : Cx} {e : Expr} {es : List Expr} {st : Stmt} {sts : List Stmt} {σ : L2.St} {H : Hp}
theorem pe_sem : PE X e (semE X e) := ⟨fun pins s _ _ _ I h => h pins s I⟩
theorem pt_sem : PT X e (semT X e) := ⟨fun pins s _ _ _ I h => h pins s I⟩
theorem pa_sem : PA X es (semA X es) := ⟨fun pos pins s _ _ _ I h => h pos pins s I⟩
theorem ps_sem : PS X st (semS X st) := ⟨fun pins s _ _ _ I h => h pins s I⟩
theorem pss_sem : PSs X sts (semSs X sts) := ⟨fun pins s _ _ _ I h => h pins s I⟩
theorem toE {t : TE} {Q : VK} (h : PE X e t) (q : t σ H Q) : semE X e σ H Q := fun pins s I => h.run pins s σ H Q I q
theorem toT {t : TT} {Q : Bool → Hp → Prop} (h : PT X e t) (q : t σ H Q) : semT X e σ H Q := fun pins s I => h.run pins s σ H Q I q
theorem toA {t : TA} {Q : List V → Hp → Prop} (h : PA X es t) (q : t σ H Q) : semA X es σ H Q := fun pos pins s I => h.run pos pins s σ H Q I q
theorem toS {t : TS} {D : Ends} (h : PS X st t) (q : t D σ H) : semS X st D σ H := fun pins s I => h.run pins s σ H D I q
theorem toSs {t : TS} {D : Ends} (h : PSs X sts t) (q : t D σ H) : semSs X sts D σ H := fun pins s I => h.run pins s σ H D I q
end

/-- what is wanted of a value that t stands for -/
def Pst (K : PySem.W.Frag) (φ π : List Addr) (H : Hp) (μ : List M) (t : T) (μ' : List M) (Q : VK) : Prop := ∀ v π' H', Nxt K φ π H μ π' H' μ' → TOk K π' (hd φ π' μ' H') t v → Q v H'
/-- the frame: as many slots as names, what they hold -/
structure FOk (K : PySem.W.Frag) (π : List Addr) (Hd : Hp) (Γ : List (Option T)) (σ : L2.St) : Prop where
  len : Γ.length = σ.length
  at_ : GOk K π Hd Γ σ
section
variable {K : PySem.W.Frag} {φ π π1 : List Addr} {H H1 Hd : Hp} {μ μ1 : List M} {Γ : List (Option T)} {σ : L2.St}
theorem FOk.nx (h : FOk K π (hd φ π μ H) Γ σ) (n : Nxt K φ π H μ π1 H1 μ1) : FOk K π1 (hd φ π1 μ1 H1) Γ σ := ⟨h.len, h.at_.nx n⟩
theorem FOk.set (h : FOk K π Hd Γ σ) {i : Nat} {t : T} {v : V} (q : TOk K π Hd t v) : FOk K π Hd (Γ.set i (some t)) (σ.set i (some v)) := ⟨by simp [h.len], h.at_.set q h.len⟩
theorem TOk.dat {d : D} {v : V} (h : Dt K Hd d v) : TOk K π Hd (.dat d) v := h
end

/-- e comes to t, from the store μ to μ' -/
def EvJ (c : Ctx) (e : Expr) (Γ : List (Option T)) (μ : List M) (t : T) (μ' : List M) : Prop :=
  ∀ X, Good c X → ∀ φ π σ H, SOk X.K φ π H μ → FOk X.K π (hd φ π μ H) Γ σ → ∀ Q, Pst X.K φ π H μ t μ' Q → semE X e σ H Q
/-- a test -/
def TJ (c : Ctx) (e : Expr) (Γ : List (Option T)) (μ : List M) (b : Bool) (μ' : List M) : Prop :=
  ∀ X, Good c X → ∀ φ π σ H, SOk X.K φ π H μ → FOk X.K π (hd φ π μ H) Γ σ → ∀ Q : Bool → Hp → Prop, (∀ π' H', Nxt X.K φ π H μ π' H' μ' → Q b H') → semT X e σ H Q
/-- written arguments -/
def AJ (c : Ctx) (es : List Expr) (Γ : List (Option T)) (μ : List M) (ts : List T) (μ' : List M) : Prop :=
  ∀ X, Good c X → ∀ φ π σ H, SOk X.K φ π H μ → FOk X.K π (hd φ π μ H) Γ σ → ∀ Q : List V → Hp → Prop, (∀ vs π' H', Nxt X.K φ π H μ π' H' μ' → TL X.K π' (hd φ π' μ' H') ts vs → Q vs H') → semA X es σ H Q
/-- a two-place operation on values -/
def R2J (c : Ctx) (f : Value → Value → Sem Value) (t1 t2 : T) (μ : List M) (t : T) (μ' : List M) : Prop :=
  ∀ X, Good c X → ∃ r : R2, OpR X f r ∧ ∀ φ π H x y, SOk X.K φ π H μ → TOk X.K π (hd φ π μ H) t1 x → TOk X.K π (hd φ π μ H) t2 y → ∀ Q, Pst X.K φ π H μ t μ' Q → r x y H Q
/-- a call of a known value -/
def C1J (c : Ctx) (f : Value) (ts : List T) (μ : List M) (t : T) (μ' : List M) : Prop :=
  ∀ X, Good c X → ∃ r : List V → Hp → VK → Prop, CallR X f r ∧ ∀ φ π H vs, SOk X.K φ π H μ → TL X.K π (hd φ π μ H) ts vs → ∀ Q, Pst X.K φ π H μ t μ' Q → r vs H Q

section
variable {c : Ctx} {a b e : Expr} {es : List Expr} {Γ : List (Option T)} {μ μ1 μ2 μ3 : List M} {t t1 t2 t3 : T} {pos : Pos} {d : D}
/-- the value, told otherwise -/
theorem EvJ.eq {t' : T} {μ' : List M} (h : EvJ c e Γ μ t μ1) (e1 : t = t') (e2 : μ1 = μ') : EvJ c e Γ μ t' μ' := e1 ▸ e2 ▸ h
theorem ev_name {i : Nat} {x : Str} (hN : c.N[i]? = some x) (hv : Vis c.sc x) (hΓ : Γ[i]? = some (some t)) (hdb : (x == ("__debug__" : Str)) = false := by decide) (hcd : (x == ("__classdict__" : Str)) = false := by decide) : EvJ c (.Name x pos) Γ μ t μ := by
  intro X g φ π σ H s0 g0 Q q
  refine toE (pe_var (i := i) (by rw [g.N]; exact hN) (by rw [g.sc]; exact hv) hdb hcd) ?_
  obtain ⟨v, h1, h2⟩ := g0.at_ i t hΓ
  exact ⟨v, h1, q v π H (Nxt.refl s0) h2⟩
theorem ev_c {e : Expr} {v : V} (he : ∀ X, PE X e (tC v)) (h : ∀ K H, Dt K H d v) : EvJ c e Γ μ (.dat d) μ := by
  intro X g φ π σ H s0 g0 Q q
  exact toE (he X) (q v π H (Nxt.refl s0) (h _ _))
theorem ev_int {i : Int} {j : Nat} : EvJ c (.Constant (.int i) j pos) Γ μ (.dat (.int i)) μ := ev_c (fun _ => pe_int) fun _ _ => .int i
theorem ev_bl {i : Bool} {j : Nat} : EvJ c (.Constant (.bool i) j pos) Γ μ (.dat (.bl i)) μ := ev_c (fun _ => pe_bl) fun _ _ => .bl i
theorem ev_str {i : Str} {j : Nat} : EvJ c (.Constant (.str i) j pos) Γ μ (.dat (.str i)) μ := ev_c (fun _ => pe_str) fun _ _ => .str i
theorem ev_non {j : Nat} : EvJ c (.Constant .none j pos) Γ μ (.dat .non) μ := ev_c (fun _ => pe_non) fun _ _ => .non
/-- a constant of the module -/
theorem ev_glob {x : Str} {u : Value} {v : V} (hg : c.sc.names.lookup x = some .globalImplicit) (hm : c.mg x = some u) (r : RelV v u) (h : ∀ H, Dt c.K H d v) (hdb : (x == ("__debug__" : Str)) = false := by decide) : EvJ c (.Name x pos) Γ μ (.dat d) μ := by
  intro X g φ π σ H s0 g0 Q q
  refine toE (pe_glob (show X.env.scope.names.lookup x = _ by rw [g.sc]; exact hg) (by rw [g.mg]; exact hm) r hdb) ?_
  exact q v π H (Nxt.refl s0) (by rw [g.K]; exact h _)
theorem ev_bin {op : Operator} (ha : EvJ c a Γ μ t1 μ1) (hb : EvJ c b Γ μ1 t2 μ2) (ho : R2J c (binaryOp op) t1 t2 μ2 t3 μ3) : EvJ c (.BinOp a op b pos) Γ μ t3 μ3 := by
  intro X g φ π σ H s0 g0 Q q
  obtain ⟨r, hr, ok⟩ := ho X g
  refine toE (pe_op hr pe_sem pe_sem) ?_
  refine ha X g φ π σ H s0 g0 _ fun x π1 H1 n1 k1 => ?_
  refine hb X g φ π1 σ H1 n1.ok (g0.nx n1) _ fun y π2 H2 n2 k2 => ?_
  exact ok φ π2 H2 x y n2.ok (k1.nx n2) k2 _ fun v π3 H3 n3 k3 => q v π3 H3 ((n1.trans n2).trans n3) k3
theorem ev_cmp {op : CmpOp} (ha : EvJ c a Γ μ t1 μ1) (hb : EvJ c b Γ μ1 t2 μ2) (ho : R2J c (compareOp op) t1 t2 μ2 t3 μ3) (hm : behindInMarks op b = false := by rfl) : EvJ c (.Compare a [op] [b] pos) Γ μ t3 μ3 := by
  intro X g φ π σ H s0 g0 Q q
  obtain ⟨r, hr, ok⟩ := ho X g
  refine toE (pe_cmpR hr pe_sem pe_sem hm) ?_
  refine ha X g φ π σ H s0 g0 _ fun x π1 H1 n1 k1 => ?_
  refine hb X g φ π1 σ H1 n1.ok (g0.nx n1) _ fun y π2 H2 n2 k2 => ?_
  exact ok φ π2 H2 x y n2.ok (k1.nx n2) k2 _ fun v π3 H3 n3 k3 => q v π3 H3 ((n1.trans n2).trans n3) k3
theorem tj_cmp {op : CmpOp} {r : Bool} (ha : EvJ c a Γ μ t1 μ1) (hb : EvJ c b Γ μ1 t2 μ2) (ho : R2J c (compareOp op) t1 t2 μ2 (.dat (.bl r)) μ3) (hm : behindInMarks op b = false := by rfl) : TJ c (.Compare a [op] [b] pos) Γ μ r μ3 := by
  intro X g φ π σ H s0 g0 Q q
  obtain ⟨rr, hr, ok⟩ := ho X g
  refine toT (pt_cmpR hr pe_sem pe_sem hm) ?_
  refine ha X g φ π σ H s0 g0 _ fun x π1 H1 n1 k1 => ?_
  refine hb X g φ π1 σ H1 n1.ok (g0.nx n1) _ fun y π2 H2 n2 k2 => ?_
  refine ok φ π2 H2 x y n2.ok (k1.nx n2) k2 _ fun v π3 H3 n3 k3 => ?_
  cases k3
  exact ⟨_, rfl, q π3 H3 ((n1.trans n2).trans n3)⟩
/-- a op1 b op2 c -/
theorem ev_chain {op op' : CmpOp} {cc : Expr} {r r' : Bool} (ha : EvJ c a Γ μ t1 μ) (hb : EvJ c b Γ μ t2 μ) (ho : R2J c (compareOp op) t1 t2 μ (.dat (.bl r)) μ)
    (hc : EvJ c cc Γ μ t3 μ) (h2 : R2J c (compareOp op') t2 t3 μ (.dat (.bl r')) μ) (hm : lastMarks [op, op'] [b, cc] = false := by rfl) :
    EvJ c (.Compare a [op, op'] [b, cc] pos) Γ μ (.dat (.bl (r && r'))) μ := by
  intro X g φ π σ H s0 g0 Q q
  obtain ⟨rr, hr, ok⟩ := ho X g
  obtain ⟨rr2, hr2, ok2⟩ := h2 X g
  refine toE (pe_chain hr hr2 pe_sem pe_sem pe_sem hm) ?_
  refine ha X g φ π σ H s0 g0 _ fun x π1 H1 n1 k1 => ?_
  refine hb X g φ π1 σ H1 n1.ok (g0.nx n1) _ fun y π2 H2 n2 k2 => ?_
  refine ok φ π2 H2 x y n2.ok (k1.nx n2) k2 _ fun v π3 H3 n3 k3 => ?_
  cases k3
  refine ⟨_, rfl, ?_⟩
  cases r with
  | true =>
    rw [if_pos rfl]
    refine hc X g φ π3 σ H3 n3.ok (((g0.nx n1).nx n2).nx n3) _ fun z π4 H4 n4 k4 => ?_
    exact ok2 φ π4 H4 y z n4.ok ((k2.nx n3).nx n4) k4 _ fun v π5 H5 n5 k5 => q v π5 H5 ((((n1.trans n2).trans n3).trans n4).trans n5) (by simpa using k5)
  | false =>
    rw [if_neg Bool.false_ne_true]
    exact q _ π3 H3 ((n1.trans n2).trans n3) (.bl false)
/-! ### tests -/
theorem tj_val {r : Bool} (he : EvJ c e Γ μ (.dat (.bl r)) μ1) (hp : ∀ env whole, isTrue e env whole = (do let v ← whole; standAt e.pos; holding [v] (truthy v)) := by intro _ _; rfl) : TJ c e Γ μ r μ1 := by
  intro X g φ π σ H s0 g0 Q q
  refine toT (pt_val pe_sem (hp X.env)) ?_
  refine he X g φ π σ H s0 g0 _ fun x π1 H1 n1 k1 => ?_
  cases k1
  exact ⟨_, rfl, q π1 H1 n1⟩
theorem tj_chain {op op' : CmpOp} {cc : Expr} {r r' : Bool} (ha : EvJ c a Γ μ t1 μ) (hb : EvJ c b Γ μ t2 μ) (ho : R2J c (compareOp op) t1 t2 μ (.dat (.bl r)) μ)
    (hc : EvJ c cc Γ μ t3 μ) (h2 : R2J c (compareOp op') t2 t3 μ (.dat (.bl r')) μ) (hm : lastMarks [op, op'] [b, cc] = false := by rfl) :
    TJ c (.Compare a [op, op'] [b, cc] pos) Γ μ (r && r') μ := by
  intro X g φ π σ H s0 g0 Q q
  obtain ⟨rr, hr, ok⟩ := ho X g
  obtain ⟨rr2, hr2, ok2⟩ := h2 X g
  refine toT (pt_chain hr hr2 pe_sem pe_sem pe_sem hm) ?_
  refine ha X g φ π σ H s0 g0 _ fun x π1 H1 n1 k1 => ?_
  refine hb X g φ π1 σ H1 n1.ok (g0.nx n1) _ fun y π2 H2 n2 k2 => ?_
  refine ok φ π2 H2 x y n2.ok (k1.nx n2) k2 _ fun v π3 H3 n3 k3 => ?_
  cases k3
  refine ⟨_, rfl, ?_⟩
  cases r with
  | true =>
    rw [if_pos rfl]
    refine hc X g φ π3 σ H3 n3.ok (((g0.nx n1).nx n2).nx n3) _ fun z π4 H4 n4 k4 => ?_
    refine ok2 φ π4 H4 y z n4.ok ((k2.nx n3).nx n4) k4 _ fun v π5 H5 n5 k5 => ?_
    cases k5
    exact ⟨_, rfl, q π5 H5 ((((n1.trans n2).trans n3).trans n4).trans n5)⟩
  | false =>
    rw [if_neg Bool.false_ne_true]
    exact ⟨_, rfl, q π3 H3 ((n1.trans n2).trans n3)⟩
theorem tj_not {r : Bool} (he : TJ c a Γ μ r μ1) : TJ c (.UnaryOp .Not a pos) Γ μ (!r) μ1 := by
  intro X g φ π σ H s0 g0 Q q
  refine toT (pt_not pt_sem) ?_
  exact he X g φ π σ H s0 g0 _ fun π1 H1 n1 => q π1 H1 n1
/-- a chain of and, or: whatever the whole is -/
def WJ (c : Ctx) (e : Expr) (Γ : List (Option T)) (μ : List M) (b : Bool) (μ' : List M) : Prop :=
  ∀ X, Good c X → ∃ t, PW X e t ∧ ∀ φ π σ H, SOk X.K φ π H μ → FOk X.K π (hd φ π μ H) Γ σ → ∀ Q : Bool → Hp → Prop, (∀ π' H', Nxt X.K φ π H μ π' H' μ' → Q b H') → t σ H Q
theorem WJ.tj {r : Bool} (h : WJ c e Γ μ r μ1) : TJ c e Γ μ r μ1 := by
  intro X g φ π σ H s0 g0 Q q
  obtain ⟨t, hw, ok⟩ := h X g
  exact toT hw.pt (ok φ π σ H s0 g0 Q q)
theorem wj_and1 {r : Bool} (h : TJ c a Γ μ r μ1) : WJ c (.BoolOp .And [a] pos) Γ μ r μ1 := fun X g => ⟨_, pw_and1 pt_sem, fun φ π σ H s0 g0 Q q => h X g φ π σ H s0 g0 Q q⟩
theorem wj_or1 {r : Bool} (h : TJ c a Γ μ r μ1) : WJ c (.BoolOp .Or [a] pos) Γ μ r μ1 := fun X g => ⟨_, pw_or1 pt_sem, fun φ π σ H s0 g0 Q q => h X g φ π σ H s0 g0 Q q⟩
def anyW (X : Cx) (e : Expr) : TT := fun σ H Q => ∀ whole pins s, Inv X pins σ H s → wpAny (model X.prog X.w) X.A (isTrue e X.env whole) (TP X pins σ Q) X.xe s
theorem pw_any {X : Cx} : PW X e (anyW X e) := ⟨fun whole pins s _ _ _ I h => h whole pins s I⟩
theorem wj_and {r r' : Bool} {rest : List Expr} (h : TJ c a Γ μ r μ) (h' : r = true → WJ c (.BoolOp .And (b :: rest) pos) Γ μ r' μ) : WJ c (.BoolOp .And (a :: b :: rest) pos) Γ μ (r && r') μ := fun X g => by
  refine ⟨_, pw_and pt_sem pw_any, fun φ π σ H s0 g0 Q q => ?_⟩
  refine h X g φ π σ H s0 g0 _ fun π1 H1 n1 => ?_
  cases r with
  | true =>
    rw [if_pos rfl]
    obtain ⟨t, hw, ok⟩ := h' rfl X g
    exact fun whole pins s I => hw.run whole pins s σ H1 Q I (ok φ π1 σ H1 n1.ok (g0.nx n1) Q fun π2 H2 n2 => q π2 H2 (n1.trans n2))
  | false =>
    rw [if_neg Bool.false_ne_true]
    exact q π1 H1 n1
theorem wj_or {r r' : Bool} {rest : List Expr} (h : TJ c a Γ μ r μ) (h' : r = false → WJ c (.BoolOp .Or (b :: rest) pos) Γ μ r' μ) : WJ c (.BoolOp .Or (a :: b :: rest) pos) Γ μ (r || r') μ := fun X g => by
  refine ⟨_, pw_or pt_sem pw_any, fun φ π σ H s0 g0 Q q => ?_⟩
  refine h X g φ π σ H s0 g0 _ fun π1 H1 n1 => ?_
  cases r with
  | false =>
    rw [if_neg Bool.false_ne_true]
    obtain ⟨t, hw, ok⟩ := h' rfl X g
    exact fun whole pins s I => hw.run whole pins s σ H1 Q I (ok φ π1 σ H1 n1.ok (g0.nx n1) Q fun π2 H2 n2 => q π2 H2 (n1.trans n2))
  | true =>
    rw [if_pos rfl]
    exact q π1 H1 n1
/-! .. as values -/
theorem ev_bool1 {op : BoolOp} (h : EvJ c a Γ μ t μ1) : EvJ c (.BoolOp op [a] pos) Γ μ t μ1 := by
  intro X g φ π σ H s0 g0 Q q
  exact toE (pe_one pe_sem) (h X g φ π σ H s0 g0 Q q)
theorem ev_and {r r' : Bool} {rest : List Expr} (h : EvJ c a Γ μ (.dat (.bl r)) μ) (h' : r = true → EvJ c (.BoolOp .And (b :: rest) pos) Γ μ (.dat (.bl r')) μ) : EvJ c (.BoolOp .And (a :: b :: rest) pos) Γ μ (.dat (.bl (r && r'))) μ := by
  intro X g φ π σ H s0 g0 Q q
  refine toE (pe_and pe_sem pe_sem) ?_
  refine h X g φ π σ H s0 g0 _ fun v π1 H1 n1 k1 => ?_
  cases k1
  refine ⟨_, rfl, ?_⟩
  cases r with
  | true =>
    rw [if_pos rfl]
    exact h' rfl X g φ π1 σ H1 n1.ok (g0.nx n1) Q fun v π2 H2 n2 k2 => q v π2 H2 (n1.trans n2) k2
  | false =>
    rw [if_neg Bool.false_ne_true]
    exact q _ π1 H1 n1 (.bl false)
theorem ev_or {r r' : Bool} {rest : List Expr} (h : EvJ c a Γ μ (.dat (.bl r)) μ) (h' : r = false → EvJ c (.BoolOp .Or (b :: rest) pos) Γ μ (.dat (.bl r')) μ) : EvJ c (.BoolOp .Or (a :: b :: rest) pos) Γ μ (.dat (.bl (r || r'))) μ := by
  intro X g φ π σ H s0 g0 Q q
  refine toE (pe_or pe_sem pe_sem) ?_
  refine h X g φ π σ H s0 g0 _ fun v π1 H1 n1 k1 => ?_
  cases k1
  refine ⟨_, rfl, ?_⟩
  cases r with
  | false =>
    rw [if_neg Bool.false_ne_true]
    exact h' rfl X g φ π1 σ H1 n1.ok (g0.nx n1) Q fun v π2 H2 n2 k2 => q v π2 H2 (n1.trans n2) k2
  | true =>
    rw [if_pos rfl]
    exact q _ π1 H1 n1 (.bl true)
theorem ev_not {r : Bool} (h : EvJ c a Γ μ (.dat (.bl r)) μ1) : EvJ c (.UnaryOp .Not a pos) Γ μ (.dat (.bl (!r))) μ1 := by
  intro X g φ π σ H s0 g0 Q q
  refine toE (pe_not pe_sem) ?_
  refine h X g φ π σ H s0 g0 _ fun v π1 H1 n1 k1 => ?_
  cases k1
  exact ⟨_, rfl, q _ π1 H1 n1 (.bl _)⟩
theorem ev_if {r : Bool} {x : Expr} (h : TJ c x Γ μ r μ1) (h1 : r = true → EvJ c a Γ μ1 t μ2) (h2 : r = false → EvJ c b Γ μ1 t μ2) : EvJ c (.IfExp x a b pos) Γ μ t μ2 := by
  intro X g φ π σ H s0 g0 Q q
  refine toE (pe_ifExp pt_sem pe_sem pe_sem) ?_
  refine h X g φ π σ H s0 g0 _ fun π1 H1 n1 => ?_
  cases r with
  | true =>
    rw [if_pos rfl]
    exact h1 rfl X g φ π1 σ H1 n1.ok (g0.nx n1) Q fun v π2 H2 n2 k2 => q v π2 H2 (n1.trans n2) k2
  | false =>
    rw [if_neg Bool.false_ne_true]
    exact h2 rfl X g φ π1 σ H1 n1.ok (g0.nx n1) Q fun v π2 H2 n2 k2 => q v π2 H2 (n1.trans n2) k2
/-! ### arguments, displays -/
def isStar : Expr → Bool
  | .Starred _ _ => true
  | _ => false
theorem star_cons (h : isStar e = false) (env : Env) : starEach (e :: es) env = (false, eval e env) :: starEach es env := by
  cases e <;> first | rfl | cases h
theorem no_star (h : es.all (fun e => !isStar e) = true) (env : Env) (pos : Pos) : (backTo pos (starEach es env)).any (·.1) = false := by
  induction es with
  | nil => rfl
  | cons e r ih =>
    simp only [List.all_cons, Bool.and_eq_true, Bool.not_eq_true'] at h
    rw [star_cons h.1]
    have := ih h.2
    simp only [backTo, List.map_cons, List.any_cons] at this ⊢
    rw [this]; rfl
theorem aj_nil : AJ c [] Γ μ [] μ := by
  intro X g φ π σ H s0 g0 Q q
  exact toA pa_nil (q [] π H (Nxt.refl s0) .nil)
theorem aj_cons {ts : List T} (h : EvJ c e Γ μ t μ1) (h' : AJ c es Γ μ1 ts μ2) (hs : isStar e = false := by rfl) : AJ c (e :: es) Γ μ (t :: ts) μ2 := by
  intro X g φ π σ H s0 g0 Q q
  refine toA (pa_cons pe_sem pa_sem (star_cons hs _)) ?_
  refine h X g φ π σ H s0 g0 _ fun v π1 H1 n1 k1 => ?_
  exact h' X g φ π1 σ H1 n1.ok (g0.nx n1) _ fun vs π2 H2 n2 k2 => q _ π2 H2 (n1.trans n2) (.cons (k1.nx n2) k2)
def dats (ds : List D) : List T := ds.map T.dat
theorem TL.len {K : PySem.W.Frag} {π : List Addr} {Hd : Hp} {ts : List T} {vs : List V} (h : TL K π Hd ts vs) : ts.length = vs.length := by
  induction h with
  | nil => rfl
  | cons _ _ ih => simp [ih]
theorem TL.dt {K : PySem.W.Frag} {π : List Addr} {Hd : Hp} : ∀ {ds : List D} {vs : List V}, TL K π Hd (dats ds) vs → DtL K Hd ds vs
  | [], _, h => by cases h; exact .nil
  | d :: ds, _, h => by
    cases h with
    | cons q t => exact .cons q (TL.dt t)
theorem DtL.tl {K : PySem.W.Frag} {π : List Addr} {Hd : Hp} {ds : List D} {vs : List V} (h : DtL K Hd ds vs) : TL K π Hd (dats ds) vs := by
  cases h with
  | nil => exact .nil
  | cons q t => exact .cons q t.tl
/-- (a, b, ..) -/
theorem ev_tup {x1 : Nat} {ds : List D} {ts : List T} (h : AJ c es Γ μ ts μ1) (hd' : ts = dats ds) (hl : ds.length ≤ 1000000 := by decide) : EvJ c (.Tuple es x1 pos) Γ μ (.dat (.tup ds)) μ1 := by
  subst hd'
  intro X g φ π σ H s0 g0 Q q
  refine toE (pe_tup pa_sem) ?_
  refine h X g φ π σ H s0 g0 _ fun vs π1 H1 n1 k1 => ?_
  have hl' : vs.length ≤ sizeLine := by
    have := k1.len; simp [dats] at this; rw [← this]; exact Nat.le_trans hl (by decide)
  refine ⟨hl', fun p np => ?_⟩
  obtain ⟨n2, at2⟩ := n1.ok.newData (o := .tup vs) np
  exact q _ π1 _ (n1.trans n2) (.tup (SqT.of at2) (DtL.mono n2.le k1.dt))
theorem ev_lst {ds : List D} {ts : List T} (h : AJ c es Γ μ ts μ1) (hd' : ts = dats ds) (hl : ds.length ≤ 1000000 := by decide) : EvJ c (.List es pos) Γ μ (.dat (.lst ds)) μ1 := by
  subst hd'
  intro X g φ π σ H s0 g0 Q q
  refine toE (pe_lst pa_sem) ?_
  refine h X g φ π σ H s0 g0 _ fun vs π1 H1 n1 k1 => ?_
  have hl' : vs.length ≤ sizeLine := by
    have := k1.len; simp [dats] at this; rw [← this]; exact Nat.le_trans hl (by decide)
  refine ⟨hl', fun p np => ?_⟩
  obtain ⟨n2, at2⟩ := n1.ok.newData (o := .lst vs) np
  exact q _ π1 _ (n1.trans n2) (.lst (SqL.of at2) (DtL.mono n2.le k1.dt))
end
end EN
/-! Operations on values, subscripts, calls of what is built in. -/
namespace EN
open PySem PySem.Spec PyProof.Rows L2

abbrev T.int (i : Int) : T := .dat (.int i)
abbrev T.bl (b : Bool) : T := .dat (.bl b)
abbrev T.str (x : Str) : T := .dat (.str x)
abbrev T.non : T := .dat .non

section
variable {c : Ctx} {a b e : Expr} {es : List Expr} {Γ : List (Option T)} {μ μ1 μ2 μ3 : List M} {t t1 t2 t3 : T} {pos : Pos} {d : D} {f : Value → Value → Sem Value}
theorem r2_I0 {g : Int → Int → V} {i j : Int} (h : ∀ X, Good c X → OpR X f (rI0 g)) (hd' : ∀ H, Dt c.K H d (g i j)) : R2J c f (.int i) (.int j) μ (.dat d) μ := fun X gX =>
  ⟨_, h X gX, fun φ π H x y s0 h1 h2 Q q => by cases h1; cases h2; exact ⟨i, j, rfl, rfl, q _ π H (Nxt.refl s0) (by rw [gX.K]; exact hd' _)⟩⟩
theorem r2_I {C : Int → Int → Prop} {g : Int → Int → V} {i j : Int} (h : ∀ X, Good c X → OpR X f (rI C g)) (hc : C i j) (hd' : ∀ H, Dt c.K H d (g i j)) : R2J c f (.int i) (.int j) μ (.dat d) μ := fun X gX =>
  ⟨_, h X gX, fun φ π H x y s0 h1 h2 Q q => by cases h1; cases h2; exact ⟨i, j, rfl, rfl, hc, q _ π H (Nxt.refl s0) (by rw [gX.K]; exact hd' _)⟩⟩
theorem o_addI {i j : Int} : R2J c (binaryOp .Add) (.int i) (.int j) μ (.int (i + j)) μ := r2_I0 (fun _ _ => op_add) fun _ => .int _
theorem o_subI {i j : Int} : R2J c (binaryOp .Sub) (.int i) (.int j) μ (.int (i - j)) μ := r2_I0 (fun _ _ => op_sub) fun _ => .int _
theorem o_mulI {i j : Int} (h : CMul i j) : R2J c (binaryOp .Mult) (.int i) (.int j) μ (.int (i * j)) μ := r2_I (fun _ _ => op_mul) h fun _ => .int _
theorem o_divI {i j : Int} (h : CDiv i j) : R2J c (binaryOp .FloorDiv) (.int i) (.int j) μ (.int (i / j)) μ := r2_I (fun _ _ => op_fdiv) h fun _ => .int _
theorem o_modI {i j : Int} (h : 0 < j) : R2J c (binaryOp .Mod) (.int i) (.int j) μ (.int (i % j)) μ := r2_I (fun _ _ => op_mod) h fun _ => .int _
theorem o_powI {i j : Int} (h : CPow i j) : R2J c (binaryOp .Pow) (.int i) (.int j) μ (.int (i ^ j.toNat)) μ := r2_I (fun _ _ => op_pow) h fun _ => .int _
theorem o_ltI {i j : Int} : R2J c (compareOp .Lt) (.int i) (.int j) μ (.bl (decide (i < j))) μ := r2_I0 (fun _ _ => op_lt) fun _ => .bl _
theorem o_leI {i j : Int} : R2J c (compareOp .LtE) (.int i) (.int j) μ (.bl (decide (i ≤ j))) μ := r2_I0 (fun _ _ => op_le) fun _ => .bl _
theorem o_gtI {i j : Int} : R2J c (compareOp .Gt) (.int i) (.int j) μ (.bl (decide (j < i))) μ := r2_I0 (fun _ _ => op_gt) fun _ => .bl _
theorem o_geI {i j : Int} : R2J c (compareOp .GtE) (.int i) (.int j) μ (.bl (decide (j ≤ i))) μ := r2_I0 (fun _ _ => op_ge) fun _ => .bl _
/-! == of scalars -/
def scD : D → D → Bool
  | .non, .non => true | .non, .int _ => true | .int _, .non => true | .non, .bl _ => true | .bl _, .non => true | .non, .str _ => true | .str _, .non => true
  | .int _, .int _ => true | .bl _, .bl _ => true | .str _, .str _ => true
  | .int _, .str _ => true | .str _, .int _ => true | .bl _, .str _ => true | .str _, .bl _ => true
  | _, _ => false
def eqS : D → D → Bool
  | .non, .non => true
  | .int i, .int j => decide (i = j)
  | .bl i, .bl j => decide (i = j)
  | .str i, .str j => decide (i = j)
  | _, _ => false
theorem sc_ok {K : PySem.W.Frag} {H : Hp} {d e : D} {x y : V} (h : scD d e = true) (h1 : Dt K H d x) (h2 : Dt K H e y) : scal x y = true ∧ decide (x = y) = eqS d e := by
  cases h1 <;> cases h2 <;> first | (cases h; done) | (refine ⟨rfl, ?_⟩; simp [eqS])
theorem o_eqS {d e : D} (h : scD d e = true) : R2J c (compareOp .Eq) (.dat d) (.dat e) μ (.bl (eqS d e)) μ := fun X gX =>
  ⟨_, op_eq, fun φ π H x y s0 h1 h2 Q q => by
    obtain ⟨q1, q2⟩ := sc_ok h h1 h2
    exact ⟨q1, q _ π H (Nxt.refl s0) (by rw [q2]; exact .bl _)⟩⟩
theorem o_neS {d e : D} (h : scD d e = true) : R2J c (compareOp .NotEq) (.dat d) (.dat e) μ (.bl (!eqS d e)) μ := fun X gX =>
  ⟨_, op_ne, fun φ π H x y s0 h1 h2 Q q => by
    obtain ⟨q1, q2⟩ := sc_ok h h1 h2
    exact ⟨q1, q _ π H (Nxt.refl s0) (by rw [q2]; exact .bl _)⟩⟩
/-! == of data -/
mutual
def D.p : D → PyData
  | .non => .none
  | .bl b => .bool b
  | .int i => .int i
  | .str x => .str x
  | .lst xs => .list (D.pL xs)
  | .tup xs => .tuple (D.pL xs)
  | .dic _ => .dict []
  | .ins _ _ => .dict []
  | .fn _ => .dict []
def D.pL : List D → List PyData
  | [] => []
  | x :: xs => D.p x :: D.pL xs
end
theorem D.pL_map : ∀ ds : List D, D.pL ds = ds.map D.p
  | [] => rfl
  | _ :: r => by simp [D.pL, D.pL_map r]
mutual
theorem dp_of {K : PySem.W.Frag} {H : Hp} : ∀ {d : D} {v : V}, Dt K H d v → SeqAt.shaped (D.p d) = true → Dp K H v (D.p d)
  | _, _, .non, _ => .non
  | _, _, .bl b, _ => .bl b
  | _, _, .int b, _ => .int b
  | _, _, .str b, _ => .str b
  | _, _, .lst (ds := ds) s l, h => .lst s (dpL_of l (by
      simp only [D.p, SeqAt.shaped, PyData.canLay0, PyData.depth, Bool.and_eq_true, decide_eq_true_eq] at h
      exact ⟨h.1, by omega⟩))
  | _, _, .tup (ds := ds) s l, h => .tup s (dpL_of l (by
      simp only [D.p, SeqAt.shaped, PyData.canLay0, PyData.depth, Bool.and_eq_true, decide_eq_true_eq] at h
      exact ⟨h.1, by omega⟩))
  | _, _, .dic _ _, h => by simp [D.p, SeqAt.shaped, PyData.canLay0] at h
  | _, _, .ins _ _, h => by simp [D.p, SeqAt.shaped, PyData.canLay0] at h
  | _, _, .fn _, h => by simp [D.p, SeqAt.shaped, PyData.canLay0] at h
theorem dpL_of {K : PySem.W.Frag} {H : Hp} : ∀ {d : List D} {v : List V}, DtL K H d v → (PyData.canLayAll0 (D.pL d) = true ∧ PyData.depthAll (D.pL d) ≤ 64) → DpAll K H v (D.pL d)
  | _, _, .nil, _ => .nil
  | _, _, .cons q t, h => by
    simp only [D.pL, PyData.canLayAll0, PyData.depthAll, Bool.and_eq_true] at h
    exact .cons (dp_of q (by simp only [SeqAt.shaped, Bool.and_eq_true, decide_eq_true_eq]; exact ⟨h.1.1, by omega⟩)) (dpL_of t ⟨h.1.2, by omega⟩)
end
def shD (d : D) : Prop := SeqAt.shaped (D.p d) = true
theorem o_eqD {d e : D} (h : shD d) (h' : shD e) : R2J c (compareOp .Eq) (.dat d) (.dat e) μ (.bl (PyData.eqv d.p e.p)) μ := fun X gX =>
  ⟨_, op_eqD gX.room.units, fun φ π H x y s0 h1 h2 Q q => ⟨d.p, e.p, dp_of (Dt.mono (hd_le _ _ _ _) h1) h, dp_of (Dt.mono (hd_le _ _ _ _) h2) h', h, h', q _ π H (Nxt.refl s0) (.bl _)⟩⟩
theorem o_neD {d e : D} (h : shD d) (h' : shD e) : R2J c (compareOp .NotEq) (.dat d) (.dat e) μ (.bl (!PyData.eqv d.p e.p)) μ := fun X gX =>
  ⟨_, op_neD gX.room.units, fun φ π H x y s0 h1 h2 Q q => ⟨d.p, e.p, dp_of (Dt.mono (hd_le _ _ _ _) h1) h, dp_of (Dt.mono (hd_le _ _ _ _) h2) h', h, h', q _ π H (Nxt.refl s0) (.bl _)⟩⟩
/-! texts -/
theorem o_addS {x y : Str} (h : x.length + y.length ≤ sizeLine) : R2J c (binaryOp .Add) (.str x) (.str y) μ (.str (x ++ y)) μ := fun X gX =>
  ⟨_, op_add_str, fun φ π H v w s0 h1 h2 Q q => by cases h1; cases h2; exact ⟨x, y, rfl, rfl, h, q _ π H (Nxt.refl s0) (.str _)⟩⟩
theorem o_inSign {k : Nat} {z : Str} : R2J c (compareOp .In) (.str ⟨#[k]⟩) (.str z) μ (.bl (decide (k ∈ z.cps.toList))) μ := fun X gX =>
  ⟨_, op_in_sign, fun φ π H v w s0 h1 h2 Q q => by cases h1; cases h2; exact ⟨k, z, rfl, rfl, q _ π H (Nxt.refl s0) (.bl _)⟩⟩
theorem o_notInSign {k : Nat} {z : Str} : R2J c (compareOp .NotIn) (.str ⟨#[k]⟩) (.str z) μ (.bl (!decide (k ∈ z.cps.toList))) μ := fun X gX =>
  ⟨_, op_notIn_sign, fun φ π H v w s0 h1 h2 Q q => by cases h1; cases h2; exact ⟨k, z, rfl, rfl, q _ π H (Nxt.refl s0) (.bl _)⟩⟩
theorem o_ltS {x y : Str} : R2J c (compareOp .Lt) (.str x) (.str y) μ (.bl (decide (x.cps.toList < y.cps.toList))) μ := fun X gX =>
  ⟨_, op_lt_str, fun φ π H v w s0 h1 h2 Q q => by cases h1; cases h2; exact ⟨x, y, rfl, rfl, q _ π H (Nxt.refl s0) (.bl _)⟩⟩
theorem o_leS {x y : Str} : R2J c (compareOp .LtE) (.str x) (.str y) μ (.bl (!decide (y.cps.toList < x.cps.toList))) μ := fun X gX =>
  ⟨_, op_le_str, fun φ π H v w s0 h1 h2 Q q => by cases h1; cases h2; exact ⟨x, y, rfl, rfl, q _ π H (Nxt.refl s0) (.bl _)⟩⟩
/-! x in a list, a tuple of flat things -/
def flD : D → Bool
  | .non => true | .bl _ => true | .int _ => true | .str _ => true
  | _ => false
/-- == of flat data, as Python has it -/
def eqF : D → D → Bool
  | .non, .non => true
  | .bl a, .bl b => a == b
  | .bl a, .int b => (if a then 1 else 0) == b
  | .int a, .bl b => a == (if b then 1 else 0)
  | .int a, .int b => a == b
  | .str a, .str b => a == b
  | _, _ => false
def inF (x : D) (xs : List D) : Bool := xs.any fun y => eqF y x
theorem fl_ok {K : PySem.W.Frag} {H : Hp} {d : D} {x : V} (h : flD d = true) (h1 : Dt K H d x) : flatV x = true := by
  cases h1 <;> first | rfl | cases h
theorem eqF_ok {K : PySem.W.Frag} {H : Hp} {d e : D} {x y : V} (h : flD d = true) (h' : flD e = true) (h1 : Dt K H d x) (h2 : Dt K H e y) : eqV x y = eqF d e := by
  cases h1 <;> first | (cases h; done) | (cases h2 <;> first | (cases h'; done) | rfl)
theorem flL_ok {K : PySem.W.Frag} {H : Hp} {d : D} {x : V} (h : flD d = true) (h1 : Dt K H d x) : ∀ {ds : List D} {vs : List V}, DtL K H ds vs → ds.all flD = true → vs.all flatV = true ∧ inV x vs = inF d ds
  | _, _, .nil, _ => ⟨rfl, rfl⟩
  | _, _, .cons q t, hh => by
    simp only [List.all_cons, Bool.and_eq_true] at hh
    obtain ⟨i1, i2⟩ := flL_ok h h1 t hh.2
    unfold inV inF at i2 ⊢
    simp only [List.all_cons, List.any_cons, i1, i2, fl_ok hh.1 q, eqF_ok hh.1 h q h1, Bool.and_self, and_self]
theorem o_inT {d : D} {ds : List D} (h : flD d = true) (h' : ds.all flD = true) : R2J c (compareOp .In) (.dat d) (.dat (.tup ds)) μ (.bl (inF d ds)) μ := fun X gX =>
  ⟨_, op_in_seq, fun φ π H v w s0 h1 h2 Q q => by
    cases h2 with
    | tup s l =>
      obtain ⟨q1, q2⟩ := flL_ok h h1 l h'
      refine ⟨_, _, rfl, .inr ((hd_le _ _ _ _ : Ex _ _).sqT s), fl_ok h h1, q1, ?_⟩
      rw [if_neg Bool.false_ne_true, q2]
      exact q _ π H (Nxt.refl s0) (.bl _)⟩
theorem o_notInT {d : D} {ds : List D} (h : flD d = true) (h' : ds.all flD = true) : R2J c (compareOp .NotIn) (.dat d) (.dat (.tup ds)) μ (.bl (!inF d ds)) μ := fun X gX =>
  ⟨_, op_notIn_seq, fun φ π H v w s0 h1 h2 Q q => by
    cases h2 with
    | tup s l =>
      obtain ⟨q1, q2⟩ := flL_ok h h1 l h'
      refine ⟨_, _, rfl, .inr ((hd_le _ _ _ _ : Ex _ _).sqT s), fl_ok h h1, q1, ?_⟩
      rw [if_pos rfl, q2]
      exact q _ π H (Nxt.refl s0) (.bl _)⟩
theorem o_inL {d : D} {ds : List D} (h : flD d = true) (h' : ds.all flD = true) : R2J c (compareOp .In) (.dat d) (.dat (.lst ds)) μ (.bl (inF d ds)) μ := fun X gX =>
  ⟨_, op_in_seq, fun φ π H v w s0 h1 h2 Q q => by
    cases h2 with
    | lst s l =>
      obtain ⟨q1, q2⟩ := flL_ok h h1 l h'
      refine ⟨_, _, rfl, .inl ((hd_le _ _ _ _ : Ex _ _).sqL s), fl_ok h h1, q1, ?_⟩
      rw [if_neg Bool.false_ne_true, q2]
      exact q _ π H (Nxt.refl s0) (.bl _)⟩
theorem o_notInL {d : D} {ds : List D} (h : flD d = true) (h' : ds.all flD = true) : R2J c (compareOp .NotIn) (.dat d) (.dat (.lst ds)) μ (.bl (!inF d ds)) μ := fun X gX =>
  ⟨_, op_notIn_seq, fun φ π H v w s0 h1 h2 Q q => by
    cases h2 with
    | lst s l =>
      obtain ⟨q1, q2⟩ := flL_ok h h1 l h'
      refine ⟨_, _, rfl, .inl ((hd_le _ _ _ _ : Ex _ _).sqL s), fl_ok h h1, q1, ?_⟩
      rw [if_pos rfl, q2]
      exact q _ π H (Nxt.refl s0) (.bl _)⟩
/-! is None -/
def isN : D → Bool
  | .non => true
  | _ => false
theorem isN_ok {K : PySem.W.Frag} {H : Hp} {d : D} {x : V} (h1 : Dt K H d x) : decide (x = .non) = isN d := by cases h1 <;> simp [isN]
theorem o_isN {d : D} : R2J c (compareOp .Is) (.dat d) .non μ (.bl (isN d)) μ := fun X gX =>
  ⟨_, op_isN, fun φ π H v w s0 h1 h2 Q q => by cases h2; exact ⟨rfl, q _ π H (Nxt.refl s0) (by rw [isN_ok h1]; exact .bl _)⟩⟩
theorem o_notN {d : D} : R2J c (compareOp .IsNot) (.dat d) .non μ (.bl (!isN d)) μ := fun X gX =>
  ⟨_, op_notN, fun φ π H v w s0 h1 h2 Q q => by cases h2; exact ⟨rfl, q _ π H (Nxt.refl s0) (by rw [isN_ok h1]; exact .bl _)⟩⟩
end

/-! ### list + list, whoever reads them -/
def rCatR (K : PySem.W.Frag) : R2 := fun x y H Q => ∃ l b xs zs, x = .ref l ∧ y = .ref b ∧ SqL K H l xs ∧ SqL K H b zs ∧ xs.length + zs.length ≤ sizeLine ∧ ∀ p, H p = none → Q (.ref p) (upd H p (.lst (xs ++ zs)))
theorem op_catR {X : Cx} : OpR X (binaryOp .Add) (rCatR X.K) := by
  intro pins s σ H x y v u Q I rx ry h
  obtain ⟨l, b, xs, zs, rfl, rfl, hH, hB, hz, q⟩ := h
  cases rx
  cases ry
  obtain ⟨its, r, p1, z1⟩ := I.list hH
  obtain ⟨its2, r2, p2, z2⟩ := I.list hB
  have hl := r.length
  have hl2 := r2.length
  obtain ⟨⟨cls, dd, data, sl⟩, n, ho, hc, hdi, hd⟩ := id p1
  obtain ⟨⟨cls2, dd2, data2, sl2⟩, n2, ho2, hc2, hdi2, hd2⟩ := id p2
  simp only at hc hd hc2 hd2
  subst hc hd hc2 hd2
  have e : its.toArray ++ its2.toArray = (its ++ its2).toArray := by simp
  refine concat_meets ⟨_, ho, rfl⟩ ⟨_, ho2, rfl⟩ noFill_list_add seq_list_add PySem.F.slot_list_add PySem.F.entry_list_add (PySem.F.args_list_add_2 _ _) (list_addW l b its.toArray its2.toArray n n2 dd dd2 sl sl2 (by simp only [List.size_toArray]; omega)) ⟨ho, ho2, ?_⟩
  rw [e]
  exact ⟨.ref _, _, I.lnew (t' := s.toks) (r.append r2) (by rw [List.length_append]; omega), rfl, q _ I.fresh⟩
section
variable {c : Ctx} {a b e : Expr} {es : List Expr} {Γ : List (Option T)} {μ μ1 μ2 μ3 : List M} {t t1 t2 t3 : T} {pos : Pos} {d : D} {f : Value → Value → Sem Value}
theorem o_catL {ds es : List D} (h : ds.length + es.length ≤ sizeLine) : R2J c (binaryOp .Add) (.dat (.lst ds)) (.dat (.lst es)) μ (.dat (.lst (ds ++ es))) μ := fun X gX =>
  ⟨_, op_catR, fun φ π H v w s0 h1 h2 Q q => by
    cases h1 with
    | lst s1 l1 =>
      cases h2 with
      | lst s2 l2 =>
        refine ⟨_, _, _, _, rfl, rfl, (hd_le _ _ _ _ : Ex _ _).sqL s1, (hd_le _ _ _ _ : Ex _ _).sqL s2, by rw [← l1.len, ← l2.len]; exact h, fun p np => ?_⟩
        obtain ⟨n1, at1⟩ := s0.newData np
        exact q _ π _ n1 (.lst (SqL.of at1) (DtL.mono n1.le (l1.append l2)))⟩
/-! ### subscripts -/
def I2J (c : Ctx) (t1 t2 : T) (μ : List M) (t : T) (μ' : List M) : Prop :=
  ∀ X, Good c X → ∃ r : R2, IxR X r ∧ ∀ φ π H x y, SOk X.K φ π H μ → TOk X.K π (hd φ π μ H) t1 x → TOk X.K π (hd φ π μ H) t2 y → ∀ Q, Pst X.K φ π H μ t μ' Q → r x y H Q
theorem ev_ix (ha : EvJ c a Γ μ t1 μ1) (hb : EvJ c b Γ μ1 t2 μ2) (ho : I2J c t1 t2 μ2 t3 μ3) (hp : PlainIx b := by intro _ _; rfl) : EvJ c (.Subscript a b pos) Γ μ t3 μ3 := by
  intro X g φ π σ H s0 g0 Q q
  obtain ⟨r, hr, ok⟩ := ho X g
  refine toE (pe_ix hr pe_sem pe_sem hp) ?_
  refine ha X g φ π σ H s0 g0 _ fun x π1 H1 n1 k1 => ?_
  refine hb X g φ π1 σ H1 n1.ok (g0.nx n1) _ fun y π2 H2 n2 k2 => ?_
  exact ok φ π2 H2 x y n2.ok (k1.nx n2) k2 _ fun v π3 H3 n3 k3 => q v π3 H3 ((n1.trans n2).trans n3) k3
theorem atI_dt {K : PySem.W.Frag} {H : Hp} {ds : List D} {vs : List V} {i : Int} {x : D} (h : DtL K H ds vs) (e : atI ds i = some x) : ∃ y, atI vs i = some y ∧ Dt K H x y := by
  unfold atI at e ⊢
  rw [← h.len]
  cases q : ixN ds.length i with
  | none => rw [q] at e; cases e
  | some j =>
    rw [q] at e
    exact h.get e
theorem x_lst {ds : List D} {i : Int} (h : atI ds i = some d) : I2J c (.dat (.lst ds)) (.int i) μ (.dat d) μ := fun X gX =>
  ⟨_, ix_list, fun φ π H v w s0 h1 h2 Q q => by
    cases h2
    cases h1 with
    | lst s l =>
      obtain ⟨y, e, k⟩ := atI_dt l h
      exact ⟨_, _, _, _, rfl, rfl, (hd_le _ _ _ _ : Ex _ _).sqL s, e, q _ π H (Nxt.refl s0) k⟩⟩
theorem x_tup {ds : List D} {i : Int} (h : atI ds i = some d) : I2J c (.dat (.tup ds)) (.int i) μ (.dat d) μ := fun X gX =>
  ⟨_, ix_tup, fun φ π H v w s0 h1 h2 Q q => by
    cases h2
    cases h1 with
    | tup s l =>
      obtain ⟨y, e, k⟩ := atI_dt l h
      exact ⟨_, _, _, _, rfl, rfl, (hd_le _ _ _ _ : Ex _ _).sqT s, e, q _ π H (Nxt.refl s0) k⟩⟩
theorem x_str {z : Str} {i : Int} {k : Nat} (hl : z.length ≤ sizeLine) (h : atI z.cps.toList i = some k) : I2J c (.str z) (.int i) μ (.str ⟨#[k]⟩) μ := fun X gX =>
  ⟨_, ix_str, fun φ π H v w s0 h1 h2 Q q => by
    cases h2
    cases h1
    exact ⟨_, _, _, rfl, rfl, hl, h, q _ π H (Nxt.refl s0) (.str _)⟩⟩
theorem atI_some {α : Type} {xs : List α} {i : Int} (h0 : 0 ≤ i) (h1 : i < xs.length) : atI xs i = some (xs[i.toNat]'(by omega)) := by
  have e : i = ((i.toNat : Nat) : Int) := by omega
  have q : atI xs ((i.toNat : Nat) : Int) = some (xs[i.toNat]'(by omega)) := atI_nat (by simp)
  rw [← e] at q
  exact q
theorem atI_last1 {α : Type} {xs : List α} {x : α} (h : xs.getLast? = some x) : atI xs (-1) = some x := by
  unfold atI ixN
  have : xs ≠ [] := by rintro rfl; simp at h
  have hl : 0 < xs.length := List.length_pos_iff.mpr this
  rw [if_neg (by omega), if_pos (by omega)]
  simp only [Option.bind_some]
  rw [List.getLast?_eq_getElem?] at h
  have : (-1 + (xs.length : Int)).toNat = xs.length - 1 := by omega
  rw [this]; exact h
/-! slices -/
def OJ (c : Ctx) (e : Option Expr) (Γ : List (Option T)) (μ : List M) (o : Option Int) : Prop :=
  ∀ X, Good c X → ∃ t, PO X e t ∧ ∀ φ π σ H, SOk X.K φ π H μ → FOk X.K π (hd φ π μ H) Γ σ → ∀ Q : Option Int → Hp → Prop, (∀ π' H', Nxt X.K φ π H μ π' H' μ → Q o H') → t σ H Q
theorem oj_none : OJ c none Γ μ none := fun X g => ⟨_, po_none, fun φ π σ H s0 _ Q q => q π H (Nxt.refl s0)⟩
theorem oj_some {i : Int} (h : EvJ c e Γ μ (.int i) μ) : OJ c (some e) Γ μ (some i) := fun X g => ⟨_, po_some pe_sem, fun φ π σ H s0 g0 Q q => h X g φ π σ H s0 g0 _ fun v π1 H1 n1 k1 => by
  cases k1
  exact ⟨i, rfl, q π1 H1 n1⟩⟩
def S3J (c : Ctx) (t1 : T) (lo hi : Option Int) (μ : List M) (t : T) (μ' : List M) : Prop :=
  ∀ X, Good c X → ∃ r, SlR X r ∧ ∀ φ π H x, SOk X.K φ π H μ → TOk X.K π (hd φ π μ H) t1 x → ∀ Q, Pst X.K φ π H μ t μ' Q → r x lo hi H Q
theorem ev_slice {lo hi : Option Expr} {l h : Option Int} {p2 : Pos} (ha : EvJ c a Γ μ t1 μ1) (h1 : OJ c lo Γ μ1 l) (h2 : OJ c hi Γ μ1 h) (ho : S3J c t1 l h μ1 t2 μ2) : EvJ c (.Subscript a (.Slice lo hi none p2) pos) Γ μ t2 μ2 := by
  intro X g φ π σ H s0 g0 Q q
  obtain ⟨r, hr, ok⟩ := ho X g
  obtain ⟨tl, hl, okl⟩ := h1 X g
  obtain ⟨th, hh, okh⟩ := h2 X g
  refine toE (pe_slice hr pe_sem hl hh) ?_
  refine ha X g φ π σ H s0 g0 _ fun x π1 H1 n1 k1 => ?_
  refine okl φ π1 σ H1 n1.ok (g0.nx n1) _ fun π2 H2 n2 => ?_
  refine okh φ π2 σ H2 n2.ok ((g0.nx n1).nx n2) _ fun π3 H3 n3 => ?_
  exact ok φ π3 H3 x n3.ok ((k1.nx n2).nx n3) _ fun v π4 H4 n4 k4 => q v π4 H4 (((n1.trans n2).trans n3).trans n4) k4
def cutD (xs : List D) (lo hi : Option Int) : List D := (xs.drop (HT.sIx xs.length 0 lo)).take (HT.sIx xs.length xs.length hi - HT.sIx xs.length 0 lo)
theorem cut_dt {K : PySem.W.Frag} {H : Hp} {ds : List D} {vs : List V} (h : DtL K H ds vs) (lo hi : Option Int) : DtL K H (cutD ds lo hi) (cutV vs lo hi) := by
  unfold cutD cutV
  rw [h.len]
  exact (h.drop _).take _
theorem s_lst {ds : List D} {lo hi : Option Int} : S3J c (.dat (.lst ds)) lo hi μ (.dat (.lst (cutD ds lo hi))) μ := fun X gX =>
  ⟨_, sl_list, fun φ π H v s0 h1 Q q => by
    cases h1 with
    | lst s l =>
      refine ⟨_, _, rfl, (hd_le _ _ _ _ : Ex _ _).sqL s, fun p np => ?_⟩
      obtain ⟨n1, at1⟩ := s0.newData np
      exact q _ π _ n1 (.lst (SqL.of at1) (DtL.mono n1.le (cut_dt l lo hi)))⟩
theorem s_str {z : Str} {lo hi : Option Int} (hl : z.length ≤ sizeLine) : S3J c (.str z) lo hi μ (.str (cutS z lo hi)) μ := fun X gX =>
  ⟨_, sl_str, fun φ π H v s0 h1 Q q => by
    cases h1
    exact ⟨_, rfl, hl, q _ π H (Nxt.refl s0) (.str _)⟩⟩
/-! ### calls of what is built in -/
theorem ev_callB {x : Str} {id : String} {p : Pos} {ts : List T} (ha : AJ c (e :: es) Γ μ ts μ1) (hc : C1J c (.builtin id) ts μ1 t μ2) (hg : c.sc.names.lookup x = some .globalImplicit) (hm : c.mg x = none) (hv : bootBuiltins x = some (.builtin id))
    (hs : (e :: es).all (fun e => !isStar e) = true := by rfl) (hn : x ≠ "__name__" := by decide) (hdb : (x == ("__debug__" : Str)) = false := by decide) : EvJ c (.Call (.Name x p) (e :: es) [] pos) Γ μ t μ2 := by
  intro X g φ π σ H s0 g0 Q q
  obtain ⟨r, hr, ok⟩ := hc X g
  have hs' := hs
  simp only [List.all_cons, Bool.and_eq_true, Bool.not_eq_true'] at hs'
  refine toE (pe_callB hr (show X.env.scope.names.lookup x = _ by rw [g.sc]; exact hg) (by rw [g.mg]; exact hm) hv pa_sem hn hdb (star_cons hs'.1 _) (no_star hs'.2 _ _)) ?_
  refine ha X g φ π σ H s0 g0 _ fun vs π1 H1 n1 k1 => ?_
  exact ok φ π1 H1 vs n1.ok k1 _ fun v π2 H2 n2 k2 => q v π2 H2 (n1.trans n2) k2
theorem ev_callTy {x : Str} {id : String} {p : Pos} {ts : List T} (ha : AJ c (e :: es) Γ μ ts μ1) (hc : C1J c (.type id) ts μ1 t μ2) (hg : c.sc.names.lookup x = some .globalImplicit) (hm : c.mg x = none) (hv : bootBuiltins x = some (.type id))
    (hs : (e :: es).all (fun e => !isStar e) = true := by rfl) (hn : x ≠ "__name__" := by decide) (hdb : (x == ("__debug__" : Str)) = false := by decide) : EvJ c (.Call (.Name x p) (e :: es) [] pos) Γ μ t μ2 := by
  intro X g φ π σ H s0 g0 Q q
  obtain ⟨r, hr, ok⟩ := hc X g
  have hs' := hs
  simp only [List.all_cons, Bool.and_eq_true, Bool.not_eq_true'] at hs'
  refine toE (pe_callTy hr (show X.env.scope.names.lookup x = _ by rw [g.sc]; exact hg) (by rw [g.mg]; exact hm) hv pa_sem hn hdb (star_cons hs'.1 _) (no_star hs'.2 _ _)) ?_
  refine ha X g φ π σ H s0 g0 _ fun vs π1 H1 n1 k1 => ?_
  exact ok φ π1 H1 vs n1.ok k1 _ fun v π2 H2 n2 k2 => q v π2 H2 (n1.trans n2) k2
theorem TL.one {K : PySem.W.Frag} {π : List Addr} {Hd : Hp} {t : T} {vs : List V} (h : TL K π Hd [t] vs) : ∃ v, vs = [v] ∧ TOk K π Hd t v := by
  cases h with
  | cons q r => cases r; exact ⟨_, rfl, q⟩
theorem TL.two {K : PySem.W.Frag} {π : List Addr} {Hd : Hp} {t t' : T} {vs : List V} (h : TL K π Hd [t, t'] vs) : ∃ v v', vs = [v, v'] ∧ TOk K π Hd t v ∧ TOk K π Hd t' v' := by
  cases h with
  | cons q r => obtain ⟨v', rfl, q'⟩ := r.one; exact ⟨_, _, rfl, q, q'⟩
theorem c_lenL {ds : List D} : C1J c (.builtin "len") [.dat (.lst ds)] μ (.int ds.length) μ := fun X gX =>
  ⟨_, call_len_seq, fun φ π H vs s0 h Q q => by
    obtain ⟨v, rfl, kk⟩ := h.one
    cases kk with
    | lst s l => exact ⟨_, _, rfl, .inl ((hd_le _ _ _ _ : Ex _ _).sqL s), q _ π H (Nxt.refl s0) (by rw [← l.len]; exact .int _)⟩⟩
theorem c_lenT {ds : List D} : C1J c (.builtin "len") [.dat (.tup ds)] μ (.int ds.length) μ := fun X gX =>
  ⟨_, call_len_seq, fun φ π H vs s0 h Q q => by
    obtain ⟨v, rfl, kk⟩ := h.one
    cases kk with
    | tup s l => exact ⟨_, _, rfl, .inr ((hd_le _ _ _ _ : Ex _ _).sqT s), q _ π H (Nxt.refl s0) (by rw [← l.len]; exact .int _)⟩⟩
theorem c_lenS {z : Str} (hl : z.length ≤ sizeLine) : C1J c (.builtin "len") [.str z] μ (.int z.length) μ := fun X gX =>
  ⟨_, call_len_str, fun φ π H vs s0 h Q q => by
    obtain ⟨v, rfl, kk⟩ := h.one
    cases kk
    exact ⟨_, rfl, hl, q _ π H (Nxt.refl s0) (.int _)⟩⟩
theorem c_max2 {i j : Int} : C1J c (.builtin "max") [.int i, .int j] μ (.int (if j > i then j else i)) μ := fun X gX =>
  ⟨_, call_max2 gX.calm, fun φ π H vs s0 h Q q => by
    obtain ⟨v, w, rfl, kk, kk'⟩ := h.two
    cases kk; cases kk'
    exact ⟨_, _, rfl, q _ π H (Nxt.refl s0) (.int _)⟩⟩
theorem c_min2 {i j : Int} : C1J c (.builtin "min") [.int i, .int j] μ (.int (if j < i then j else i)) μ := fun X gX =>
  ⟨_, call_min2 gX.calm, fun φ π H vs s0 h Q q => by
    obtain ⟨v, w, rfl, kk, kk'⟩ := h.two
    cases kk; cases kk'
    exact ⟨_, _, rfl, q _ π H (Nxt.refl s0) (.int _)⟩⟩
theorem c_intB {k : Bool} : C1J c (.type "int") [.bl k] μ (.int (if k then 1 else 0)) μ := fun X gX =>
  ⟨_, call_int1, fun φ π H vs s0 h Q q => by
    obtain ⟨v, rfl, kk⟩ := h.one
    cases kk
    exact .inr ⟨_, rfl, q _ π H (Nxt.refl s0) (.int _)⟩⟩
theorem c_strI {i : Int} (hi : i.natAbs.log2 < 1920) : C1J c (.type "str") [.int i] μ (.str (toString i)) μ := fun X gX =>
  ⟨_, call_str_int, fun φ π H vs s0 h Q q => by
    obtain ⟨v, rfl, kk⟩ := h.one
    cases kk
    exact ⟨_, rfl, hi, q _ π H (Nxt.refl s0) (.str _)⟩⟩
theorem dtBl {K : PySem.W.Frag} {H : Hp} : ∀ {bs : List Bool} {vs : List V}, DtL K H (bs.map D.bl) vs → vs = bs.map V.bl
  | [], _, h => by cases h; rfl
  | b :: bs, _, h => by
    cases h with
    | cons q t => cases q; rw [List.map_cons, dtBl t]
theorem dtInt {K : PySem.W.Frag} {H : Hp} : ∀ {bs : List Int} {vs : List V}, DtL K H (bs.map D.int) vs → vs = bs.map V.int
  | [], _, h => by cases h; rfl
  | b :: bs, _, h => by
    cases h with
    | cons q t => cases q; rw [List.map_cons, dtInt t]
theorem dtStr {K : PySem.W.Frag} {H : Hp} : ∀ {bs : List Str} {vs : List V}, DtL K H (bs.map D.str) vs → vs = bs.map V.str
  | [], _, h => by cases h; rfl
  | b :: bs, _, h => by
    cases h with
    | cons q t => cases q; rw [List.map_cons, dtStr t]
theorem intDt {K : PySem.W.Frag} {H : Hp} : ∀ {bs : List Int}, DtL K H (bs.map D.int) (bs.map V.int)
  | [] => .nil
  | b :: bs => .cons (.int b) intDt
theorem strDt {K : PySem.W.Frag} {H : Hp} : ∀ {bs : List Str}, DtL K H (bs.map D.str) (bs.map V.str)
  | [] => .nil
  | b :: bs => .cons (.str b) strDt
theorem c_all {bs : List Bool} {ds : List D} (e : ds = bs.map D.bl := by rfl) : C1J c (.builtin "all") [.dat (.lst ds)] μ (.bl (bs.all id)) μ := fun X gX =>
  ⟨_, cr_all gX.calm, fun φ π H vs s0 h Q q => by
    subst e
    obtain ⟨v, rfl, kk⟩ := h.one
    cases kk with
    | lst s l => exact ⟨_, bs, rfl, by rw [dtBl l] at s; exact (hd_le _ _ _ _ : Ex _ _).sqL s, q _ π H (Nxt.refl s0) (.bl _)⟩⟩
theorem c_any {bs : List Bool} {ds : List D} (e : ds = bs.map D.bl := by rfl) : C1J c (.builtin "any") [.dat (.lst ds)] μ (.bl (bs.any id)) μ := fun X gX =>
  ⟨_, cr_any gX.calm, fun φ π H vs s0 h Q q => by
    subst e
    obtain ⟨v, rfl, kk⟩ := h.one
    cases kk with
    | lst s l => exact ⟨_, bs, rfl, by rw [dtBl l] at s; exact (hd_le _ _ _ _ : Ex _ _).sqL s, q _ π H (Nxt.refl s0) (.bl _)⟩⟩
theorem c_sum {bs : List Int} {ds : List D} (e : ds = bs.map D.int := by rfl) : C1J c (.builtin "sum") [.dat (.lst ds)] μ (.int bs.sum) μ := fun X gX =>
  ⟨_, cr_sum gX.calm, fun φ π H vs s0 h Q q => by
    subst e
    obtain ⟨v, rfl, kk⟩ := h.one
    cases kk with
    | lst s l => exact ⟨_, bs, rfl, by rw [dtInt l] at s; exact (hd_le _ _ _ _ : Ex _ _).sqL s, q _ π H (Nxt.refl s0) (.int _)⟩⟩
/-- list(..) of a list, of a tuple -/
theorem c_listL {ds : List D} : C1J c (.type "list") [.dat (.lst ds)] μ (.dat (.lst ds)) μ := fun X gX =>
  ⟨_, call_list_of, fun φ π H vs s0 h Q q => by
    obtain ⟨v, rfl, kk⟩ := h.one
    cases kk with
    | lst s l =>
      refine ⟨_, _, rfl, .inl ((hd_le _ _ _ _ : Ex _ _).sqL s), fun p np => ?_⟩
      obtain ⟨n1, at1⟩ := s0.newData np
      exact q _ π _ n1 (.lst (SqL.of at1) (DtL.mono n1.le l))⟩
theorem c_listT {ds : List D} : C1J c (.type "list") [.dat (.tup ds)] μ (.dat (.lst ds)) μ := fun X gX =>
  ⟨_, call_list_of, fun φ π H vs s0 h Q q => by
    obtain ⟨v, rfl, kk⟩ := h.one
    cases kk with
    | tup s l =>
      refine ⟨_, _, rfl, .inr ((hd_le _ _ _ _ : Ex _ _).sqT s), fun p np => ?_⟩
      obtain ⟨n1, at1⟩ := s0.newData np
      exact q _ π _ n1 (.lst (SqL.of at1) (DtL.mono n1.le l))⟩
theorem c_tupL {ds : List D} : C1J c (.type "tuple") [.dat (.lst ds)] μ (.dat (.tup ds)) μ := fun X gX =>
  ⟨_, call_tuple_of, fun φ π H vs s0 h Q q => by
    obtain ⟨v, rfl, kk⟩ := h.one
    cases kk with
    | lst s l =>
      refine ⟨_, _, rfl, .inl ⟨(hd_le _ _ _ _ : Ex _ _).sqL s, fun p np => ?_⟩⟩
      obtain ⟨n1, at1⟩ := s0.newData np
      exact q _ π _ n1 (.tup (SqT.of at1) (DtL.mono n1.le l))⟩
/-! isinstance -/
inductive DTy (K : PySem.W.Frag) : D → Value → Prop
  | non : DTy K .non (.type "NoneType")
  | bl (b : Bool) : DTy K (.bl b) (.type "bool")
  | int (i : Int) : DTy K (.int i) (.type "int")
  | str (x : Str) : DTy K (.str x) (.type "str")
  | lst (xs : List D) : DTy K (.lst xs) (.type "list")
  | tup (xs : List D) : DTy K (.tup xs) (.type "tuple")
  | dic (xs : List (Key × D)) : DTy K (.dic xs) (.type "dict")
  | ins (x : Str) (fs : List (Str × D)) (cl : Cls K (He.ga K x)) (ha : PySem.W.findIn K (.ref (He.ga K x)) "__class__" = some (some (.builtin "object.__class__")))
      (hn : PySem.W.specialIn K (.builtin "object.__class__") "__get__" = some (some (.builtin "getset_descriptor.__get__"))) (htk : PySem.W.takesIn K (.builtin "object.__class__") = some true)
      (hm : PySem.W.mroIn K (He.ga K x) (.type "object") = some true) : DTy K (.ins x fs) (.ref (He.ga K x))
theorem tyx_of {K : PySem.W.Frag} {H : Hp} {d : D} {v : V} {u : Value} (h : Dt K H d v) (t : DTy K d u) : TyX K H v u := by
  cases t with
  | non => cases h; exact .base .non
  | bl b => cases h; exact .base (.bl _)
  | int b => cases h; exact .base (.int _)
  | str b => cases h; exact .base (.str _)
  | lst xs =>
    cases h with
    | lst s l =>
      rcases s with (s | ⟨o, s⟩) | ⟨o, its, n, hk, hc, _⟩
      · exact .base (.lst s)
      · exact .base (.frz s)
      · exact .kList hk hc
  | tup xs =>
    cases h with
    | tup s l =>
      rcases s with (s | ⟨o, s⟩) | ⟨o, its, n, hk, hc, _⟩
      · exact .base (.tup s)
      · exact .fTuple s
      · exact .kTuple hk hc
  | dic xs =>
    cases h with
    | dic s l =>
      rcases s with s | ⟨o, s⟩
      · exact .base (.dK s)
      · exact .fDict s
  | ins x fs cl ha hn htk hm =>
    cases h with
    | ins s l => exact .base (.ins s cl ha hn htk hm)
/-- the classes as values -/
def EvC (c : Ctx) (e : Expr) (u : Value) : Prop := ∃ v, ClsV v u ∧ ∀ X, Good c X → PE X e (tC v)
theorem evc_ty {x : Str} {n : String} {p : Pos} (hg : c.sc.names.lookup x = some .globalImplicit) (hm : c.mg x = none) (hv : bootBuiltins x = some (.type n)) (hn : x ≠ "__name__" := by decide) (hdb : (x == ("__debug__" : Str)) = false := by decide) : EvC c (.Name x p) (.type n) :=
  ⟨.ty n, .ty n, fun X g => pe_bltn (show X.env.scope.names.lookup x = _ by rw [g.sc]; exact hg) (by rw [g.mg]; exact hm) hv rfl hn hdb⟩
theorem evc_own {x : Str} {p : Pos} {C : Addr} (hg : c.sc.names.lookup x = some .globalImplicit) (hm : c.mg x = some (.ref C)) (hdb : (x == ("__debug__" : Str)) = false := by decide) : EvC c (.Name x p) (.ref C) :=
  ⟨.ref C, .own C, fun X g => pe_glob (show X.env.scope.names.lookup x = _ by rw [g.sc]; exact hg) (by rw [g.mg]; exact hm) rfl hdb⟩
theorem ev_isi {x : Str} {p : Pos} {u v : Value} {r : Bool} (ha : EvJ c a Γ μ (.dat d) μ1) (hb : EvC c b u) (ht : DTy c.K d v) (hk : PySem.W.kitOne c.K v u = some r) (hx : x = "isinstance") (hg : c.sc.names.lookup x = some .globalImplicit) (hm : c.mg x = none)
    (hs : isStar a = false := by rfl) (hs2 : isStar b = false := by rfl) : EvJ c (.Call (.Name x p) [a, b] [] pos) Γ μ (.bl r) μ1 := by
  subst hx
  intro X g φ π σ H s0 g0 Q q
  obtain ⟨w, hw, hpe⟩ := hb
  refine toE (pe_callB call_isi (show X.env.scope.names.lookup ("isinstance" : Str) = _ by rw [g.sc]; exact hg) (by rw [g.mg]; exact hm) (by decide +kernel) (pa_cons pe_sem (pa_cons (hpe X g) pa_nil (star_cons hs2 _)) (star_cons hs _)) (by decide) (by decide) (star_cons hs _) (no_star (by simp [hs2]) _ _)) ?_
  refine ha X g φ π σ H s0 g0 _ fun vv π1 H1 n1 k1 => ?_
  refine ⟨vv, w, v, u, r, rfl, hw, tyx_of (Dt.mono (hd_le _ _ _ _) k1) (by rw [g.K]; exact ht), by rw [g.K]; exact hk, ?_⟩
  exact q _ π1 H1 n1 (.bl _)
end
end EN
/-! Own defs called, statements, loops, list comprehensions. -/
namespace EN
open PySem PySem.Spec PyProof.Rows L2

/-! ### own defs -/
def spJ (K : PySem.W.Frag) (ts : List T) (μ : List M) (t : T) (μ' : List M) : Sp := fun vs H Q _ => ∃ φ π, SOk K φ π H μ ∧ TL K π (hd φ π μ H) ts vs ∧ Pst K φ π H μ t μ' Q
/-- the def at at_, called with ts (dts: the defaults that fill up), comes to t -/
def CallJ (G : Gc) (k : Nat) (at_ : Str × Option Str) (ts : List T) (dts : List D) (μ : List M) (t : T) (μ' : List M) : Prop :=
  ∃ (fd : FuncData) (ps : List Str) (dvs : List V) (ds : List Value), PySem.W.keepIn G.K (.ref (He.fAd G.K at_)) = true ∧ Vals dvs ds ∧ Binds G.K fd ps ds ∧ (∀ H, DtL G.K H dts dvs) ∧
    FnOk G.P G.w G.K G.mg G.base (L2.CX G.P G.w) k (He.fAd G.K at_) fd ps (spJ G.K (ts ++ dats dts) μ t μ')
theorem CallJ.mono {G : Gc} {j k : Nat} {at_ : Str × Option Str} {ts : List T} {dts : List D} {μ μ' : List M} {t : T} (h : CallJ G j at_ ts dts μ t μ') (hj : j ≤ k) : CallJ G k at_ ts dts μ t μ' := by
  obtain ⟨fd, ps, dvs, ds, h1, h2, h3, h4, h5⟩ := h
  exact ⟨fd, ps, dvs, ds, h1, h2, h3, h4, h5.mono hj⟩
theorem CallJ.eq {G : Gc} {k : Nat} {at_ : Str × Option Str} {ts : List T} {dts : List D} {μ μ1 μ' : List M} {t t' : T} (h : CallJ G k at_ ts dts μ t μ1) (e1 : t = t') (e2 : μ1 = μ') : CallJ G k at_ ts dts μ t' μ' := e1 ▸ e2 ▸ h
theorem TL.append {K : PySem.W.Frag} {π : List Addr} {Hd : Hp} {ts us : List T} {vs ws : List V} (h : TL K π Hd ts vs) (h' : TL K π Hd us ws) : TL K π Hd (ts ++ us) (vs ++ ws) := by
  induction h with
  | nil => exact h'
  | cons q _ ih => exact .cons q ih
section
variable {c : Ctx} {a b e : Expr} {es : List Expr} {Γ Γ1 Γ2 : List (Option T)} {μ μ1 μ2 μ3 : List M} {t t1 t2 t3 : T} {pos : Pos} {d : D} {ts : List T} {dts : List D} {k : Nat}
theorem ev_call {x : Str} {p : Pos} (ha : AJ c (e :: es) Γ μ ts μ1) (h : CallJ c.toGc k (x, none) ts dts μ1 t μ2) (hk : k ≤ c.k) (hg : c.sc.names.lookup x = some .globalImplicit) (hm : c.mg x = some (.ref (He.fAd c.K (x, none))))
    (hs : (e :: es).all (fun e => !isStar e) = true := by rfl) (hdb : (x == ("__debug__" : Str)) = false := by decide) : EvJ c (.Call (.Name x p) (e :: es) [] pos) Γ μ t μ2 := by
  intro X g φ π σ H s0 g0 Q q
  obtain ⟨fd, ps, dvs, ds, h1, h2, h3, h4, h5⟩ := h
  have hs' := hs
  simp only [List.all_cons, Bool.and_eq_true, Bool.not_eq_true'] at hs'
  have F : FnOk X.prog X.w X.K X.mg X.base (L2.CX X.prog X.w) k (He.fAd X.K (x, none)) fd ps (spJ X.K (ts ++ dats dts) μ1 t μ2) := by rw [g.prog, g.w, g.K, g.mg, g.base]; exact h5
  refine toE (pe_call F (g.room.mono hk) (show X.env.scope.names.lookup x = _ by rw [g.sc]; exact hg) (by rw [g.mg, g.K]; exact hm) (by rw [g.K]; exact h1) (by rw [g.K]; exact h3) h2 passL pa_sem hdb (star_cons hs'.1 _) (no_star hs'.2 _ _)) ?_
  refine ha X g φ π σ H s0 g0 _ fun vs π1 H1 n1 k1 => ?_
  exact ⟨φ, π1, n1.ok, k1.append (DtL.tl (by rw [g.K]; exact h4 _)), fun v π2 H2 n2 k2 => q v π2 H2 (n1.trans n2) k2⟩
theorem ev_call0 {x : Str} {p : Pos} (h : CallJ c.toGc k (x, none) [] dts μ t μ2) (hk : k ≤ c.k) (hg : c.sc.names.lookup x = some .globalImplicit) (hm : c.mg x = some (.ref (He.fAd c.K (x, none))))
    (hdb : (x == ("__debug__" : Str)) = false := by decide) : EvJ c (.Call (.Name x p) [] [] pos) Γ μ t μ2 := by
  intro X g φ π σ H s0 g0 Q q
  obtain ⟨fd, ps, dvs, ds, h1, h2, h3, h4, h5⟩ := h
  have F : FnOk X.prog X.w X.K X.mg X.base (L2.CX X.prog X.w) k (He.fAd X.K (x, none)) fd ps (spJ X.K ([] ++ dats dts) μ t μ2) := by rw [g.prog, g.w, g.K, g.mg, g.base]; exact h5
  refine toE (pe_call0 F (g.room.mono hk) (show X.env.scope.names.lookup x = _ by rw [g.sc]; exact hg) (by rw [g.mg, g.K]; exact hm) (by rw [g.K]; exact h1) (by rw [g.K]; exact h3) h2 passL hdb) ?_
  exact ⟨φ, π, s0, DtL.tl (by rw [g.K]; exact h4 _), fun v π2 H2 n2 k2 => q v π2 H2 n2 k2⟩

/-! ### statements -/
inductive Out where
  | nx (Γ : List (Option T)) (μ : List M) | rt (t : T) (μ : List M) | bk (Γ : List (Option T)) (μ : List M) | ct (Γ : List (Option T)) (μ : List M)
def OD (K : PySem.W.Frag) (φ π : List Addr) (H : Hp) (μ : List M) : Out → Ends → Prop
  | .nx Γ' μ', D => ∀ σ' π' H', Nxt K φ π H μ π' H' μ' → FOk K π' (hd φ π' μ' H') Γ' σ' → D.nx σ' H'
  | .bk Γ' μ', D => ∀ σ' π' H', Nxt K φ π H μ π' H' μ' → FOk K π' (hd φ π' μ' H') Γ' σ' → D.bk σ' H'
  | .ct Γ' μ', D => ∀ σ' π' H', Nxt K φ π H μ π' H' μ' → FOk K π' (hd φ π' μ' H') Γ' σ' → D.ct σ' H'
  | .rt t μ', D => Pst K φ π H μ t μ' D.rt
theorem OD.nx {K : PySem.W.Frag} {φ π π1 : List Addr} {H H1 : Hp} {o : Out} {D : Ends} (h : OD K φ π H μ o D) (n : Nxt K φ π H μ π1 H1 μ1) : OD K φ π1 H1 μ1 o D := by
  cases o with
  | nx Γ' μ' => exact fun σ' π' H' n' f => h σ' π' H' (n.trans n') f
  | bk Γ' μ' => exact fun σ' π' H' n' f => h σ' π' H' (n.trans n') f
  | ct Γ' μ' => exact fun σ' π' H' n' f => h σ' π' H' (n.trans n') f
  | rt t μ' => exact fun v π' H' n' f => h v π' H' (n.trans n') f
def StJ (c : Ctx) (st : Stmt) (Γ : List (Option T)) (μ : List M) (o : Out) : Prop :=
  ∀ X, Good c X → ∀ φ π σ H, SOk X.K φ π H μ → FOk X.K π (hd φ π μ H) Γ σ → ∀ D, OD X.K φ π H μ o D → semS X st D σ H
def SJ (c : Ctx) (sts : List Stmt) (Γ : List (Option T)) (μ : List M) (o : Out) : Prop :=
  ∀ X, Good c X → ∀ φ π σ H, SOk X.K φ π H μ → FOk X.K π (hd φ π μ H) Γ σ → ∀ D, OD X.K φ π H μ o D → semSs X sts D σ H
variable {st : Stmt} {sts A B : List Stmt} {o : Out}
theorem SJ.eq {o' : Out} (h : SJ c sts Γ μ o) (e : o = o') : SJ c sts Γ μ o' := e ▸ h
theorem StJ.eq {o' : Out} (h : StJ c st Γ μ o) (e : o = o') : StJ c st Γ μ o' := e ▸ h
theorem sj_nil : SJ c [] Γ μ (.nx Γ μ) := by
  intro X g φ π σ H s0 g0 D q
  exact toSs pss_nil (q σ π H (Nxt.refl s0) g0)
theorem sj_cons (h : StJ c st Γ μ (.nx Γ1 μ1)) (h' : SJ c sts Γ1 μ1 o) : SJ c (st :: sts) Γ μ o := by
  intro X g φ π σ H s0 g0 D q
  refine toSs (pss_cons ps_sem pss_sem) ?_
  exact h X g φ π σ H s0 g0 _ fun σ' π' H' n' f' => h' X g φ π' σ' H' n'.ok f' D (q.nx n')
def Out.stops : Out → Bool
  | .nx _ _ => false
  | _ => true
theorem sj_stop (h : StJ c st Γ μ o) (hs : o.stops = true := by rfl) : SJ c (st :: sts) Γ μ o := by
  intro X g φ π σ H s0 g0 D q
  refine toSs (pss_cons ps_sem pss_sem) ?_
  refine h X g φ π σ H s0 g0 _ ?_
  cases o with
  | nx _ _ => cases hs
  | rt _ _ => exact q
  | bk _ _ => exact q
  | ct _ _ => exact q
theorem sj_one (h : StJ c st Γ μ o) : SJ c [st] Γ μ o := by
  intro X g φ π σ H s0 g0 D q
  exact toSs (pss_one ps_sem) (h X g φ π σ H s0 g0 D q)
theorem st_pass : StJ c (.Pass pos) Γ μ (.nx Γ μ) := by
  intro X g φ π σ H s0 g0 D q
  exact toS ps_pass (q σ π H (Nxt.refl s0) g0)
theorem st_break : StJ c (.Break pos) Γ μ (.bk Γ μ) := by
  intro X g φ π σ H s0 g0 D q
  exact toS ps_break (q σ π H (Nxt.refl s0) g0)
theorem st_continue : StJ c (.Continue pos) Γ μ (.ct Γ μ) := by
  intro X g φ π σ H s0 g0 D q
  exact toS ps_continue (q σ π H (Nxt.refl s0) g0)
theorem st_doc {x : Str} {j : Nat} {p : Pos} : StJ c (.Expr (.Constant (.str x) j p) pos) Γ μ (.nx Γ μ) := by
  intro X g φ π σ H s0 g0 D q
  exact toS ps_doc (q σ π H (Nxt.refl s0) g0)
def isComp : Expr → Bool
  | .ListComp .. | .SetComp .. | .DictComp .. => true
  | _ => false
theorem no_swap (h : isComp e = false) (tg : Option Expr) (l : Nat) (env : Env) : swapsWith e tg l env = pure false := by
  cases e <;> first | rfl | cases h
theorem st_expr (h : EvJ c e Γ μ t μ1) (hs : isComp e = false := by rfl) : StJ c (.Expr e pos) Γ μ (.nx Γ μ1) := by
  intro X g φ π σ H s0 g0 D q
  refine toS (ps_expr pe_sem (no_swap hs _ _ _)) ?_
  exact h X g φ π σ H s0 g0 _ fun v π1 H1 n1 k1 => q σ π1 H1 n1 (g0.nx n1)
theorem st_ret (h : EvJ c e Γ μ t μ1) : StJ c (.Return (some e) pos) Γ μ (.rt t μ1) := by
  intro X g φ π σ H s0 g0 D q
  refine toS (ps_ret pe_sem) ?_
  exact h X g φ π σ H s0 g0 _ q
theorem st_retN : StJ c (.Return none pos) Γ μ (.rt (.dat .non) μ) := by
  intro X g φ π σ H s0 g0 D q
  exact toS ps_retN (q _ π H (Nxt.refl s0) .non)
theorem st_if {r : Bool} {x : Expr} (h : TJ c x Γ μ r μ1) (h1 : r = true → SJ c A Γ μ1 o) (h2 : r = false → SJ c B Γ μ1 o) : StJ c (.If x A B pos) Γ μ o := by
  intro X g φ π σ H s0 g0 D q
  refine toS (ps_if pt_sem pss_sem pss_sem) ?_
  refine h X g φ π σ H s0 g0 _ fun π1 H1 n1 => ?_
  cases r with
  | true => rw [if_pos rfl]; exact h1 rfl X g φ π1 σ H1 n1.ok (g0.nx n1) D (q.nx n1)
  | false => rw [if_neg Bool.false_ne_true]; exact h2 rfl X g φ π1 σ H1 n1.ok (g0.nx n1) D (q.nx n1)
theorem st_if_t {x : Expr} (h : TJ c x Γ μ true μ1) (h1 : SJ c A Γ μ1 o) : StJ c (.If x A B pos) Γ μ o := st_if h (fun _ => h1) fun z => nomatch z
theorem st_if_f {x : Expr} (h : TJ c x Γ μ false μ1) (h1 : SJ c B Γ μ1 o) : StJ c (.If x A B pos) Γ μ o := st_if h (fun z => nomatch z) fun _ => h1
theorem TJ.eq {x : Expr} {r r' : Bool} (h : TJ c x Γ μ r μ1) (e : r = r') : TJ c x Γ μ r' μ1 := e ▸ h

/-- name = e -/
theorem st_set {i : Nat} {x : Str} {p : Pos} (h : EvJ c e Γ μ t μ1) (hi : c.N[i]? = some x) (hx : Loc c.sc x) (hs : isComp e = false := by rfl) (hf : c.sto x = true := by rfl) : StJ c (.Assign [.Name x p] e pos) Γ μ (.nx (Γ.set i (some t)) μ1) := by
  intro X g φ π σ H s0 g0 D q
  refine toS (ps_set (i := i) (by rw [g.N]; exact g.nd) (by rw [g.N]; exact hi) (by rw [g.sc]; exact hx) pe_sem (no_swap hs _ _ _) (g.sto x hf)) ?_
  exact h X g φ π σ H s0 g0 _ fun v π1 H1 n1 k1 => q _ π1 H1 n1 ((g0.nx n1).set k1)
/-- name op= e -/
theorem st_aug {op : Operator} {i : Nat} {x : Str} {p : Pos} (hΓ : Γ[i]? = some (some t1)) (h : EvJ c e Γ μ t2 μ1) (ho : R2J c (inplaceOp op) t1 t2 μ1 t3 μ2) (hi : c.N[i]? = some x) (hx : Loc c.sc x) (hf : c.sto x = true := by rfl) :
    StJ c (.AugAssign (.Name x p) op e pos) Γ μ (.nx (Γ.set i (some t3)) μ2) := by
  intro X g φ π σ H s0 g0 D q
  obtain ⟨r, hr, ok⟩ := ho X g
  refine toS (ps_aug (i := i) (by rw [g.N]; exact g.nd) (by rw [g.N]; exact hi) (by rw [g.sc]; exact hx) pe_sem hr (g.sto x hf)) ?_
  obtain ⟨v, h1, h2⟩ := g0.at_ i t1 hΓ
  refine ⟨v, h1, ?_⟩
  refine h X g φ π σ H s0 g0 _ fun w π1 H1 n1 k1 => ?_
  exact ok φ π1 H1 v w n1.ok (h2.nx n1) k1 _ fun z π2 H2 n2 k2 => q _ π2 H2 (n1.trans n2) (((g0.nx n1).nx n2).set k2)

/-! ### targets -/
def TgJ (c : Ctx) (tg : Expr) (gt : TG) : Prop := ∀ X, Good c X → PG X tg gt
def TgsJ (c : Ctx) (tgs : List Expr) (gt : TGs) : Prop := ∀ X, Good c X → PGs X tgs gt
def GvJ (c : Ctx) (gt : TG) (t : T) (Γ : List (Option T)) (μ : List M) (Γ' : List (Option T)) (js : List Nat) : Prop :=
  ∀ φ π σ H v, SOk c.K φ π H μ → FOk c.K π (hd φ π μ H) Γ σ → TOk c.K π (hd φ π μ H) t v → ∀ Q : L2.St → Hp → Prop,
    (∀ σ', FOk c.K π (hd φ π μ H) Γ' σ' → (∀ vs, (∀ j ∈ js, j ∈ vs) → wipe σ' vs = wipe σ vs) → Q σ' H) → gt v σ H Q
def GsJ (c : Ctx) (gt : TGs) (ds : List D) (Γ : List (Option T)) (μ : List M) (Γ' : List (Option T)) (js : List Nat) : Prop :=
  ∀ φ π σ H vs, SOk c.K φ π H μ → FOk c.K π (hd φ π μ H) Γ σ → DtL c.K (hd φ π μ H) ds vs → ∀ Q : L2.St → Hp → Prop,
    (∀ σ', FOk c.K π (hd φ π μ H) Γ' σ' → (∀ ws, (∀ j ∈ js, j ∈ ws) → wipe σ' ws = wipe σ ws) → Q σ' H) → gt vs σ H Q
theorem wipe_get {σ : L2.St} {i : Nat} : ∀ {vs : List Nat}, i ∈ vs → i < σ.length → (wipe σ vs)[i]? = some none
  | [], h, _ => by simp at h
  | v :: vs, h, hl => by
    unfold wipe
    by_cases hv : v = i
    · subst hv; rw [List.getElem?_set_self (by rw [wipe_length]; exact hl)]
    · rw [List.getElem?_set_ne hv]
      exact wipe_get ((List.mem_cons.mp h).resolve_left fun z => hv z.symm) hl
theorem wipe_set {σ : L2.St} {j : Nat} {x : Option V} {vs : List Nat} (h : j ∈ vs) : wipe (σ.set j x) vs = wipe σ vs := by
  apply List.ext_getElem?
  intro i
  by_cases hi : i ∈ vs
  · by_cases hl : i < σ.length
    · rw [wipe_get hi (by simpa using hl), wipe_get hi hl]
    · rw [List.getElem?_eq_none (by simp [wipe_length]; omega), List.getElem?_eq_none (by simp [wipe_length]; omega)]
  · rw [wipe_out hi, wipe_out hi, List.getElem?_set_ne (show j ≠ i from fun z => hi (z ▸ h))]
theorem tg_name {i : Nat} {x : Str} {p : Pos} (hi : c.N[i]? = some x) (hx : Loc c.sc x) (hf : c.sto x = true := by rfl) : TgJ c (.Name x p) (gName i) := fun X g =>
  pg_name (by rw [g.N]; exact g.nd) (by rw [g.N]; exact hi) (by rw [g.sc]; exact hx) (g.sto x hf)
theorem gv_name {i : Nat} : GvJ c (gName i) t Γ μ (Γ.set i (some t)) [i] := fun φ π σ H v s0 g0 h Q q =>
  q _ (g0.set h) fun vs hv => wipe_set (hv i (by simp))
theorem tgs_nil : TgsJ c [] gNil := fun X g => pgs_nil
theorem tgs_cons {gt : TG} {gts : TGs} (h : TgJ c e gt) (h' : TgsJ c es gts) (hs : isStar e = false := by rfl) : TgsJ c (e :: es) (gCons gt gts) := fun X g =>
  pgs_cons (h X g) (h' X g) (by cases e <;> first | rfl | cases hs)
theorem tg_tup {gts : TGs} {k0 n : Nat} (h : TgsJ c es gts) (hs : es.all (fun e => !isStar e) = true := by rfl) (hn : es.length = n := by rfl) : TgJ c (.Tuple es k0 pos) (gTup c.K n gts) := fun X g => by
  rw [← g.K]
  have q : ∀ es : List Expr, es.all (fun e => !isStar e) = true → (assignEach es X.env).length = es.length ∧ (assignEach es X.env).findIdx? (·.1) = none := by
    intro es
    induction es with
    | nil => exact fun _ => ⟨rfl, rfl⟩
    | cons e r ih =>
      intro h
      simp only [List.all_cons, Bool.and_eq_true, Bool.not_eq_true'] at h
      obtain ⟨h1, h2⟩ := ih h.2
      have e1 : assignEach (e :: r) X.env = (false, assign e X.env) :: assignEach r X.env := by
        cases e <;> first | rfl | cases h.1
      rw [e1]
      exact ⟨by simp [h1], by simp [List.findIdx?_cons, h2]⟩
  exact pg_tup g.calm (h X g) (by rw [(q es hs).1, hn]) (q es hs).2
theorem gs_nil : GsJ c gNil [] Γ μ Γ [] := fun φ π σ H vs s0 g0 h Q q => by
  cases h
  exact ⟨rfl, q σ g0 fun _ _ => rfl⟩
theorem gs_cons {gt : TG} {gts : TGs} {ds : List D} {js ks : List Nat} (h : GvJ c gt (.dat d) Γ μ Γ1 js) (h' : GsJ c gts ds Γ1 μ Γ2 ks) : GsJ c (gCons gt gts) (d :: ds) Γ μ Γ2 (js ++ ks) := fun φ π σ H vs s0 g0 hh Q q => by
  cases hh with
  | cons k l =>
    refine ⟨_, _, rfl, ?_⟩
    refine h φ π σ H _ s0 g0 k _ fun σ1 g1 w1 => ?_
    exact h' φ π σ1 H _ s0 g1 l _ fun σ2 g2 w2 => q σ2 g2 fun ws hw => (w2 ws fun j hj => hw j (List.mem_append_right _ hj)).trans (w1 ws fun j hj => hw j (List.mem_append_left _ hj))
theorem gv_tup {gts : TGs} {n : Nat} {ds : List D} {js : List Nat} (h : GsJ c gts ds Γ μ Γ1 js) (hn : ds.length = n := by rfl) : GvJ c (gTup c.K n gts) (.dat (.tup ds)) Γ μ Γ1 js := fun φ π σ H v s0 g0 k Q q => by
  cases k with
  | tup s l => exact ⟨_, _, rfl, (hd_le _ _ _ _ : Ex _ _).sqT s, by rw [← l.len, hn], h φ π σ H _ s0 g0 l Q q⟩
def isTup : Expr → Bool
  | .Tuple .. => true
  | _ => false
theorem no_stores {tg : Expr} (h : isTup e = false) (env : Env) : swappedStores [tg] e env = pure none := by
  cases tg <;> cases e <;> first | rfl | cases h
/-- a, b = e -/
theorem st_asg {tg : Expr} {gt : TG} {js : List Nat} (h : EvJ c e Γ μ t μ1) (hg : TgJ c tg gt) (hv : GvJ c gt t Γ μ1 Γ1 js) (hs : isComp e = false := by rfl) (ht : isTup e = false := by rfl) (hst : isStar tg = false := by rfl) : StJ c (.Assign [tg] e pos) Γ μ (.nx Γ1 μ1) := by
  intro X g φ π σ H s0 g0 D q
  refine toS (ps_asg pe_sem (hg X g) (no_swap hs _ _ _) (no_stores ht _) (by cases tg <;> first | rfl | cases hst)) ?_
  refine h X g φ π σ H s0 g0 _ fun v π1 H1 n1 k1 => ?_
  have n1' := n1; have k1' := k1; have g1 := g0.nx n1; have s1 := n1.ok
  rw [g.K] at k1' g1 s1
  exact hv φ π1 σ H1 v s1 g1 k1' _ fun σ' f' _ => q σ' π1 H1 n1 (by rw [g.K]; exact f')

/-! ### what is walked -/
def Walks (K : PySem.W.Frag) (J : It) (its : List T) (φ π1 : List Addr) (H1 : Hp) (μ1 : List M) : Prop :=
  ∀ (i : Nat) φ2 π2 H2 μ2, SOk K φ2 π2 H2 μ2 → (∃ p, π2 = π1 ++ p) → Ex (hd φ π1 μ1 H1) (hd φ2 π2 μ2 H2) →
    (∀ t, its[i]? = some t → J.go i H2 ∧ ∀ x H', J.yld i H2 x H' → Nxt K φ2 π2 H2 μ2 π2 H' μ2 ∧ TOk K π2 (hd φ2 π2 μ2 H') t x) ∧ (its.length ≤ i → J.stop i H2)
def IterJ (c : Ctx) (tg iter : Expr) (Γ : List (Option T)) (μ : List M) (its : List T) (μ1 : List M) : Prop :=
  ∀ X, Good c X → ∃ wi, PI X tg iter wi ∧ ∀ φ π σ H, SOk X.K φ π H μ → FOk X.K π (hd φ π μ H) Γ σ → ∀ R : It → Hp → Prop, (∀ J π1 H1, Nxt X.K φ π H μ π1 H1 μ1 → Walks X.K J its φ π1 H1 μ1 → R J H1) → wi σ H R
theorem lst_walks {K : PySem.W.Frag} {φ π1 : List Addr} {H1 : Hp} {ds : List D} {p : Addr} {vs : List V} (s : SqL K (hd φ π1 μ1 H1) p vs) (l : DtL K (hd φ π1 μ1 H1) ds vs) : Walks K (Itl K p) (dats ds) φ π1 H1 μ1 := fun i φ2 π2 H2 μ2 s2' _ le => by
  have s2 : SqL K H2 p vs := (hd_le _ _ _ _ : Ex _ _).sqL (Ex.sqL le s)
  have l2 := DtL.mono le l
  refine ⟨fun t ht => ?_, fun hi => ⟨vs, s2, by rw [← l.len]; simpa [dats] using hi⟩⟩
  have : ∃ x, ds[i]? = some x ∧ t = .dat x := by
    unfold dats at ht
    rw [List.getElem?_map] at ht
    cases e : ds[i]? with
    | none => rw [e] at ht; cases ht
    | some x => rw [e] at ht; exact ⟨x, rfl, (Option.some.inj ht).symm⟩
  obtain ⟨x, hx, rfl⟩ := this
  obtain ⟨y, hy, k⟩ := l2.get hx
  refine ⟨⟨vs, y, s2, hy⟩, fun z H' hz => ?_⟩
  obtain ⟨rfl, hz⟩ := hz
  have := hz vs s2
  rw [hy] at this; cases this
  exact ⟨Nxt.refl s2', k⟩
theorem it_lst {tg : Expr} {ds : List D} (h : EvJ c e Γ μ (.dat (.lst ds)) μ1) : IterJ c tg e Γ μ (dats ds) μ1 := fun X g => ⟨_, pi_list pe_sem, fun φ π σ H s0 g0 R q => by
  refine h X g φ π σ H s0 g0 _ fun v π1 H1 n1 k1 => ?_
  cases k1 with
  | lst s l => exact ⟨_, rfl, ⟨_, (hd_le _ _ _ _ : Ex _ _).sqL s⟩, q _ π1 H1 n1 (lst_walks s l)⟩⟩
theorem it_tup {tg : Expr} {ds : List D} (h : EvJ c e Γ μ (.dat (.tup ds)) μ1) : IterJ c tg e Γ μ (dats ds) μ1 := fun X g => ⟨_, pi_tup pe_sem, fun φ π σ H s0 g0 R q => by
  refine h X g φ π σ H s0 g0 _ fun v π1 H1 n1 k1 => ?_
  cases k1 with
  | tup s l =>
    refine ⟨_, rfl, ⟨_, (hd_le _ _ _ _ : Ex _ _).sqT s⟩, q _ π1 H1 n1 fun i φ2 π2 H2 μ2 s2' hx0 le => ?_⟩
    clear hx0
    rename_i p vs
    have s2 : SqT X.K H2 p vs := (hd_le _ _ _ _ : Ex _ _).sqT (Ex.sqT le s)
    have l2 := DtL.mono le l
    refine ⟨fun t ht => ?_, fun hi => ⟨vs, s2, by rw [← l.len]; simpa [dats] using hi⟩⟩
    have : ∃ x, ds[i]? = some x ∧ t = .dat x := by
      unfold dats at ht
      rw [List.getElem?_map] at ht
      cases e : ds[i]? with
      | none => rw [e] at ht; cases ht
      | some x => rw [e] at ht; exact ⟨x, rfl, (Option.some.inj ht).symm⟩
    obtain ⟨x, hx, rfl⟩ := this
    obtain ⟨y, hy, k⟩ := l2.get hx
    refine ⟨⟨vs, y, s2, hy⟩, fun z H' hz => ?_⟩
    obtain ⟨rfl, hz⟩ := hz
    have := hz vs s2
    rw [hy] at this; cases this
    exact ⟨Nxt.refl s2', k⟩⟩
/-- the ints lo .. -/
def rgD (lo : Int) (n : Nat) : List T := (List.range n).map fun i => T.int (lo + (i : Nat))
theorem rgD_get {lo : Int} {n i : Nat} {t : T} (h : (rgD lo n)[i]? = some t) : i < n ∧ t = .int (lo + (i : Nat)) := by
  unfold rgD at h
  rw [List.getElem?_map] at h
  by_cases hi : i < n
  · rw [List.getElem?_range hi] at h
    exact ⟨hi, (Option.some.inj h).symm⟩
  · rw [List.getElem?_eq_none (by simpa using hi)] at h; cases h
theorem rg_walks {K : PySem.W.Frag} {φ π1 : List Addr} {H1 : Hp} {lo : Int} {n : Nat} : Walks K (Itr lo n) (rgD lo n) φ π1 H1 μ1 := fun i φ2 π2 H2 μ2 s2' _ le => by
  refine ⟨fun t ht => ?_, fun hi => show n ≤ i by simpa [rgD] using hi⟩
  obtain ⟨hi, rfl⟩ := rgD_get ht
  refine ⟨hi, fun z H' hz => ?_⟩
  obtain ⟨rfl, rfl⟩ := hz
  exact ⟨Nxt.refl s2', .int _⟩
theorem it_range1 {tg : Expr} {n : Int} {p : Pos} (h : EvJ c a Γ μ (.int n) μ1) (hn : n < 2 ^ 62) (hg : c.sc.names.lookup ("range" : Str) = some .globalImplicit) (hm : c.mg "range" = none) (hl : -(2 ^ 62) ≤ n := by omega) (hs : isStar a = false := by rfl) : IterJ c tg (.Call (.Name "range" p) [a] [] pos) Γ μ (rgD 0 n.toNat) μ1 := fun X g =>
  ⟨_, pi_range1 (show X.env.scope.names.lookup ("range" : Str) = _ by rw [g.sc]; exact hg) (by rw [g.mg]; exact hm) pa_sem (by rw [star_cons hs]; rfl), fun φ π σ H s0 g0 R q => by
  refine (aj_cons h aj_nil hs : AJ c [a] Γ μ [_] μ1) X g φ π σ H s0 g0 _ fun vs π1 H1 n1 k1 => ?_
  obtain ⟨v, rfl, k⟩ := k1.one
  cases k
  exact ⟨n, rfl, hl, hn, q _ π1 H1 n1 rg_walks⟩⟩
theorem it_range2 {tg : Expr} {lo n : Int} {p : Pos} (h : EvJ c a Γ μ (.int lo) μ1) (h' : EvJ c b Γ μ1 (.int n) μ2) (hl : -(2 ^ 62) ≤ lo ∧ lo < 2 ^ 62) (hn : -(2 ^ 62) ≤ n ∧ n < 2 ^ 62) (hg : c.sc.names.lookup ("range" : Str) = some .globalImplicit) (hm : c.mg "range" = none) (hs : isStar a = false := by rfl) (hs' : isStar b = false := by rfl) :
    IterJ c tg (.Call (.Name "range" p) [a, b] [] pos) Γ μ (rgD lo (n - lo).toNat) μ2 := fun X g =>
  ⟨_, pi_range2 (show X.env.scope.names.lookup ("range" : Str) = _ by rw [g.sc]; exact hg) (by rw [g.mg]; exact hm) pa_sem (by rw [star_cons hs, star_cons hs']; rfl) (by rw [star_cons hs']; rfl), fun φ π σ H s0 g0 R q => by
  refine (aj_cons h (aj_cons h' aj_nil hs') hs : AJ c [a, b] Γ μ [_, _] μ2) X g φ π σ H s0 g0 _ fun vs π1 H1 n1 k1 => ?_
  obtain ⟨v, w, rfl, k, k'⟩ := k1.two
  cases k; cases k'
  exact ⟨lo, n, rfl, ⟨hl.1, hl.2, hn.1, hn.2⟩, q _ π1 H1 n1 rg_walks⟩⟩
/-- the signs of a text -/
def chD (z : Str) : List T := z.cps.toList.map fun k => T.str ⟨#[k]⟩
theorem it_str {tg : Expr} {z : Str} (h : EvJ c e Γ μ (.str z) μ1) : IterJ c tg e Γ μ (chD z) μ1 := fun X g => ⟨_, pi_str pe_sem, fun φ π σ H s0 g0 R q => by
  refine h X g φ π σ H s0 g0 _ fun v π1 H1 n1 k1 => ?_
  cases k1
  refine ⟨z, rfl, q _ π1 H1 n1 fun i φ2 π2 H2 μ2 s2' _ le => ⟨fun t ht => ?_, fun hi => ?_⟩⟩
  · unfold chD at ht
    rw [List.getElem?_map] at ht
    cases e : z.cps.toList[i]? with
    | none => rw [e] at ht; cases ht
    | some x =>
      rw [e] at ht
      cases ht
      have hi : i < z.cps.size := by have := (List.getElem?_eq_some_iff.mp e).1; simpa using this
      refine ⟨hi, fun y H' hy => ?_⟩
      obtain ⟨rfl, k, hk, rfl⟩ := hy
      rw [Array.getElem?_toList] at e
      rw [hk] at e; cases e
      exact ⟨Nxt.refl s2', .str _⟩
  · show z.cps.size ≤ i
    simpa [chD] using hi⟩

/-! ### for -/
/-- what the turns over its come to -/
def LoopJ (c : Ctx) (gt : TG) (body : List Stmt) : List T → List (Option T) → List M → Out → Prop
  | [], Γ, μ, o => o = .nx Γ μ
  | t :: ts, Γ, μ, o => ∃ Γ1 js, GvJ c gt t Γ μ Γ1 js ∧ ∃ o1, SJ c body Γ1 μ o1 ∧ match o1 with
    | .nx Γ2 μ2 => LoopJ c gt body ts Γ2 μ2 o
    | .ct Γ2 μ2 => LoopJ c gt body ts Γ2 μ2 o
    | .bk Γ2 μ2 => o = .nx Γ2 μ2
    | .rt u μ2 => o = .rt u μ2
theorem st_for {tg iter : Expr} {body : List Stmt} {its : List T} {gt : TG} (hi : IterJ c tg iter Γ μ its μ1) (hg : TgJ c tg gt) (hl : LoopJ c gt body its Γ μ1 o) (hs : ∀ env x, foldedSetIterable iter env x = pure x := by intro _ _; rfl) : StJ c (.For tg iter body [] pos) Γ μ o := by
  intro X g φ π σ H s0 g0 D q
  obtain ⟨wi, hpi, oki⟩ := hi X g
  refine toS (ps_for g.pass g.calm hpi (hg X g) pss_sem (hs X.env)) ?_
  refine oki φ π σ H s0 g0 _ fun J π1 H1 n1 wk => ?_
  refine ⟨fun i m σ' H' => m = its.length - i ∧ i ≤ its.length ∧ ∃ π2 Γ2 μ2, Nxt X.K φ π1 H1 μ1 π2 H' μ2 ∧ FOk X.K π2 (hd φ π2 μ2 H') Γ2 σ' ∧ LoopJ c gt body (its.drop i) Γ2 μ2 o, ⟨its.length, by simp, by simp, π1, Γ, μ1, Nxt.refl n1.ok, g0.nx n1, hl⟩, ?_⟩
  rintro i m σ' H' ⟨rfl, hle, π2, Γ2, μ2, n2, f2, l2⟩
  obtain ⟨w1, w2⟩ := wk i φ π2 H' μ2 n2.ok n2.ext n2.le
  by_cases hlt : i < its.length
  · have hd' : its.drop i = its[i] :: its.drop (i + 1) := List.drop_eq_getElem_cons hlt
    rw [hd'] at l2
    obtain ⟨Γ3, js, hv, o1, hb, l3⟩ := l2
    obtain ⟨go, yl⟩ := w1 its[i] (List.getElem?_eq_getElem hlt)
    refine .inr ⟨go, fun σ4 H4 => ∃ m', m' < its.length - i ∧ (m' = its.length - (i + 1) ∧ i + 1 ≤ its.length ∧ ∃ π2 Γ2 μ2, Nxt X.K φ π1 H1 μ1 π2 H4 μ2 ∧ FOk X.K π2 (hd φ π2 μ2 H4) Γ2 σ4 ∧ LoopJ c gt body (its.drop (i + 1)) Γ2 μ2 o), fun σ4 H4 h4 => h4, fun x H3 hx => ?_⟩
    obtain ⟨n3, k3⟩ := yl x H3 hx
    have f3 := f2.nx n3
    have s3 := n3.ok
    rw [g.K] at f3 s3 k3
    refine hv φ π2 σ' H3 x s3 f3 k3 _ fun σ5 f5 _ => ?_
    rw [← g.K] at f5 s3
    refine hb X g φ π2 σ5 H3 n3.ok f5 _ ?_
    cases o1 with
    | nx Γ4 μ4 => exact fun σ6 π6 H6 n6 f6 => ⟨_, by omega, rfl, hlt, π6, Γ4, μ4, (n2.trans n3).trans n6, f6, l3⟩
    | ct Γ4 μ4 => exact fun σ6 π6 H6 n6 f6 => ⟨_, by omega, rfl, hlt, π6, Γ4, μ4, (n2.trans n3).trans n6, f6, l3⟩
    | bk Γ4 μ4 =>
      have l3 : o = .nx Γ4 μ4 := l3
      subst l3
      exact fun σ6 π6 H6 n6 f6 => q σ6 π6 H6 (((n1.trans n2).trans n3).trans n6) f6
    | rt u μ4 =>
      have l3 : o = .rt u μ4 := l3
      subst l3
      exact fun v π6 H6 n6 f6 => q v π6 H6 (((n1.trans n2).trans n3).trans n6) f6
  · have e : i = its.length := by omega
    subst e
    rw [List.drop_length] at l2
    have l2 : o = .nx Γ2 μ2 := l2
    subst l2
    exact .inl ⟨w2 (Nat.le_refl _), q σ' π2 H' (n1.trans n2) f2⟩

/-! ### while -/
inductive WhJ (c : Ctx) (x : Expr) (body : List Stmt) : Nat → List (Option T) → List M → Out → Prop
  | done {Γ : List (Option T)} {μ μ1 : List M} (h : TJ c x Γ μ false μ1) : WhJ c x body 0 Γ μ (.nx Γ μ1)
  | more {Γ Γ2 : List (Option T)} {μ μ1 μ2 : List M} {o : Out} {n : Nat} (h : TJ c x Γ μ true μ1) (hb : SJ c body Γ μ1 (.nx Γ2 μ2)) (hr : WhJ c x body n Γ2 μ2 o) : WhJ c x body (n + 1) Γ μ o
  | cont {Γ Γ2 : List (Option T)} {μ μ1 μ2 : List M} {o : Out} {n : Nat} (h : TJ c x Γ μ true μ1) (hb : SJ c body Γ μ1 (.ct Γ2 μ2)) (hr : WhJ c x body n Γ2 μ2 o) : WhJ c x body (n + 1) Γ μ o
  | brk {Γ Γ2 : List (Option T)} {μ μ1 μ2 : List M} (h : TJ c x Γ μ true μ1) (hb : SJ c body Γ μ1 (.bk Γ2 μ2)) : WhJ c x body 0 Γ μ (.nx Γ2 μ2)
  | ret {Γ : List (Option T)} {μ μ1 μ2 : List M} {u : T} (h : TJ c x Γ μ true μ1) (hb : SJ c body Γ μ1 (.rt u μ2)) : WhJ c x body 0 Γ μ (.rt u μ2)
theorem st_while {x : Expr} {body : List Stmt} (h : ∃ n, WhJ c x body n Γ μ o) : StJ c (.While x body [] pos) Γ μ o := by
  intro X g φ π σ H s0 g0 D q
  obtain ⟨n, h⟩ := h
  refine toS (ps_while g.pass pt_sem pss_sem) ?_
  refine ⟨fun m σ' H' => ∃ π2 Γ2 μ2, Nxt X.K φ π H μ π2 H' μ2 ∧ FOk X.K π2 (hd φ π2 μ2 H') Γ2 σ' ∧ WhJ c x body m Γ2 μ2 o, ⟨n, π, Γ, μ, Nxt.refl s0, g0, h⟩, ?_⟩
  rintro m σ' H' ⟨π2, Γ2, μ2, n2, f2, w2⟩
  cases w2 with
  | done ht =>
    refine ht X g φ π2 σ' H' n2.ok f2 _ fun π3 H3 n3 => ?_
    rw [if_neg Bool.false_ne_true]
    exact q σ' π3 H3 (n2.trans n3) (f2.nx n3)
  | more ht hb hr =>
    refine ht X g φ π2 σ' H' n2.ok f2 _ fun π3 H3 n3 => ?_
    rw [if_pos rfl]
    refine ⟨_, fun σ4 H4 h4 => h4, ?_⟩
    exact hb X g φ π3 σ' H3 n3.ok (f2.nx n3) _ fun σ4 π4 H4 n4 f4 => ⟨_, Nat.lt_succ_self _, π4, _, _, (n2.trans n3).trans n4, f4, hr⟩
  | cont ht hb hr =>
    refine ht X g φ π2 σ' H' n2.ok f2 _ fun π3 H3 n3 => ?_
    rw [if_pos rfl]
    refine ⟨_, fun σ4 H4 h4 => h4, ?_⟩
    exact hb X g φ π3 σ' H3 n3.ok (f2.nx n3) _ fun σ4 π4 H4 n4 f4 => ⟨_, Nat.lt_succ_self _, π4, _, _, (n2.trans n3).trans n4, f4, hr⟩
  | brk ht hb =>
    refine ht X g φ π2 σ' H' n2.ok f2 _ fun π3 H3 n3 => ?_
    rw [if_pos rfl]
    refine ⟨fun _ _ => False, fun σ4 H4 h4 => h4.elim, ?_⟩
    exact hb X g φ π3 σ' H3 n3.ok (f2.nx n3) _ fun σ4 π4 H4 n4 f4 => q σ4 π4 H4 ((n2.trans n3).trans n4) f4
  | ret ht hb =>
    refine ht X g φ π2 σ' H' n2.ok f2 _ fun π3 H3 n3 => ?_
    rw [if_pos rfl]
    refine ⟨fun _ _ => False, fun σ4 H4 h4 => h4.elim, ?_⟩
    exact hb X g φ π3 σ' H3 n3.ok (f2.nx n3) _ fun v π4 H4 n4 f4 => q v π4 H4 ((n2.trans n3).trans n4) f4

/-! ### list comprehensions -/
def wipeG (Γ : List (Option T)) : List Nat → List (Option T)
  | [] => Γ
  | v :: vs => (wipeG Γ vs).set v none
theorem FOk.wipe {K : PySem.W.Frag} {π : List Addr} {Hd : Hp} {σ : L2.St} (h : FOk K π Hd Γ σ) : ∀ vs : List Nat, FOk K π Hd (wipeG Γ vs) (L2.wipe σ vs)
  | [] => h
  | v :: vs => by
    have ih := FOk.wipe h vs
    refine ⟨by simp [wipeG, L2.wipe, ih.len], fun i t e => ?_⟩
    unfold wipeG at e
    unfold L2.wipe
    by_cases hv : v = i
    · subst hv
      by_cases hl : v < (wipeG Γ vs).length
      · rw [List.getElem?_set_self hl] at e; cases e
      · rw [List.getElem?_eq_none (by simpa using hl)] at e; cases e
    · rw [List.getElem?_set_ne hv] at e
      rw [List.getElem?_set_ne hv]
      exact ih.at_ i t e
/-- the context of a comprehension's block -/
abbrev Ctx.blk (c : Ctx) (scope : Scope) : Ctx := { c with sc := relS scope c.sc, sto := fun x => scope.names.lookup x == some .cell || (relS scope c.sc).names.lookup x == some .local }
theorem Good.blk {X : Cx} (g : Good c X) (scope : Scope) (s : Shared) (H : Hp) (cl : List (Str × Addr)) (C : Addr) (fp : List Addr) : Good (c.blk scope) (X.blk s H scope (compEnvC scope cl C X.env) fp) := by
  have hsc : (compEnvC scope cl C X.env).scope = relS scope c.sc := by rw [← g.sc]; rfl
  refine ⟨g.prog, g.w, g.K, g.mg, g.base, g.N, hsc, g.nd, g.room, g.calm, PassesOwn.never, fun x hx => ?_⟩
  simp only [Ctx.blk, Bool.or_eq_true, beq_iff_eq] at hx
  rcases hx with hx | hx
  · left; show (scope.names.lookup x == some .cell) = true; rw [hx]; rfl
  · right; show (compEnvC scope cl C X.env).scope.names.lookup x = _; rw [hsc]; exact hx
def IfsJ (c : Ctx) (ifs : List Expr) (Γ : List (Option T)) (μ : List M) (b : Bool) (μ' : List M) : Prop := match ifs with
  | [] => b = true ∧ μ' = μ
  | [x] => TJ c x Γ μ b μ'
  | _ => False
/-- what the turns of a comprehension come to -/
def CmpJ (c : Ctx) (gt : TG) (elt : Expr) (ifs : List Expr) (Γ : List (Option T)) (vs : List Nat) : List T → List M → List D → List M → Prop
  | [], μ, ds, μ' => ds = [] ∧ μ' = μ
  | t :: ts, μ, ds, μ' => ∃ Γ1 js b μ2, GvJ c gt t Γ μ Γ1 js ∧ (∀ j ∈ js, j ∈ vs) ∧ IfsJ c ifs Γ1 μ b μ2 ∧
    (b = true → ∃ d μ3 ds', EvJ c elt Γ1 μ2 (.dat d) μ3 ∧ CmpJ c gt elt ifs Γ vs ts μ3 ds' μ' ∧ ds = d :: ds') ∧ (b = false → CmpJ c gt elt ifs Γ vs ts μ2 ds μ')
def semEB (X : Cx) (scope : Scope) (e : Expr) : TE := fun σ H Q => ∀ s0 H0 C cl fp, semE (X.blk s0 H0 scope (compEnvC scope cl C X.env) fp) e σ H Q
def semTsB (X : Cx) (scope : Scope) (ifs : List Expr) : TT := fun σ H Q => ∀ s0 H0 C cl fp pins s, Inv (X.blk s0 H0 scope (compEnvC scope cl C X.env) fp) pins σ H s →
    wpAny (model X.prog X.w) X.A (forIn ifs true fun c r => if r = true then do let ok ← isTrue c (compEnvC scope cl C X.env) (eval c (compEnvC scope cl C X.env)); pure (ForInStep.yield ok) else pure (ForInStep.yield r)) (TP (X.blk s0 H0 scope (compEnvC scope cl C X.env) fp) pins σ Q) (fun _ _ => False) s
theorem wipe_idem {σ : L2.St} {vs : List Nat} : L2.wipe (L2.wipe σ vs) vs = L2.wipe σ vs := by
  apply List.ext_getElem?
  intro i
  by_cases hi : i ∈ vs
  · by_cases hl : i < σ.length
    · rw [wipe_get hi (by simpa [wipe_length] using hl), wipe_get hi hl]
    · rw [List.getElem?_eq_none (by simp [wipe_length]; omega), List.getElem?_eq_none (by simp [wipe_length]; omega)]
  · rw [wipe_out hi]
theorem FOk.mono {K : PySem.W.Frag} {π π' : List Addr} {Hd Hd' : Hp} {σ : L2.St} (h : FOk K π Hd Γ σ) (he : ∃ π2, π' = π ++ π2) (e : Ex Hd Hd') : FOk K π' Hd' Γ σ := ⟨h.len, h.at_.mono he e⟩
theorem ifs_ok {X : Cx} (g : Good c X) {scope : Scope} {ifs : List Expr} {r : Bool} (h : IfsJ (c.blk scope) ifs Γ μ r μ1) {φ π : List Addr} {σ : L2.St} {H : Hp} (s0 : SOk X.K φ π H μ) (g0 : FOk X.K π (hd φ π μ H) Γ σ)
    {Q : Bool → Hp → Prop} (q : ∀ π' H', Nxt X.K φ π H μ π' H' μ1 → Q r H') : semTsB X scope ifs σ H Q := by
  intro sx Hx C cl fp pins s I
  have gb := g.blk scope sx Hx cl C fp
  match ifs, h with
  | [], h =>
    obtain ⟨rfl, rfl⟩ := h
    exact (pts_nil (X := X.blk sx Hx scope (compEnvC scope cl C X.env) fp)).run pins s σ H Q I (q π H (Nxt.refl s0))
  | [x], h =>
    exact (pts_one (X := X.blk sx Hx scope (compEnvC scope cl C X.env) fp) pt_sem).run pins s σ H Q I (h _ gb φ π σ H s0 g0 Q q)
/-- the reading of a comprehension -/
theorem lc_ok {X : Cx} (g : Good c X) {tg iter elt : Expr} {ifs : List Expr} {scope : Scope} {vs : List Nat} {gt : TG} {its : List T} {ds : List D} {wi : TI} {φ π : List Addr} {σ : L2.St} {H : Hp} {Q : VK}
    (oki : ∀ R : It → Hp → Prop, (∀ J π1 H1, Nxt X.K φ π H μ π1 H1 μ1 → Walks X.K J its φ π1 H1 μ1 → R J H1) → wi σ H R) (s0 : SOk X.K φ π H μ) (g0 : FOk X.K π (hd φ π μ H) Γ σ)
    (hz : its.length ≤ 1000000) (hl : CmpJ (c.blk scope) gt elt ifs (wipeG Γ vs) vs its μ1 ds μ2) (q : Pst X.K φ π H μ (.dat (.lst ds)) μ2 Q) : tLc wi gt (semTsB X scope ifs) (semEB X scope elt) vs σ H Q := by
  refine oki _ fun J π1 H1 n1 wk => fun Dl hD => ?_
  have hφ : Dl ∉ φ := fun z => n1.ok.notin hD (List.mem_append_left _ z)
  obtain ⟨f1, e1⟩ := n1.ok.frame (o := .lst []) hD
  refine ⟨fun i m H' => m = its.length - i ∧ i ≤ its.length ∧ ∃ π2 μ2' acc done rest, (∃ p, π2 = π1 ++ p) ∧ SOk X.K (Dl :: φ) π2 H' μ2' ∧ (∀ a ∈ φ, H' a = H1 a) ∧ Ex (hd φ π1 μ1 H1) (hd (Dl :: φ) π2 μ2' H') ∧ H' Dl = some (.lst acc) ∧ acc.length ≤ i ∧ DtL X.K (hd (Dl :: φ) π2 μ2' H') done acc ∧ CmpJ (c.blk scope) gt elt ifs (wipeG Γ vs) vs (its.drop i) μ2' rest μ2 ∧ ds = done ++ rest,
    ⟨its.length, by simp, by simp, π1, μ1, [], [], ds, ⟨[], by simp⟩, f1, fun a ha => upd_ne (show a ≠ Dl from fun z => hφ (z ▸ ha)), by rw [e1]; exact Ex.rfl', upd_same, Nat.le_refl _, .nil, hl, rfl⟩, ?_⟩
  rintro i m H' ⟨rfl, hle, π2, μ3, acc, done, rest, hext, s2, same2, le2, hacc, hal, hdone, l2, hds⟩
  obtain ⟨w1, w2⟩ := wk i (Dl :: φ) π2 H' μ3 s2 hext le2
  by_cases hlt : i < its.length
  · have hd' : its.drop i = its[i] :: its.drop (i + 1) := List.drop_eq_getElem_cons hlt
    rw [hd'] at l2
    obtain ⟨Γ1, js, b, μ4, hv, hjs, hifs, ht, hf⟩ := l2
    obtain ⟨go, yl⟩ := w1 its[i] (List.getElem?_eq_getElem hlt)
    refine .inr ⟨go, fun H5 => ∃ m', m' < its.length - i ∧ (m' = its.length - (i + 1) ∧ i + 1 ≤ its.length ∧ ∃ π2 μ2' acc done rest, (∃ p, π2 = π1 ++ p) ∧ SOk X.K (Dl :: φ) π2 H5 μ2' ∧ (∀ a ∈ φ, H5 a = H1 a) ∧ Ex (hd φ π1 μ1 H1) (hd (Dl :: φ) π2 μ2' H5) ∧ H5 Dl = some (.lst acc) ∧ acc.length ≤ i + 1 ∧ DtL X.K (hd (Dl :: φ) π2 μ2' H5) done acc ∧ CmpJ (c.blk scope) gt elt ifs (wipeG Γ vs) vs (its.drop (i + 1)) μ2' rest μ2 ∧ ds = done ++ rest), fun H5 h5 => h5, fun x H3 hx => ?_⟩
    obtain ⟨n3, k3⟩ := yl x H3 hx
    have f0 : FOk X.K π2 (hd (Dl :: φ) π2 μ3 H3) (wipeG Γ vs) (L2.wipe σ vs) := by
      refine (g0.wipe vs).mono ?_ ((n1.le.tr le2).tr n3.le)
      obtain ⟨p1, e1'⟩ := n1.ext
      obtain ⟨p2, e2'⟩ := hext
      exact ⟨p1 ++ p2, by rw [e2', e1', List.append_assoc]⟩
    have s3 := n3.ok
    have f0' := f0; have s3' := s3; have k3' := k3
    rw [g.K] at f0' s3' k3'
    refine hv (Dl :: φ) π2 (L2.wipe σ vs) H3 x s3' f0' k3' _ fun σ4 f4 w4 => ?_
    replace f4 : FOk X.K π2 (hd (Dl :: φ) π2 μ3 H3) Γ1 σ4 := by rw [g.K]; exact f4
    refine ⟨(w4 vs hjs).trans wipe_idem, ?_⟩
    refine ifs_ok g hifs s3 f4 fun π5 H5 n5 => ?_
    have n35 := n3.trans n5
    have ext5 : ∃ p, π5 = π1 ++ p := by
      obtain ⟨p1, e1'⟩ := hext
      obtain ⟨p2, e2'⟩ := n35.ext
      exact ⟨p1 ++ p2, by rw [e2', e1', List.append_assoc]⟩
    cases b with
    | false =>
      rw [if_neg Bool.false_ne_true]
      exact ⟨_, by omega, rfl, hlt, π5, μ4, acc, done, rest, ext5, n5.ok, fun a ha => (n35.same a (List.mem_cons_of_mem _ ha)).trans (same2 a ha), le2.tr n35.le, by rw [n35.same Dl (by simp)]; exact hacc, by omega, DtL.mono n35.le hdone, hf rfl, hds⟩
    | true =>
      rw [if_pos rfl]
      obtain ⟨d, μ5, ds', hev, l5, rfl⟩ := ht rfl
      intro sx Hx C cl fp
      refine hev _ (g.blk scope sx Hx cl C fp) (Dl :: φ) π5 σ4 H5 n5.ok (f4.nx n5) _ fun y π6 H6 n6 k6 => ?_
      have n36 := n35.trans n6
      have hD6 : H6 Dl = some (.lst acc) := by rw [n36.same Dl (by simp)]; exact hacc
      refine ⟨acc, hD6, Nat.lt_of_le_of_lt (Nat.le_trans hal hle) (Nat.lt_of_le_of_lt hz (by decide)), ?_⟩
      obtain ⟨s7, e7⟩ := n6.ok.fwrite (o := .lst (acc ++ [y]))
      refine ⟨_, by omega, rfl, hlt, π6, μ5, acc ++ [y], done ++ [d], ds', ?_, s7, fun a ha => ?_, ?_, upd_same, by simp; omega, ?_, l5, by rw [hds]; simp⟩
      · obtain ⟨p1, e1'⟩ := hext
        obtain ⟨p2, e2'⟩ := n36.ext
        exact ⟨p1 ++ p2, by rw [e2', e1', List.append_assoc]⟩
      · rw [upd_ne (show a ≠ Dl from fun z => hφ (z ▸ ha)), n36.same a (List.mem_cons_of_mem _ ha)]
        exact same2 a ha
      · rw [e7]; exact le2.tr n36.le
      · rw [e7]; exact (DtL.mono n36.le hdone).append (.cons k6 .nil)
  · have e : i = its.length := by omega
    subst e
    rw [List.drop_length] at l2
    obtain ⟨rfl, rfl⟩ := l2
    rw [List.append_nil] at hds
    subst hds
    refine .inl ⟨w2 (Nat.le_refl _), ?_⟩
    obtain ⟨u1, u2, u3⟩ := s2.unframe hφ
    exact q _ π2 H' (n1.trans ⟨hext, u1, same2, le2.tr u2⟩) (.lst (SqL.of (by rw [u3]; exact hacc)) (DtL.mono u2 hdone))
/-- the slots of the block's own names -/
theorem ev_comp {tg iter elt : Expr} {ifs : List Expr} {scope : Scope} {own : List (Str × Nat)} {gt : TG} {its : List T} {ds : List D} (hi : IterJ c tg iter Γ μ its μ1) (hb : blkC c.N c.sc scope own = true) (hg : TgJ (c.blk scope) tg gt)
    (hl : CmpJ (c.blk scope) gt elt ifs (wipeG Γ (own.map (·.2))) (own.map (·.2)) its μ1 ds μ2) (hz : its.length ≤ 1000000) (hs : ∀ env x, foldedSetIterable iter env x = pure x := by intro _ _; rfl) :
    EvJ c (.ListComp elt [⟨tg, iter, ifs, 0⟩] scope pos) Γ μ (.dat (.lst ds)) μ2 := by
  intro X g φ π σ H s0 g0 Q q
  obtain ⟨wi, hpi, oki⟩ := hi X g
  refine toE (pe_lc (own := own) (g := gt) (tt := semTsB X scope ifs) (te := semEB X scope elt) g.calm (by rw [g.N]; exact g.nd) hpi (by rw [g.N, g.sc]; exact blkOk_by hb) (fun s H C cl fp => hg _ (g.blk scope s H cl C fp)) (fun s H C cl fp => ⟨fun pins s' σ H' Q I h => h s H C cl fp pins s' I⟩) (fun s H C cl fp => ⟨fun pins s' σ H' Q I h => h s H C cl fp pins s' I⟩) (hs X.env)) ?_
  exact lc_ok (tg := tg) (iter := iter) g (oki φ π σ H s0 g0) s0 g0 hz hl q
/-- name = [.. for ..] -/
theorem st_setLc {tg iter elt : Expr} {ifs : List Expr} {scope : Scope} {own : List (Str × Nat)} {gt : TG} {its : List T} {ds : List D} {i : Nat} {y : Str} {py spos : Pos} (hi : IterJ c tg iter Γ μ its μ1) (hy : c.N[i]? = some y) (hyl : c.sc.names.lookup y = some .local) (hk : c.sc.kind = .function := by rfl) (hb : blkC c.N c.sc scope own = true) (hg : TgJ (c.blk scope) tg gt)
    (hl : CmpJ (c.blk scope) gt elt ifs (wipeG Γ (own.map (·.2))) (own.map (·.2)) its μ1 ds μ2) (hz : its.length ≤ 1000000) (hll : (py.line == pos.line) = true) (ha : (scope.names.any fun (n, k) => n == y && (k == .local || k == .cell)) = false) (hs : ∀ env x, foldedSetIterable iter env x = pure x := by intro _ _; rfl) :
    StJ c (.Assign [.Name y py] (.ListComp elt [⟨tg, iter, ifs, 0⟩] scope pos) spos) Γ μ (.nx (Γ.set i (some (.dat (.lst ds)))) μ2) := by
  intro X g φ π σ H s0 g0 D q
  obtain ⟨wi, hpi, oki⟩ := hi X g
  refine toS (ps_setLc (i := i) (own := own) (g := gt) (tt := semTsB X scope ifs) (te := semEB X scope elt) g.calm (by rw [g.N]; exact g.nd) (by rw [g.N]; exact hy) (by rw [g.sc]; exact hyl) (sw_true (by rw [g.sc]; exact hk) (by rw [g.sc]; exact hyl) hll ha) hpi (by rw [g.N, g.sc]; exact blkOk_by hb) (fun s H C cl fp => hg _ (g.blk scope s H cl C fp)) (fun s H C cl fp => ⟨fun pins s' σ H' Q I h => h s H C cl fp pins s' I⟩) (fun s H C cl fp => ⟨fun pins s' σ H' Q I h => h s H C cl fp pins s' I⟩) (hs X.env)) ?_
  exact lc_ok (tg := tg) (iter := iter) g (oki φ π σ H s0 g0) s0 g0 hz hl fun v π1 H1 n1 k1 => q _ π1 H1 n1 ((g0.nx n1).set k1)
end

/-! ### a def by its body -/
def g0 (N : List Str) (ts : List T) : List (Option T) := ts.map some ++ List.replicate (N.length - ts.length) none
def HasDef (G : Gc) (d : He.DefD) : Prop := ∃ fd, FunD G.K d.name d.qual d.params d.body d.scope (d.dvs G.K) (d.kws G.K) (He.fAd G.K d.at_) fd
def DefBinds (G : Gc) (d : He.DefD) (ps : List Str) (dts : List D) : Prop := ∀ fd, FunD G.K d.name d.qual d.params d.body d.scope (d.dvs G.K) (d.kws G.K) (He.fAd G.K d.at_) fd → ∃ dvs ds, Vals dvs ds ∧ Binds G.K fd ps ds ∧ ∀ H, DtL G.K H dts dvs
abbrev bodyC (G : Gc) (N : List Str) (d : He.DefD) (k : Nat) : Ctx := { G with N := N, sc := d.scope, k := k, sto := fun _ => true }
theorem start_ok {K : PySem.W.Frag} {π : List Addr} {Hd : Hp} {N : List Str} {ts : List T} {vs : List V} (h : TL K π Hd ts vs) : FOk K π Hd (g0 N ts) (L2.start N vs) := by
  have hl := h.len
  refine ⟨by simp [g0, L2.start, hl], fun i t e => ?_⟩
  unfold g0 at e
  by_cases hi : i < ts.length
  · rw [List.getElem?_append_left (by simpa using hi)] at e
    have : ∀ {ts : List T} {vs : List V}, TL K π Hd ts vs → ∀ (i : Nat) (t : T), (ts.map some)[i]? = some (some t) → ∃ v, (vs.map some)[i]? = some (some v) ∧ TOk K π Hd t v := by
      intro ts vs h
      induction h with
      | nil => intro i t e; simp at e
      | cons q _ ih =>
        intro i t e
        cases i with
        | zero => simp at e; subst e; exact ⟨_, rfl, q⟩
        | succ i => exact ih i t (by simpa using e)
    obtain ⟨v, h1, h2⟩ := this h i t e
    refine ⟨v, ?_, h2⟩
    unfold L2.start
    rw [List.getElem?_append_left (by simpa [← hl] using hi)]
    exact h1
  · rw [List.getElem?_append_right (by simpa using hi)] at e
    rw [List.getElem?_replicate] at e
    split at e <;> cases e
/-- what a body comes to, told as a call's end -/
def Out.ends : Out → T → List M → Prop
  | .nx _ μ1, t, μ2 => t = .dat .non ∧ μ1 = μ2
  | .rt u μ1, t, μ2 => u = t ∧ μ1 = μ2
  | _, _, _ => False
theorem call_body {G : Gc} {d : He.DefD} {N ps : List Str} {k : Nat} {ts : List T} {dts : List D} {μ μ' : List M} {t : T} {o : Out} (hD : HasDef G d) (S : FnScope N ps d.scope) (hb : DefBinds G d ps dts) (hl : (ts ++ dats dts).length = ps.length)
    (h : SJ (bodyC G N d k) d.body (g0 N (ts ++ dats dts)) μ o) (ho : o.ends t μ') : CallJ G (k + 1) d.at_ ts dts μ t μ' := by
  obtain ⟨fd, F⟩ := hD
  obtain ⟨dvs, ds, h1, h2, h3⟩ := hb fd F
  refine ⟨fd, ps, dvs, ds, F.kp, h1, h2, h3, ?_⟩
  refine F.ok S (fun vs H Q E hsp => ?_) fun cdv A outer s H vs Q E hr hsp => ⟨_, pss_sem, ?_⟩
  · obtain ⟨φ, π, _, hts, _⟩ := hsp
    rw [← hts.len, hl]
  · obtain ⟨φ, π, s0, hts, q⟩ := hsp
    have g : Good (bodyC G N d k) (cxOf (L2.CX G.P G.w) G.P G.w G.K G.mg G.base N d.qual d.scope (He.fAd G.K d.at_) cdv A outer s H E) :=
      ⟨rfl, rfl, rfl, rfl, rfl, rfl, rfl, S.nd, hr, rfl, passes_of rfl, fun _ _ => .inl rfl⟩
    refine h _ g φ π _ H s0 (start_ok hts) _ ?_
    cases o with
    | nx Γ μ1 =>
      obtain ⟨rfl, rfl⟩ := ho
      exact fun σ' π' H' n f => q _ π' H' n .non
    | rt u μ1 =>
      obtain ⟨rfl, rfl⟩ := ho
      exact q
    | bk _ _ => cases ho
    | ct _ _ => cases ho
/-- no defaults -/
theorem binds0 {G : Gc} {d : He.DefD} {ps : List Str} (hd : d.dfl = []) (h : ∀ (kV doc pm : Value) (an : Option Addr) (cdv ct : Value) (us : List Value), us.length = ps.length → bindArgs (PySem.W.fnOf d.name d.qual d.params d.body d.scope .none kV doc pm an cdv ct) ⟨us, []⟩ = pure (ps.zip us)) : DefBinds G d ps [] := fun fd F => by
  have e : d.dvs G.K = [] := by unfold He.DefD.dvs; rw [hd]; rfl
  rw [e] at F
  exact ⟨[], [], .nil, F.bindsN h, fun _ => .nil⟩
/-- a law that comes to True, told for its row's end -/
theorem law_sp {K : PySem.W.Frag} {ns : List Int} {a : Addr} {H : Hp} (hS : SqL K H a (ns.map V.int)) : spJ K [.dat (.lst (ns.map D.int))] [] (.dat (.bl true)) [] [.ref a] H (fun v _ => v = .bl true) fun _ _ _ => False := by
  have s0 : SOk K [] [] H [] := ⟨(fun x h => nomatch h), rfl, List.nodup_nil, fun i a m h => by cases h⟩
  have e : hd [] [] [] H = H := by funext b; simp [hd, hds]
  refine ⟨[], [], s0, .cons (.lst ?_ intDt) .nil, fun v π' H' n k => by cases k; rfl⟩
  rw [e]; exact hS
end EN
/-! Short rules for the walk; the head. -/
namespace EN
open PySem PySem.Spec PyProof.Rows L2

def dbgB (x : Str) : Bool := !(x == ("__debug__" : Str)) && !(x == ("__classdict__" : Str))
def visB (sc : Scope) (x : Str) : Bool := dbgB x && match sc.names.lookup x with
  | some .local => true | some .cell => true | some .free => true
  | _ => false
theorem visB_ok {sc : Scope} {x : Str} (h : visB sc x = true) : Vis sc x ∧ (x == ("__debug__" : Str)) = false ∧ (x == ("__classdict__" : Str)) = false := by
  unfold visB at h
  simp only [Bool.and_eq_true, dbgB, Bool.not_eq_true'] at h
  obtain ⟨h0, h⟩ := h
  refine ⟨?_, h0⟩
  split at h <;> first | (rename_i q; first | exact .inl q | exact .inr (.inl q) | exact .inr (.inr q)) | cases h
def locB (sc : Scope) (x : Str) : Bool := match sc.names.lookup x with
  | some .local => true | some .cell => true
  | _ => false
theorem locB_ok {sc : Scope} {x : Str} (h : locB sc x = true) : Loc sc x := by
  unfold locB at h
  split at h <;> first | (rename_i q; first | exact .inl q | exact .inr q) | cases h
def gloB (sc : Scope) (x : Str) : Bool := dbgB x && match sc.names.lookup x with
  | some .globalImplicit => true
  | _ => false
theorem gloB_ok {sc : Scope} {x : Str} (h : gloB sc x = true) : sc.names.lookup x = some .globalImplicit ∧ (x == ("__debug__" : Str)) = false := by
  unfold gloB at h
  simp only [Bool.and_eq_true, dbgB, Bool.not_eq_true'] at h
  obtain ⟨h0, h⟩ := h
  refine ⟨?_, h0.1⟩
  split at h <;> first | assumption | cases h

/-- a constant of the module -/
def GCst (G : Gc) (x : Str) (d : D) : Prop := ∃ u v, G.mg x = some u ∧ RelV v u ∧ ∀ H, Dt G.K H d v
section
variable {c : Ctx} {a b e : Expr} {es : List Expr} {Γ Γ1 Γ2 : List (Option T)} {μ μ1 μ2 μ3 : List M} {t t1 t2 t3 : T} {pos p : Pos} {d : D} {ds : List D} {ts : List T} {x : Str}
theorem ev_nm {i : Nat} (hN : c.N[i]? = some x) (hv : visB c.sc x = true) (hΓ : Γ[i]? = some (some t)) : EvJ c (.Name x pos) Γ μ t μ :=
  ev_name hN (visB_ok hv).1 hΓ (visB_ok hv).2.1 (visB_ok hv).2.2
theorem ev_gcst (h : GCst c.toGc x d) (hg : gloB c.sc x = true) : EvJ c (.Name x pos) Γ μ (.dat d) μ := by
  obtain ⟨u, v, h1, h2, h3⟩ := h
  exact ev_glob (gloB_ok hg).1 h1 h2 h3 (gloB_ok hg).2
/-- arguments that are data -/
def AjD (c : Ctx) (es : List Expr) (Γ : List (Option T)) (μ : List M) (ds : List D) (μ' : List M) : Prop := AJ c es Γ μ (dats ds) μ'
theorem ajd_nil : AjD c [] Γ μ [] μ := aj_nil
theorem ajd_cons (h : EvJ c e Γ μ (.dat d) μ1) (h' : AjD c es Γ μ1 ds μ2) (hs : isStar e = false := by rfl) : AjD c (e :: es) Γ μ (d :: ds) μ2 := aj_cons h h' hs
theorem ev_tupD {x1 : Nat} (h : AjD c es Γ μ ds μ1) (hl : Nat.ble ds.length 1000000 = true := by rfl) : EvJ c (.Tuple es x1 pos) Γ μ (.dat (.tup ds)) μ1 := ev_tup h rfl (Nat.le_of_ble_eq_true hl)
theorem ev_lstD (h : AjD c es Γ μ ds μ1) (hl : Nat.ble ds.length 1000000 = true := by rfl) : EvJ c (.List es pos) Γ μ (.dat (.lst ds)) μ1 := ev_lst h rfl (Nat.le_of_ble_eq_true hl)
/-! what is built in, by its name -/
theorem ev_len (ha : AJ c (e :: es) Γ μ ts μ1) (hc : C1J c (.builtin "len") ts μ1 t μ2) (hg : gloB c.sc "len" = true) (hm : c.mg "len" = none) (hs : (e :: es).all (fun e => !isStar e) = true := by rfl) : EvJ c (.Call (.Name "len" p) (e :: es) [] pos) Γ μ t μ2 :=
  ev_callB ha hc (gloB_ok hg).1 hm (by decide +kernel) hs
theorem ev_all (ha : AJ c (e :: es) Γ μ ts μ1) (hc : C1J c (.builtin "all") ts μ1 t μ2) (hg : gloB c.sc "all" = true) (hm : c.mg "all" = none) (hs : (e :: es).all (fun e => !isStar e) = true := by rfl) : EvJ c (.Call (.Name "all" p) (e :: es) [] pos) Γ μ t μ2 :=
  ev_callB ha hc (gloB_ok hg).1 hm (by decide +kernel) hs
theorem ev_any (ha : AJ c (e :: es) Γ μ ts μ1) (hc : C1J c (.builtin "any") ts μ1 t μ2) (hg : gloB c.sc "any" = true) (hm : c.mg "any" = none) (hs : (e :: es).all (fun e => !isStar e) = true := by rfl) : EvJ c (.Call (.Name "any" p) (e :: es) [] pos) Γ μ t μ2 :=
  ev_callB ha hc (gloB_ok hg).1 hm (by decide +kernel) hs
theorem ev_sum (ha : AJ c (e :: es) Γ μ ts μ1) (hc : C1J c (.builtin "sum") ts μ1 t μ2) (hg : gloB c.sc "sum" = true) (hm : c.mg "sum" = none) (hs : (e :: es).all (fun e => !isStar e) = true := by rfl) : EvJ c (.Call (.Name "sum" p) (e :: es) [] pos) Γ μ t μ2 :=
  ev_callB ha hc (gloB_ok hg).1 hm (by decide +kernel) hs
theorem ev_max (ha : AJ c (e :: es) Γ μ ts μ1) (hc : C1J c (.builtin "max") ts μ1 t μ2) (hg : gloB c.sc "max" = true) (hm : c.mg "max" = none) (hs : (e :: es).all (fun e => !isStar e) = true := by rfl) : EvJ c (.Call (.Name "max" p) (e :: es) [] pos) Γ μ t μ2 :=
  ev_callB ha hc (gloB_ok hg).1 hm (by decide +kernel) hs
theorem ev_min (ha : AJ c (e :: es) Γ μ ts μ1) (hc : C1J c (.builtin "min") ts μ1 t μ2) (hg : gloB c.sc "min" = true) (hm : c.mg "min" = none) (hs : (e :: es).all (fun e => !isStar e) = true := by rfl) : EvJ c (.Call (.Name "min" p) (e :: es) [] pos) Γ μ t μ2 :=
  ev_callB ha hc (gloB_ok hg).1 hm (by decide +kernel) hs
theorem ev_intC (ha : AJ c (e :: es) Γ μ ts μ1) (hc : C1J c (.type "int") ts μ1 t μ2) (hg : gloB c.sc "int" = true) (hm : c.mg "int" = none) (hs : (e :: es).all (fun e => !isStar e) = true := by rfl) : EvJ c (.Call (.Name "int" p) (e :: es) [] pos) Γ μ t μ2 :=
  ev_callTy ha hc (gloB_ok hg).1 hm (by decide +kernel) hs
theorem ev_strC (ha : AJ c (e :: es) Γ μ ts μ1) (hc : C1J c (.type "str") ts μ1 t μ2) (hg : gloB c.sc "str" = true) (hm : c.mg "str" = none) (hs : (e :: es).all (fun e => !isStar e) = true := by rfl) : EvJ c (.Call (.Name "str" p) (e :: es) [] pos) Γ μ t μ2 :=
  ev_callTy ha hc (gloB_ok hg).1 hm (by decide +kernel) hs
theorem ev_listC (ha : AJ c (e :: es) Γ μ ts μ1) (hc : C1J c (.type "list") ts μ1 t μ2) (hg : gloB c.sc "list" = true) (hm : c.mg "list" = none) (hs : (e :: es).all (fun e => !isStar e) = true := by rfl) : EvJ c (.Call (.Name "list" p) (e :: es) [] pos) Γ μ t μ2 :=
  ev_callTy ha hc (gloB_ok hg).1 hm (by decide +kernel) hs
theorem ev_tupleC (ha : AJ c (e :: es) Γ μ ts μ1) (hc : C1J c (.type "tuple") ts μ1 t μ2) (hg : gloB c.sc "tuple" = true) (hm : c.mg "tuple" = none) (hs : (e :: es).all (fun e => !isStar e) = true := by rfl) : EvJ c (.Call (.Name "tuple" p) (e :: es) [] pos) Γ μ t μ2 :=
  ev_callTy ha hc (gloB_ok hg).1 hm (by decide +kernel) hs
theorem ev_isiTy {n : String} {y : Str} {q : Pos} {v : Value} {r : Bool} (ha : EvJ c a Γ μ (.dat d) μ1) (hv : bootBuiltins y = some (.type n)) (ht : DTy c.K d v) (hk : PySem.W.kitOne c.K v (.type n) = some r) (hg : gloB c.sc "isinstance" = true) (hm : c.mg "isinstance" = none) (hg2 : gloB c.sc y = true) (hm2 : c.mg y = none)
    (hs : isStar a = false := by rfl) (hn : y ≠ "__name__" := by decide +kernel) : EvJ c (.Call (.Name "isinstance" p) [a, .Name y q] [] pos) Γ μ (.bl r) μ1 :=
  ev_isi ha (evc_ty (gloB_ok hg2).1 hm2 hv hn (gloB_ok hg2).2) ht hk rfl (gloB_ok hg).1 hm hs rfl
/-- the built-in type of data -/
def tyD : D → Option String
  | .non => some "NoneType" | .bl _ => some "bool" | .int _ => some "int" | .str _ => some "str"
  | .lst _ => some "list" | .tup _ => some "tuple" | .dic _ => some "dict"
  | .ins _ _ => none
  | .fn _ => none
theorem tyD_ok {K : PySem.W.Frag} {n : String} (h : tyD d = some n) : DTy K d (.type n) := by
  cases d <;> first | (cases h; done) | (cases h; first | exact .non | exact .bl _ | exact .int _ | exact .str _ | exact .lst _ | exact .tup _ | exact .dic _)
theorem ev_isiB {n m : String} {y : Str} {q : Pos} {r : Bool} (ha : EvJ c a Γ μ (.dat d) μ1) (ht : tyD d = some m) (hv : bootBuiltins y = some (.type n)) (hk : kitB m n = some r) (hg : gloB c.sc "isinstance" = true) (hm : c.mg "isinstance" = none) (hg2 : gloB c.sc y = true) (hm2 : c.mg y = none)
    (hs : isStar a = false := by rfl) (hn : y ≠ "__name__" := by decide +kernel) : EvJ c (.Call (.Name "isinstance" p) [a, .Name y q] [] pos) Γ μ (.bl r) μ1 :=
  ev_isiTy ha hv (tyD_ok ht) (kit_ty hk) hg hm hg2 hm2 hs hn
section
theorem ev_isi_str {m : String} {q : Pos} {r : Bool} (ha : EvJ c a Γ μ (.dat d) μ1) (ht : tyD d = some m) (hk : kitB m "str" = some r) (hg : gloB c.sc "isinstance" = true) (hm : c.mg "isinstance" = none) (hg2 : gloB c.sc "str" = true) (hm2 : c.mg "str" = none)
    (hs : isStar a = false) : EvJ c (.Call (.Name "isinstance" p) [a, .Name "str" q] [] pos) Γ μ (.bl r) μ1 := ev_isiB ha ht (by decide +kernel) hk hg hm hg2 hm2 hs
theorem ev_isi_int {m : String} {q : Pos} {r : Bool} (ha : EvJ c a Γ μ (.dat d) μ1) (ht : tyD d = some m) (hk : kitB m "int" = some r) (hg : gloB c.sc "isinstance" = true) (hm : c.mg "isinstance" = none) (hg2 : gloB c.sc "int" = true) (hm2 : c.mg "int" = none)
    (hs : isStar a = false) : EvJ c (.Call (.Name "isinstance" p) [a, .Name "int" q] [] pos) Γ μ (.bl r) μ1 := ev_isiB ha ht (by decide +kernel) hk hg hm hg2 hm2 hs
theorem ev_isi_bool {m : String} {q : Pos} {r : Bool} (ha : EvJ c a Γ μ (.dat d) μ1) (ht : tyD d = some m) (hk : kitB m "bool" = some r) (hg : gloB c.sc "isinstance" = true) (hm : c.mg "isinstance" = none) (hg2 : gloB c.sc "bool" = true) (hm2 : c.mg "bool" = none)
    (hs : isStar a = false) : EvJ c (.Call (.Name "isinstance" p) [a, .Name "bool" q] [] pos) Γ μ (.bl r) μ1 := ev_isiB ha ht (by decide +kernel) hk hg hm hg2 hm2 hs
theorem ev_isi_list {m : String} {q : Pos} {r : Bool} (ha : EvJ c a Γ μ (.dat d) μ1) (ht : tyD d = some m) (hk : kitB m "list" = some r) (hg : gloB c.sc "isinstance" = true) (hm : c.mg "isinstance" = none) (hg2 : gloB c.sc "list" = true) (hm2 : c.mg "list" = none)
    (hs : isStar a = false) : EvJ c (.Call (.Name "isinstance" p) [a, .Name "list" q] [] pos) Γ μ (.bl r) μ1 := ev_isiB ha ht (by decide +kernel) hk hg hm hg2 hm2 hs
theorem ev_isi_tuple {m : String} {q : Pos} {r : Bool} (ha : EvJ c a Γ μ (.dat d) μ1) (ht : tyD d = some m) (hk : kitB m "tuple" = some r) (hg : gloB c.sc "isinstance" = true) (hm : c.mg "isinstance" = none) (hg2 : gloB c.sc "tuple" = true) (hm2 : c.mg "tuple" = none)
    (hs : isStar a = false) : EvJ c (.Call (.Name "isinstance" p) [a, .Name "tuple" q] [] pos) Γ μ (.bl r) μ1 := ev_isiB ha ht (by decide +kernel) hk hg hm hg2 hm2 hs
theorem ev_isi_dict {m : String} {q : Pos} {r : Bool} (ha : EvJ c a Γ μ (.dat d) μ1) (ht : tyD d = some m) (hk : kitB m "dict" = some r) (hg : gloB c.sc "isinstance" = true) (hm : c.mg "isinstance" = none) (hg2 : gloB c.sc "dict" = true) (hm2 : c.mg "dict" = none)
    (hs : isStar a = false) : EvJ c (.Call (.Name "isinstance" p) [a, .Name "dict" q] [] pos) Γ μ (.bl r) μ1 := ev_isiB ha ht (by decide +kernel) hk hg hm hg2 hm2 hs
end
/-- an own def -/
theorem ev_own {dts : List D} {k : Nat} (ha : AJ c (e :: es) Γ μ ts μ1) (h : CallJ c.toGc k (x, none) ts dts μ1 t μ2) (hk : Nat.ble k c.k = true) (hg : gloB c.sc x = true) (hm : c.mg x = some (.ref (He.ga c.K x)))
    (hs : (e :: es).all (fun e => !isStar e) = true := by rfl) : EvJ c (.Call (.Name x p) (e :: es) [] pos) Γ μ t μ2 :=
  ev_call ha h (Nat.le_of_ble_eq_true hk) (gloB_ok hg).1 hm hs (gloB_ok hg).2
theorem st_nm {i : Nat} (h : EvJ c e Γ μ t μ1) (hi : c.N[i]? = some x) (hx : locB c.sc x = true) (hs : isComp e = false := by rfl) (hf : c.sto x = true := by rfl) : StJ c (.Assign [.Name x p] e pos) Γ μ (.nx (Γ.set i (some t)) μ1) := st_set h hi (locB_ok hx) hs hf
theorem st_nmF {i : Nat} (hs : isComp e = false) (h : EvJ c e Γ μ t μ1) (hi : c.N[i]? = some x) (hx : locB c.sc x = true) (hf : c.sto x = true) : StJ c (.Assign [.Name x p] e pos) Γ μ (.nx (Γ.set i (some t)) μ1) := st_nm h hi hx hs hf
theorem st_exprF (hs : isComp e = false) (h : EvJ c e Γ μ t μ1) : StJ c (.Expr e pos) Γ μ (.nx Γ μ1) := st_expr h hs
theorem tg_nm {i : Nat} (hi : c.N[i]? = some x) (hx : locB c.sc x = true) (hf : c.sto x = true := by kernel_rfl) : TgJ c (.Name x p) (gName i) := tg_name hi (locB_ok hx) hf
/-! comprehensions that change nothing -/
theorem cmp_pure {gt : TG} {elt : Expr} {ifs : List Expr} {vs : List Nat} {its : List T} (f : T → D) (pr : T → Bool) (h : ∀ t ∈ its, ∃ Γ1 js, GvJ c gt t Γ μ Γ1 js ∧ (∀ j ∈ js, j ∈ vs) ∧ IfsJ c ifs Γ1 μ (pr t) μ ∧ (pr t = true → EvJ c elt Γ1 μ (.dat (f t)) μ)) :
    CmpJ c gt elt ifs Γ vs its μ ((its.filter pr).map f) μ := by
  induction its with
  | nil => exact ⟨rfl, rfl⟩
  | cons t r ih =>
    obtain ⟨Γ1, js, h1, h2, h3, h4⟩ := h t (by simp)
    have ih := ih fun t ht => h t (List.mem_cons_of_mem _ ht)
    refine ⟨Γ1, js, pr t, μ, h1, h2, h3, fun e => ⟨f t, μ, _, h4 e, ih, ?_⟩, fun e => ?_⟩
    · rw [List.filter_cons, if_pos e]; rfl
    · rw [List.filter_cons, if_neg (by rw [e]; exact Bool.false_ne_true)]; exact ih
/-- over data, the target a name -/
theorem cmp_dat {i : Nat} {elt : Expr} {ifs : List Expr} {vs : List Nat} (f : D → D) (pr : D → Bool) (hi : i ∈ vs) (h : ∀ x ∈ ds, IfsJ c ifs (Γ.set i (some (.dat x))) μ (pr x) μ ∧ (pr x = true → EvJ c elt (Γ.set i (some (.dat x))) μ (.dat (f x)) μ)) :
    CmpJ c (gName i) elt ifs Γ vs (dats ds) μ ((ds.filter pr).map f) μ := by
  induction ds with
  | nil => exact ⟨rfl, rfl⟩
  | cons t r ih =>
    obtain ⟨h3, h4⟩ := h t (by simp)
    have ih := ih fun t ht => h t (List.mem_cons_of_mem _ ht)
    refine ⟨_, [i], pr t, μ, gv_name, by simpa using hi, h3, fun e => ⟨f t, μ, _, h4 e, ih, ?_⟩, fun e => ?_⟩
    · rw [List.filter_cons, if_pos e]; rfl
    · rw [List.filter_cons, if_neg (by rw [e]; exact Bool.false_ne_true)]; exact ih
theorem cmp_map {i : Nat} {elt : Expr} {vs : List Nat} (f : D → D) (hi : i ∈ vs) (h : ∀ x ∈ ds, EvJ c elt (Γ.set i (some (.dat x))) μ (.dat (f x)) μ) : CmpJ c (gName i) elt [] Γ vs (dats ds) μ (ds.map f) μ := by
  have q := cmp_dat (c := c) (Γ := Γ) (μ := μ) (elt := elt) (ifs := []) f (fun _ => true) hi fun x hx => ⟨⟨rfl, rfl⟩, fun _ => h x hx⟩
  rwa [List.filter_eq_self.mpr fun _ _ => rfl] at q
theorem cmp_rg {i : Nat} {elt : Expr} {vs : List Nat} {n : Nat} {lo : Int} (f : Nat → D) (hi : i ∈ vs) (h : ∀ k, k < n → EvJ c elt (Γ.set i (some (.int (lo + (k : Nat))))) μ (.dat (f k)) μ) : CmpJ c (gName i) elt [] Γ vs (rgD lo n) μ ((List.range n).map f) μ := by
  have key : ∀ l : List Nat, (∀ k ∈ l, k < n) → CmpJ c (gName i) elt [] Γ vs (l.map fun k => T.int (lo + (k : Nat))) μ (l.map f) μ := by
    intro l
    induction l with
    | nil => exact fun _ => ⟨rfl, rfl⟩
    | cons k r ih =>
      intro hl
      exact ⟨_, [i], true, μ, gv_name, by simpa using hi, ⟨rfl, rfl⟩, fun _ => ⟨f k, μ, _, h k (hl k (by simp)), ih fun j hj => hl j (List.mem_cons_of_mem _ hj), rfl⟩, fun e => nomatch e⟩
  exact key _ fun k hk => List.mem_range.mp hk
theorem cmp_ch {i : Nat} {elt : Expr} {vs : List Nat} {z : Str} (f : Nat → D) (hi : i ∈ vs) (h : ∀ k ∈ z.cps.toList, EvJ c elt (Γ.set i (some (.str ⟨#[k]⟩))) μ (.dat (f k)) μ) : CmpJ c (gName i) elt [] Γ vs (chD z) μ (z.cps.toList.map f) μ := by
  have key : ∀ l : List Nat, (∀ k ∈ l, k ∈ z.cps.toList) → CmpJ c (gName i) elt [] Γ vs (l.map fun k => T.str ⟨#[k]⟩) μ (l.map f) μ := by
    intro l
    induction l with
    | nil => exact fun _ => ⟨rfl, rfl⟩
    | cons k r ih =>
      intro hl
      exact ⟨_, [i], true, μ, gv_name, by simpa using hi, ⟨rfl, rfl⟩, fun _ => ⟨f k, μ, _, h k (hl k (by simp)), ih fun j hj => hl j (List.mem_cons_of_mem _ hj), rfl⟩, fun e => nomatch e⟩
  exact key _ fun k hk => hk
theorem len_dats : (dats ds).length = ds.length := by simp [dats]
theorem len_rg {lo : Int} {n : Nat} : (rgD lo n).length = n := by simp [rgD]
theorem len_ch {z : Str} : (chD z).length = z.length := by simp [chD, Str.length]
/-! methods of texts and lists -/
def noBase : Expr → Bool
  | .Call .. => false
  | _ => true
theorem base_ok (h : noBase e = true) (f : Str) (env : Env) : attributeBase e f env (eval e env) = eval e env := by
  cases e <;> first | rfl | cases h
def isSuper : Expr → Bool
  | .Call (.Name id _) [] [] _ => id == ("super" : Str)
  | _ => false
theorem base_ok2 (h : isSuper e = false) (f : Str) (env : Env) : attributeBase e f env (eval e env) = eval e env := by
  unfold attributeBase
  split
  · rename_i id _ pos
    simp only [isSuper] at h
    have : (id != ("super" : Str)) = true := by simp [bne, h]
    rw [this]
    rfl
  · rfl
/-- sep.join(..) -/
theorem ev_join {sep : Str} {ys : List Str} {apos : Pos} (ho : EvJ c a Γ μ (.str sep) μ1) (he : EvJ c b Γ μ1 (.dat (.lst ds)) μ2) (hd' : ds = ys.map D.str) (hz : (ys.map (·.length)).sum + ys.length * sep.length ≤ 16777216) (hb : isSuper a = false := by rfl) (hs : isStar b = false := by rfl) (hl : (apos.endLine == pos.line) = true := by rfl) :
    EvJ c (.Call (.Attribute a "join" apos) [b] [] pos) Γ μ (.str (Txt.join sep ys)) μ2 := by
  subst hd'
  intro X g φ π σ H s0 g0 Q q
  refine toE (pe_join pe_sem pe_sem (star_cons hs _) (base_ok2 hb _ _) hl) ?_
  refine ho X g φ π σ H s0 g0 _ fun v π1 H1 n1 k1 => ?_
  cases k1
  refine ⟨⟨_, rfl⟩, ?_⟩
  refine he X g φ π1 σ H1 n1.ok (g0.nx n1) _ fun w π2 H2 n2 k2 => ?_
  cases k2 with
  | lst s l => exact ⟨_, _, ys, rfl, rfl, .inl (by rw [dtStr l] at s; exact (hd_le _ _ _ _ : Ex _ _).sqL s), hz, q _ π2 H2 (n1.trans n2) (.str _)⟩
theorem ev_lower {z : Str} {apos : Pos} (ho : EvJ c a Γ μ (.str z) μ1) (hz : z.length ≤ 5592405) (hb : isSuper a = false := by rfl) (hl : (apos.endLine == pos.line) = true := by rfl) : EvJ c (.Call (.Attribute a "lower" apos) [] [] pos) Γ μ (.str (Txt.lower z)) μ1 := by
  intro X g φ π σ H s0 g0 Q q
  refine toE (pe_lower pe_sem (base_ok2 hb _ _) hl) ?_
  refine ho X g φ π σ H s0 g0 _ fun v π1 H1 n1 k1 => ?_
  cases k1
  exact ⟨⟨_, rfl⟩, _, rfl, rfl, hz, q _ π1 H1 n1 (.str _)⟩
theorem ev_upper {z : Str} {apos : Pos} (ho : EvJ c a Γ μ (.str z) μ1) (hz : z.length ≤ 5592405) (hb : isSuper a = false := by rfl) (hl : (apos.endLine == pos.line) = true := by rfl) : EvJ c (.Call (.Attribute a "upper" apos) [] [] pos) Γ μ (.str (Txt.upper z)) μ1 := by
  intro X g φ π σ H s0 g0 Q q
  refine toE (pe_upper pe_sem (base_ok2 hb _ _) hl) ?_
  refine ho X g φ π σ H s0 g0 _ fun v π1 H1 n1 k1 => ?_
  cases k1
  exact ⟨⟨_, rfl⟩, _, rfl, rfl, hz, q _ π1 H1 n1 (.str _)⟩
/-! ### one's own lists -/
/-- [..], one's own -/
theorem ev_lstO (h : AJ c es Γ μ ts μ1) (hl : Nat.ble ts.length 1000000 = true := by rfl) : EvJ c (.List es pos) Γ μ (.own μ1.length) (μ1 ++ [.lst ts]) := by
  intro X g φ π σ H s0 g0 Q q
  refine toE (pe_lst pa_sem) ?_
  refine h X g φ π σ H s0 g0 _ fun vs π1 H1 n1 k1 => ?_
  have hl' : vs.length ≤ sizeLine := by
    rw [← k1.len]; exact Nat.le_trans (Nat.le_of_ble_eq_true hl) (by decide)
  refine ⟨hl', fun p np => ?_⟩
  have n2 := n1.ok.newOwn (o := .lst vs) (m := .lst ts) np rfl ⟨vs, upd_same, k1.mono ⟨[p], rfl⟩ Ex.rfl'⟩
  refine q _ (π1 ++ [p]) _ (n1.trans n2) ⟨p, ?_, rfl⟩
  rw [← n1.ok.len]; simp
/-- own.append(e) -/
theorem ev_append {i : Nat} {ts0 : List T} {apos : Pos} (ho : EvJ c a Γ μ (.own i) μ1) (he : EvJ c b Γ μ1 t μ2) (hi0 : μ1[i]? = some (.lst ts0)) (hi : μ2[i]? = some (.lst ts)) (hz : ts.length < sizeLine) (hb : isSuper a = false := by rfl) (hs : isStar b = false := by rfl) (hl : (apos.endLine == pos.line) = true := by rfl) :
    EvJ c (.Call (.Attribute a "append" apos) [b] [] pos) Γ μ (.dat .non) (μ2.set i (.lst (ts ++ [t]))) := by
  intro X g φ π σ H s0 g0 Q q
  refine toE (pe_bm PySem.F.plainAttrs_list PySem.F.slot_list_append PySem.F.type_list_append mt_append pe_sem (pa_cons pe_sem pa_nil (star_cons hs _)) (base_ok2 hb _ _) (by rw [star_cons hs]; rfl) hl (star_cons hs _) rfl) ?_
  refine ho X g φ π σ H s0 g0 _ fun v π1 H1 n1 k1 => ?_
  obtain ⟨p, hp, rfl⟩ := k1
  obtain ⟨vs0, hv0, _⟩ := n1.ok.obj i p _ hp hi0
  refine ⟨.inl ⟨rfl, vs0, SqL.of hv0⟩, ?_⟩
  refine he X g φ π1 σ H1 n1.ok (g0.nx n1) _ fun w π2 H2 n2 k2 => ?_
  have hp2 : π2[i]? = some p := by
    obtain ⟨p2, rfl⟩ := n2.ext
    rw [List.getElem?_append_left (List.getElem?_eq_some_iff.mp hp).1]; exact hp
  obtain ⟨vs, hv, hts⟩ := n2.ok.obj i p _ hp2 hi
  refine ⟨p, vs, w, rfl, rfl, hv, by rw [← hts.len]; exact hz, ?_⟩
  have n3 := n2.ok.write (o := .lst (vs ++ [w])) (m' := .lst (ts ++ [t])) hp2 hi rfl rfl ⟨_, upd_same, hts.append (.cons k2 .nil)⟩
  exact q _ π2 _ ((n1.trans n2).trans n3) .non
theorem no_swapS (h : isComp e = false) (tg : Expr) (l : Nat) (env : Env) : swapsWithSole [tg] e l env = pure false := by
  unfold swapsWithSole
  exact no_swap h _ _ _
/-- own[k] = e -/
theorem st_setIx {i k : Nat} {tg ix : Expr} {apos : Pos} {kI : Int} (he : EvJ c e Γ μ t μ1) (ho : EvJ c a Γ μ1 (.own i) μ1) (hx : EvJ c ix Γ μ1 (.int kI) μ1) (hi : μ1[i]? = some (.lst ts)) (hk : ixN ts.length kI = some k) (hs : isComp e = false := by rfl) (ht : isTup e = false := by rfl)
    (ha : ∀ env v, assign (.Subscript a ix apos) env v = (do
      let ov ← holding [v] (eval a env)
      let iv ← holding [v, ov] (eval ix env)
      standAt apos
      holding [v, ov, iv] (setItem ov iv v)
      release [v, ov, iv] []) := by intro _ _; rfl) : StJ c (.Assign [.Subscript a ix apos] e pos) Γ μ (.nx Γ (μ1.set i (.lst (ts.set k t)))) := by
  intro X g φ π σ H s0 g0 D q
  refine toS (ps_asg pe_sem (pg_sub pe_sem pe_sem set_list (ha X.env)) (no_swapS hs _ _ _) (no_stores ht _) rfl) ?_
  refine he X g φ π σ H s0 g0 _ fun w π1 H1 n1 k1 => ?_
  refine ho X g φ π1 σ H1 n1.ok (g0.nx n1) _ fun v π2 H2 n2 k2 => ?_
  refine hx X g φ π2 σ H2 n2.ok ((g0.nx n1).nx n2) _ fun u π3 H3 n3 k3 => ?_
  cases k3
  obtain ⟨p, hp, rfl⟩ := k2
  have hp3 : π3[i]? = some p := by
    obtain ⟨p2, rfl⟩ := n3.ext
    rw [List.getElem?_append_left (List.getElem?_eq_some_iff.mp hp).1]; exact hp
  obtain ⟨vs, hv, hts⟩ := n3.ok.obj i p _ hp3 hi
  refine ⟨p, vs, kI, k, rfl, rfl, hv, by rw [← hts.len]; exact hk, ?_⟩
  have hset : TL X.K π3 (hd φ π3 μ1 H3) (ts.set k t) (vs.set k w) := by
    have key : ∀ {ts : List T} {vs : List V} (k : Nat), TL X.K π3 (hd φ π3 μ1 H3) ts vs → TL X.K π3 (hd φ π3 μ1 H3) (ts.set k t) (vs.set k w) := by
      intro ts vs k h
      induction h generalizing k with
      | nil => exact .nil
      | cons q r ih =>
        cases k with
        | zero => exact .cons ((k1.nx n2).nx n3) r
        | succ k => exact .cons q (ih k)
    exact key k hts
  have n4 := n3.ok.write (o := .lst (vs.set k w)) (m' := .lst (ts.set k t)) hp3 hi rfl rfl ⟨_, upd_same, hset⟩
  exact q σ π3 _ (((n1.trans n2).trans n3).trans n4) (((g0.nx n1).nx n2).nx n3 |>.nx n4)
/-- an own list, read as data from here on -/
theorem EvJ.frz {i : Nat} (h : EvJ c e Γ μ (.own i) μ1) (hi : μ1[i]? = some (.lst (dats ds))) : EvJ c e Γ μ (.dat (.lst ds)) (μ1.set i (.frz (.lst ds))) := by
  intro X g φ π σ H s0 g0 Q q
  refine h X g φ π σ H s0 g0 _ fun v π1 H1 n1 k1 => ?_
  obtain ⟨p, hp, rfl⟩ := k1
  obtain ⟨vs, hv, hts⟩ := n1.ok.obj i p _ hp hi
  have n2 := n1.ok.freeze (d := .lst ds) hp hi rfl fun Hd' h1 h2 => .lst (SqL.of (h1 _ hv)) (DtL.mono h2 hts.dt)
  refine q _ π1 H1 (n1.trans n2) ?_
  have := n2.ok.obj i p (.frz (.lst ds)) hp (by rw [List.getElem?_set_self (List.getElem?_eq_some_iff.mp hi).1])
  exact this.2
/-- an own thing that is data by now -/
theorem EvJ.was {i : Nat} (h : EvJ c e Γ μ (.own i) μ1) (hi : μ1[i]? = some (.frz d)) : EvJ c e Γ μ (.dat d) μ1 := by
  intro X g φ π σ H s0 g0 Q q
  refine h X g φ π σ H s0 g0 _ fun v π1 H1 n1 k1 => ?_
  obtain ⟨p, hp, rfl⟩ := k1
  exact q _ π1 H1 n1 (n1.ok.obj i p _ hp hi).2
/-! own objects forgotten at a call's end -/
def T.inb (n : Nat) : T → Prop
  | .own i => i < n
  | .dat _ => True
  | .vls _ _ => True
def M.inb (n : Nat) : M → Prop
  | .lst ts => ∀ t ∈ ts, t.inb n
  | .dic kvs => ∀ kv ∈ kvs, kv.2.inb n
  | .ins _ fs => ∀ kv ∈ fs, kv.2.inb n
  | .frz _ => True
def Inb (μ : List M) : Prop := ∀ m ∈ μ, m.inb μ.length
theorem TOk.take {K : PySem.W.Frag} {π : List Addr} {Hd : Hp} {v : V} {n : Nat} (h : TOk K π Hd t v) (hb : t.inb n) : TOk K (π.take n) Hd t v := by
  cases t with
  | dat d => exact h
  | own i =>
    obtain ⟨a, h1, h2⟩ := h
    exact ⟨a, by rw [List.getElem?_take, if_pos (show i < n from hb)]; exact h1, h2⟩
  | vls ds vs => exact h
theorem TL.take {K : PySem.W.Frag} {π : List Addr} {Hd : Hp} {vs : List V} {n : Nat} (h : TL K π Hd ts vs) (hb : ∀ t ∈ ts, t.inb n) : TL K (π.take n) Hd ts vs := by
  induction h with
  | nil => exact .nil
  | cons q _ ih => exact .cons (q.take (hb _ (by simp))) (ih fun t ht => hb t (List.mem_cons_of_mem _ ht))
theorem TK.take {κ : Type} {K : PySem.W.Frag} {π : List Addr} {Hd : Hp} {kts : List (κ × T)} {vs : List (κ × V)} {n : Nat} (h : TK K π Hd kts vs) (hb : ∀ kv ∈ kts, kv.2.inb n) : TK K (π.take n) Hd kts vs := by
  induction h with
  | nil => exact .nil
  | cons q _ ih => exact .cons (q.take (hb (_, _) (List.mem_cons_self))) (ih fun t ht => hb t (List.mem_cons_of_mem _ ht))
theorem MOk.take {K : PySem.W.Frag} {π : List Addr} {Hd H : Hp} {a : Addr} {m : M} {n : Nat} (h : MOk K π Hd H a m) (hb : m.inb n) : MOk K (π.take n) Hd H a m := by
  cases m with
  | lst ts => obtain ⟨vs, h1, h2⟩ := h; exact ⟨vs, h1, h2.take hb⟩
  | dic ts => obtain ⟨vs, h1, h2⟩ := h; exact ⟨vs, h1, h2.take hb⟩
  | ins _ ts => obtain ⟨dx, vs, h1, h2⟩ := h; exact ⟨dx, vs, h1, h2.take hb⟩
  | frz d => exact h
theorem TL.inb {K : PySem.W.Frag} {π : List Addr} {Hd : Hp} {vs : List V} (h : TL K π Hd ts vs) : ∀ t ∈ ts, t.inb π.length := by
  induction h with
  | nil => intro t ht; cases ht
  | cons q _ ih =>
    intro t ht
    rcases List.mem_cons.mp ht with rfl | ht
    · cases t with
      | dat d => trivial
      | own i => obtain ⟨a, h1, _⟩ := q; exact (List.getElem?_eq_some_iff.mp h1).1
      | vls _ _ => trivial
    · exact ih t ht
theorem TK.inb {κ : Type} {K : PySem.W.Frag} {π : List Addr} {Hd : Hp} {kts : List (κ × T)} {vs : List (κ × V)} (h : TK K π Hd kts vs) : ∀ t ∈ kts, t.2.inb π.length := by
  induction h with
  | nil => intro t ht; cases ht
  | cons q _ ih =>
    intro t ht
    rcases List.mem_cons.mp ht with rfl | ht
    · rename_i t _ _ _ _
      cases t with
      | dat d => trivial
      | own i => obtain ⟨a, h1, _⟩ := q; exact (List.getElem?_eq_some_iff.mp h1).1
      | vls _ _ => trivial
    · exact ih t ht
theorem SOk.inb {K : PySem.W.Frag} {φ π : List Addr} {H : Hp} (s : SOk K φ π H μ) : Inb μ := fun m hm => by
  obtain ⟨i, hi⟩ := List.getElem?_of_mem hm
  have hil : i < π.length := by rw [s.len]; exact (List.getElem?_eq_some_iff.mp hi).1
  have h := s.obj i π[i] m (List.getElem?_eq_getElem hil) hi
  rw [← s.len]
  cases m with
  | lst ts => obtain ⟨vs, _, h2⟩ := h; exact h2.inb
  | dic ts => obtain ⟨vs, _, h2⟩ := h; exact h2.inb
  | ins _ ts => obtain ⟨dx, vs, _, h2⟩ := h; exact h2.inb
  | frz d => trivial
theorem CallJ.drop {G : Gc} {k : Nat} {at_ : Str × Option Str} {dts : List D} {μ2 : List M} (h : CallJ G k at_ ts dts μ t (μ1 ++ μ2)) (ht : t.inb μ1.length) (hb : Inb μ → Inb μ1) (hpl0 : μ.length ≤ μ1.length) : CallJ G k at_ ts dts μ t μ1 := by
  obtain ⟨fd, ps, dvs, ds, h1, h2, h3, h4, h5⟩ := h
  refine ⟨fd, ps, dvs, ds, h1, h2, h3, h4, h5.imp fun vs H Q E hsp => ?_⟩
  obtain ⟨φ, π, s0, hts, q⟩ := hsp
  refine ⟨φ, π, s0, hts, fun v π' H' n k => ?_⟩
  have hB := hb s0.inb
  obtain ⟨s1, le⟩ := n.ok.forget fun i a m q1 q2 q3 => q3.take (hB m (List.mem_of_getElem? q2))
  have hpl : π.length ≤ μ1.length := by rw [s0.len]; exact hpl0
  refine q v (π'.take μ1.length) H' ⟨?_, s1, n.same, n.le.tr le⟩ ((k.take ht).mono ⟨[], by simp⟩ le)
  obtain ⟨p, rfl⟩ := n.ext
  exact ⟨p.take (μ1.length - π.length), by rw [List.take_append, List.take_of_length_le hpl]⟩
/-! more -/
theorem ev_if_t {x : Expr} (h : TJ c x Γ μ true μ1) (h1 : EvJ c a Γ μ1 t μ2) : EvJ c (.IfExp x a b pos) Γ μ t μ2 := ev_if h (fun _ => h1) fun z => nomatch z
theorem ev_if_f {x : Expr} (h : TJ c x Γ μ false μ1) (h1 : EvJ c b Γ μ1 t μ2) : EvJ c (.IfExp x a b pos) Γ μ t μ2 := ev_if h (fun z => nomatch z) fun _ => h1
theorem ev_and_f {rest : List Expr} (h : EvJ c a Γ μ (.bl false) μ1) : EvJ c (.BoolOp .And (a :: b :: rest) pos) Γ μ (.bl false) μ1 := by
  intro X g φ π σ H s0 g0 Q q
  refine toE (pe_and pe_sem pe_sem) ?_
  refine h X g φ π σ H s0 g0 _ fun v π1 H1 n1 k1 => ?_
  cases k1
  refine ⟨_, rfl, ?_⟩
  rw [if_neg Bool.false_ne_true]
  exact q _ π1 H1 n1 (.bl false)
theorem ev_or_t {rest : List Expr} (h : EvJ c a Γ μ (.bl true) μ1) : EvJ c (.BoolOp .Or (a :: b :: rest) pos) Γ μ (.bl true) μ1 := by
  intro X g φ π σ H s0 g0 Q q
  refine toE (pe_or pe_sem pe_sem) ?_
  refine h X g φ π σ H s0 g0 _ fun v π1 H1 n1 k1 => ?_
  cases k1
  refine ⟨_, rfl, ?_⟩
  rw [if_pos rfl]
  exact q _ π1 H1 n1 (.bl true)
theorem wj_and_f {rest : List Expr} (h : TJ c a Γ μ false μ1) : WJ c (.BoolOp .And (a :: b :: rest) pos) Γ μ false μ1 := fun X g => by
  refine ⟨_, pw_and pt_sem pw_any, fun φ π σ H s0 g0 Q q => ?_⟩
  refine h X g φ π σ H s0 g0 _ fun π1 H1 n1 => ?_
  rw [if_neg Bool.false_ne_true]
  exact q π1 H1 n1
theorem wj_or_t {rest : List Expr} (h : TJ c a Γ μ true μ1) : WJ c (.BoolOp .Or (a :: b :: rest) pos) Γ μ true μ1 := fun X g => by
  refine ⟨_, pw_or pt_sem pw_any, fun φ π σ H s0 g0 Q q => ?_⟩
  refine h X g φ π σ H s0 g0 _ fun π1 H1 n1 => ?_
  rw [if_pos rfl]
  exact q π1 H1 n1
/-- {} -/
theorem ev_dict0 : EvJ c (.Dict [] [] pos) Γ μ (.dat (.dic [])) μ := by
  intro X g φ π σ H s0 g0 Q q
  refine toE pe_dnewK ?_
  intro p np
  obtain ⟨n1, at1⟩ := s0.newData (o := .dK []) np
  exact q _ π _ n1 (.dic (.inl at1) .nil)
/-- an item, wherever it is -/
theorem pick {α : Type} {xs : List α} {i : Int} (h0 : 0 ≤ i) (h1 : i < xs.length) : ∃ x ∈ xs, atI xs i = some x := ⟨_, List.getElem_mem _, atI_some h0 h1⟩
theorem cmp_rg_ex {i : Nat} {elt : Expr} {vs : List Nat} {n : Nat} {lo : Int} (pr : D → Prop) (hi : i ∈ vs) (h : ∀ k, k < n → ∃ d, pr d ∧ EvJ c elt (Γ.set i (some (.int (lo + (k : Nat))))) μ (.dat d) μ) :
    ∃ ds : List D, ds.length = n ∧ (∀ d ∈ ds, pr d) ∧ CmpJ c (gName i) elt [] Γ vs (rgD lo n) μ ds μ := by
  have key : ∀ l : List Nat, (∀ k ∈ l, k < n) → ∃ ds : List D, ds.length = l.length ∧ (∀ d ∈ ds, pr d) ∧ CmpJ c (gName i) elt [] Γ vs (l.map fun k => T.int (lo + (k : Nat))) μ ds μ := by
    intro l
    induction l with
    | nil => exact fun _ => ⟨[], rfl, fun _ h => (nomatch h), rfl, rfl⟩
    | cons k r ih =>
      intro hl
      obtain ⟨ds, h1, h2, h3⟩ := ih fun j hj => hl j (List.mem_cons_of_mem _ hj)
      obtain ⟨d, q1, q2⟩ := h k (hl k (by simp))
      refine ⟨d :: ds, by simp [h1], fun e he => ?_, _, [i], true, μ, gv_name, by simpa using hi, ⟨rfl, rfl⟩, fun _ => ⟨d, μ, _, q2, h3, rfl⟩, fun e => nomatch e⟩
      rcases List.mem_cons.mp he with rfl | he
      · exact q1
      · exact h2 e he
  obtain ⟨ds, h1, h2, h3⟩ := key (List.range n) fun k hk => List.mem_range.mp hk
  exact ⟨ds, by simpa using h1, h2, h3⟩
theorem strs_of {ds : List D} (h : ∀ d ∈ ds, ∃ z, d = D.str z) : ∃ zs : List Str, ds = zs.map D.str := by
  induction ds with
  | nil => exact ⟨[], rfl⟩
  | cons d r ih =>
    obtain ⟨zs, e⟩ := ih fun x hx => h x (List.mem_cons_of_mem _ hx)
    obtain ⟨z, rfl⟩ := h d (by simp)
    exact ⟨z :: zs, by simp [e]⟩
theorem ints_of {ds : List D} (h : ∀ d ∈ ds, ∃ z, d = D.int z) : ∃ zs : List Int, ds = zs.map D.int := by
  induction ds with
  | nil => exact ⟨[], rfl⟩
  | cons d r ih =>
    obtain ⟨zs, e⟩ := ih fun x hx => h x (List.mem_cons_of_mem _ hx)
    obtain ⟨z, rfl⟩ := h d (by simp)
    exact ⟨z :: zs, by simp [e]⟩
end
theorem slen_append (x y : Str) : (x ++ y).length = x.length + y.length := by
  show (x.cps ++ y.cps).size = x.cps.size + y.cps.size
  simp
abbrev cpL (z : Str) : List Nat := z.cps.toList
theorem cpL_ext {x y : Str} (h : cpL x = cpL y) : x = y := _root_.TL.ext_tl h
theorem cpL_append (x y : Str) : cpL (x ++ y) = cpL x ++ cpL y := _root_.TL.tl_append x y
theorem cpL_len (x : Str) : x.length = (cpL x).length := _root_.TL.len_tl x
theorem joinL_nil : ∀ l : List (List Nat), _root_.TL.joinL [] l = l.flatten
  | [] => rfl
  | [p] => by simp [_root_.TL.joinL]
  | p :: q :: r => by
    rw [_root_.TL.joinL, joinL_nil (q :: r)]
    simp
theorem cpL_join0 {y : Str} (hy : cpL y = []) (zs : List Str) : cpL (Txt.join y zs) = (zs.map cpL).flatten := by
  rw [_root_.TL.join_eq]
  show _root_.TL.tl (Str.join y zs) = _
  rw [_root_.TL.tl_join, show _root_.TL.tl y = [] from hy, joinL_nil]
theorem slen_join1 {y : Str} (hy : cpL y = []) {zs : List Str} (h : ∀ z ∈ zs, z.length = 1) : (Txt.join y zs).length = zs.length := by
  rw [cpL_len, cpL_join0 hy]
  induction zs with
  | nil => rfl
  | cons z r ih =>
    simp only [List.map_cons, List.flatten_cons, List.length_append, List.length_cons]
    rw [ih fun x hx => h x (List.mem_cons_of_mem _ hx), ← cpL_len, h z (by simp)]
    omega
theorem sum_len1 {zs : List Str} (h : ∀ z ∈ zs, z.length = 1) : (zs.map (·.length)).sum = zs.length := by
  induction zs with
  | nil => rfl
  | cons z r ih =>
    rw [List.map_cons, List.sum_cons, List.length_cons, ih fun x hx => h x (List.mem_cons_of_mem _ hx), h z (by simp)]
    omega
end EN
/-! The head: what the top leaves, read by a Hook. -/
namespace EN
open PySem PySem.Spec PyProof.Rows L2

def obsB (ex : PySem.W.Frag → Bool) (fn : List He.DefD) (K : PySem.W.Frag) : Bool × List He.FnW := (ex K && fn.all fun d => d.ok K, fn.map fun d => He.fnW K d.at_)
def obsBG (n : Nat) (ex : PySem.W.Frag → Bool) (fn : List He.DefD) (g : Addr → Option Obj) : Bool × List He.FnW := obsB ex fn (He.frG g (He.asD g n))
def valB (fn : List He.DefD) : Bool × List He.FnW := (true, fn.map He.DefD.val)
def SaysB (ex : PySem.W.Frag → Bool) (fn : List He.DefD) (K : PySem.W.Frag) : Prop := obsB ex fn K = valB fn
def hookB (n : Nat) (ex : PySem.W.Frag → Bool) (fn : List He.DefD) : PySem.W.Hook where
  α := Bool × List He.FnW
  obs := fun s => obsBG n ex fn s.heap.get?
  val := fun _ => valB fn
  says := fun _ h => ∃ K : PySem.W.Frag, K.In h ∧ SaysB ex fn K
  of := fun _ _ e => ⟨_, He.frG_in, e⟩
  keeps := fun _ _ _ ⟨K, hK, c⟩ k => ⟨K, PySem.W.Frag.In.keeps hK k, c⟩
theorem obsBG_eq {n : Nat} {ex : PySem.W.Frag → Bool} {fn : List He.DefD} {g : Addr → Option Obj} {s : Shared} (h : ∀ a, g a = s.heap.get? a) : obsBG n ex fn g = (hookB n ex fn).obs s := by
  have : g = s.heap.get? := funext h
  subst this; rfl
section
variable {ex : PySem.W.Frag → Bool} {fn : List He.DefD} {K : PySem.W.Frag}
theorem SaysB.all (c : SaysB ex fn K) : ex K = true ∧ (fn.all fun d => d.ok K) = true := by
  have := congrArg Prod.fst c
  simp only [obsB, valB, Bool.and_eq_true] at this
  exact this
theorem SaysB.def_ (c : SaysB ex fn K) (i : Nat) {d : He.DefD} (h : fn[i]? = some d) : ∃ fd, FunD K d.name d.qual d.params d.body d.scope (d.dvs K) (d.kws K) (He.fAd K d.at_) fd := by
  refine He.DefD.funD ?_ ?_
  · have := congrArg Prod.snd c
    simp only [obsB, valB] at this
    have h2 := congrArg (fun l : List He.FnW => l[i]?) this
    simp only [List.getElem?_map, h, Option.map_some] at h2
    exact Option.some.inj h2
  · exact List.all_eq_true.mp c.all.2 d (List.mem_of_getElem? h)
end
theorem gc_int {G : Gc} {x : Str} {i : Int} (h : ∃ t, G.mg x = some (.int i t)) : GCst G x (.int i) := by
  obtain ⟨t, h⟩ := h
  exact ⟨_, .int i, h, ⟨t, rfl⟩, fun _ => .int i⟩
theorem gc_str {G : Gc} {x : Str} {i : Str} (h : ∃ t, G.mg x = some (.str i t)) : GCst G x (.str i) := by
  obtain ⟨t, h⟩ := h
  exact ⟨_, .str i, h, ⟨t, rfl⟩, fun _ => .str i⟩
/-- a tuple of texts -/
theorem gc_tupS {G : Gc} {x : Str} {zs : List Str} (h : G.mg x = some (.ref (He.ga G.K x))) (ht : He.tupB G.K x (zs.map He.Dv.str) = true) : GCst G x (.tup (zs.map D.str)) := by
  refine ⟨_, .ref (He.ga G.K x), h, rfl, fun H => .tup (He.tupB_ok ht H) ?_⟩
  rw [List.map_map]
  exact strDt
/-- the law's def, told for the end -/
theorem law_end {G0 : Heap → Gc} {P : Program} {w : World} {K : PySem.W.Frag} {mg : Str → Option Value} {d : He.DefD} {N : List Str} {x : Str} {k : Nat} (hG : ∀ b, G0 b = ⟨P, w, K, mg, b⟩) (hd : d.dfl = []) (hk : d.kwd = [])
    (hD : ∃ fd, FunD K d.name d.qual d.params d.body d.scope (d.dvs K) (d.kws K) (He.fAd K d.at_) fd) (S : FnScope N [x] d.scope)
    (hbind : ∀ (kV doc pm : Value) (an : Option Addr) (cdv ct : Value) (us : List Value), us.length = 1 → bindArgs (PySem.W.fnOf d.name d.qual d.params d.body d.scope .none kV doc pm an cdv ct) ⟨us, []⟩ = pure ([x].zip us))
    (body : ∀ base : Heap, K.In base → base.Ns mainGlobals mg → ∀ ns : List Int, ns.length ≤ 63 → ∃ o, SJ (bodyC (G0 base) N d k) d.body (g0 N [.dat (.lst (ns.map D.int))]) [] o ∧ o.ends (.dat (.bl true)) []) :
    ∃ (fd : FuncData) (sp : Sp), (∀ (s : Shared) (u : Value), BindsTo s fd ⟨[u], []⟩ [(x, u)]) ∧
      (∀ (H : Hp) (a : Addr) (ns : List Int), ns.length ≤ 63 → Only H → SqL K H a (ns.map V.int) → sp [.ref a] H (fun v _ => v = .bl true) fun _ _ _ => False) ∧
      ∀ base : Heap, K.In base → base.Ns mainGlobals mg → FnOk P w K mg base L2.CX0 (k + 1) (He.fAd K d.at_) fd [x] sp := by
  obtain ⟨fd, F⟩ := hD
  have e : d.dvs K = [] := by unfold He.DefD.dvs; rw [hd]; rfl
  have e2 : d.kws K = [] := by unfold He.DefD.kws; rw [hk]; rfl
  rw [e, e2] at F
  refine ⟨fd, fun vs H Q _ => ∃ ns : List Int, ns.length ≤ 63 ∧ spJ K [.dat (.lst (ns.map D.int))] [] (.dat (.bl true)) [] vs H Q fun _ _ _ => False, fun s v => F.bindsA (ps := [x]) hbind s [v] rfl, fun H a ns hl _ hS => ⟨ns, hl, law_sp hS⟩, fun base kin ns' => ?_⟩
  have key : ∀ ns : List Int, ns.length ≤ 63 → FnOk P w K mg base (L2.CX P w) (k + 1) (He.fAd K d.at_) fd [x] (spJ K [.dat (.lst (ns.map D.int))] [] (.dat (.bl true)) []) := fun ns hns => by
    obtain ⟨o, h, ho⟩ := body base kin ns' ns hns
    refine F.ok S (fun vs H Q E hsp => ?_) fun cdv A outer s H vs Q E hr hsp => ⟨_, pss_sem, ?_⟩
    · obtain ⟨φ, π, _, hts, _⟩ := hsp
      rw [← hts.len]; rfl
    · obtain ⟨φ, π, s0, hts, q⟩ := hsp
      have g : Good (bodyC (G0 base) N d k) (cxOf (L2.CX P w) P w K mg base N d.qual d.scope (He.fAd K d.at_) cdv A outer s H E) := by
        rw [hG]
        exact ⟨rfl, rfl, rfl, rfl, rfl, rfl, rfl, S.nd, hr, rfl, passes_of rfl, fun _ _ => .inl rfl⟩
      refine h _ g φ π _ H s0 (start_ok hts) _ ?_
      cases o with
      | nx Γ μ1 => obtain ⟨q1, _⟩ := ho; cases q1
      | rt u μ1 =>
        obtain ⟨rfl, rfl⟩ := ho
        exact q
      | bk _ _ => cases ho
      | ct _ _ => cases ho
  refine ⟨fun vs H Q E ⟨ns, hl, hsp⟩ => (key ns hl).len vs H Q _ hsp, fun A outer s H args us vs Q E hr e0 hb hv ⟨ns, hl, hsp⟩ => ?_⟩
  refine codeAny_mono ((key ns hl).run A outer s H args us vs Q _ hr e0 hb hv hsp) fun r s' h => ?_
  cases r with
  | ok f => cases f <;> exact h
  | error e => obtain ⟨_, _, _, _, _, _, _, _, _, _, _, _, z⟩ := h; exact z
end EN
/-! what the laws share -/
namespace EN
open PySem PySem.Spec PyProof.Rows L2
theorem ev_neg {c : EN.Ctx} {a : Expr} {Γ : List (Option T)} {μ μ1 : List M} {pos : Pos} {i : Int} (h : EvJ c a Γ μ (.int i) μ1) : EvJ c (.UnaryOp .USub a pos) Γ μ (.int (-i)) μ1 := by
  intro X g φ π σ H s0 g0 Q q
  refine toE (pe_un un_neg pe_sem) ?_
  refine h X g φ π σ H s0 g0 _ fun v π1 H1 n1 k1 => ?_
  cases k1
  exact ⟨_, rfl, q _ π1 H1 n1 (.int _)⟩
theorem at_slice (ns : List Int) (lo hi : Option Int) : ∃ v : Int, atI (EN.cutD (ns.map D.int) lo hi ++ [D.int 0]) 0 = some (.int v) := by
  have h : ∃ ms : List Int, EN.cutD (ns.map D.int) lo hi = ms.map D.int := by
    refine ints_of fun d hd => ?_
    unfold EN.cutD at hd
    have := List.mem_of_mem_drop (List.mem_of_mem_take hd)
    obtain ⟨z, _, e⟩ := List.mem_map.mp this
    exact ⟨z, e.symm⟩
  obtain ⟨ms, e⟩ := h
  rw [e]
  cases ms with
  | nil => exact ⟨0, rfl⟩
  | cons m r => exact ⟨m, by rw [show (0 : Int) = ((0 : Nat) : Int) from rfl]; exact atI_nat rfl⟩
theorem cut_len (ds : List D) (lo hi : Option Int) : (EN.cutD ds lo hi).length ≤ ds.length := by
  unfold EN.cutD
  exact Nat.le_trans (List.length_take_le' _ _) (by rw [List.length_drop]; omega)
theorem cutS_len (z : Str) (lo hi : Option Int) : (cutS z lo hi).length ≤ z.length := by
  unfold cutS
  show (List.toArray _).size ≤ z.cps.size
  rw [List.size_toArray]
  exact Nat.le_trans (List.length_take_le' _ _) (by rw [List.length_drop]; simp)
theorem pickS {zs : List Str} {i : Int} (n : Nat) (hn : zs.all (fun z => Nat.ble z.length n) = true) (h0 : 0 ≤ i) (h1 : i < zs.length) : ∃ z, z ∈ zs ∧ z.length ≤ n ∧ atI (zs.map D.str) i = some (.str z) := by
  obtain ⟨d, hm, hd'⟩ := pick (xs := zs.map D.str) h0 (by simpa using h1)
  obtain ⟨z, hz, rfl⟩ := List.mem_map.mp hm
  exact ⟨z, hz, Nat.le_of_ble_eq_true (List.all_eq_true.mp hn z hz), hd'⟩
theorem pickC {z : Str} {i : Int} (h0 : 0 ≤ i) (h1 : i < (z.length : Int)) : ∃ k, atI z.cps.toList i = some k := by
  obtain ⟨k, _, h⟩ := pick (xs := z.cps.toList) h0 (by simpa [Str.length] using h1)
  exact ⟨k, h⟩
theorem ex_sj {c : EN.Ctx} {sts : List Stmt} {Γ : List (Option T)} {μ μ' : List M} {p : Str → Prop} {z : Str} (h : SJ c sts Γ μ (.rt (.str z) μ')) (hp : p z) : ∃ z, p z ∧ SJ c sts Γ μ (.rt (.str z) μ') := ⟨z, hp, h⟩
theorem ex_cons {c : EN.Ctx} {st : Stmt} {sts : List Stmt} {Γ Γ1 : List (Option T)} {μ μ1 μ' : List M} {p : Str → Prop} (h : StJ c st Γ μ (.nx Γ1 μ1)) (h' : ∃ z, p z ∧ SJ c sts Γ1 μ1 (.rt (.str z) μ')) : ∃ z, p z ∧ SJ c (st :: sts) Γ μ (.rt (.str z) μ') := by
  obtain ⟨z, hp, hs⟩ := h'
  exact ⟨z, hp, sj_cons h hs⟩
theorem ex_stop {c : EN.Ctx} {st : Stmt} {sts : List Stmt} {Γ : List (Option T)} {μ μ' : List M} {p : Str → Prop} (h : ∃ z, p z ∧ StJ c st Γ μ (.rt (.str z) μ')) : ∃ z, p z ∧ SJ c (st :: sts) Γ μ (.rt (.str z) μ') := by
  obtain ⟨z, hp, hs⟩ := h
  exact ⟨z, hp, sj_stop hs⟩
theorem ex_if_t {c : EN.Ctx} {A B : List Stmt} {x : Expr} {pos : Pos} {Γ : List (Option T)} {μ μ1 μ' : List M} {p : Str → Prop} (h : TJ c x Γ μ true μ1) (h1 : ∃ z, p z ∧ SJ c A Γ μ1 (.rt (.str z) μ')) : ∃ z, p z ∧ StJ c (.If x A B pos) Γ μ (.rt (.str z) μ') := by
  obtain ⟨z, hp, hs⟩ := h1
  exact ⟨z, hp, st_if_t h hs⟩
theorem ex_set {c : EN.Ctx} {e : Expr} {x : Str} {pp pos : Pos} {sts : List Stmt} {Γ : List (Option T)} {μ μ' : List M} {p : Str → Prop} {i : Nat} (t : T) (h : EvJ c e Γ μ t μ) (hi : c.N[i]? = some x) (hx : locB c.sc x = true) (h' : ∃ z, p z ∧ SJ c sts (Γ.set i (some t)) μ (.rt (.str z) μ')) (hs : isComp e = false := by rfl) (hf : c.sto x = true := by rfl) :
    ∃ z, p z ∧ SJ c (.Assign [.Name x pp] e pos :: sts) Γ μ (.rt (.str z) μ') := ex_cons (st_nm h hi hx hs hf) h'
theorem sj_set {c : EN.Ctx} {e : Expr} {x : Str} {pp pos : Pos} {sts : List Stmt} {Γ : List (Option T)} {μ : List M} {o : Out} {i : Nat} (t : T) (h : EvJ c e Γ μ t μ) (hi : c.N[i]? = some x) (hx : locB c.sc x = true) (h' : SJ c sts (Γ.set i (some t)) μ o) (hs : isComp e = false := by rfl) (hf : c.sto x = true := by rfl) :
    SJ c (.Assign [.Name x pp] e pos :: sts) Γ μ o := sj_cons (st_nm h hi hx hs hf) h'
/-- a loop that keeps I and goes on while q, and answers r at the first item without q -/
theorem loop_I {c : EN.Ctx} {body : List Stmt} {μ : List M} {i : Nat} {r : T} (I : List (Option T) → Prop) (q : T → Bool) (its : List T)
    (h1 : ∀ t ∈ its, q t = true → ∀ Γ, I Γ → ∃ Γ', I Γ' ∧ SJ c body (Γ.set i (some t)) μ (.nx Γ' μ))
    (h2 : ∀ t ∈ its, q t = false → ∀ Γ, I Γ → SJ c body (Γ.set i (some t)) μ (.rt r μ)) :
    ∀ Γ, I Γ → (its.all q = true → ∃ Γ', I Γ' ∧ LoopJ c (gName i) body its Γ μ (.nx Γ' μ)) ∧ (its.all q = false → LoopJ c (gName i) body its Γ μ (.rt r μ)) := by
  induction its with
  | nil => exact fun Γ hI => ⟨fun _ => ⟨Γ, hI, rfl⟩, fun h => by cases h⟩
  | cons t ts ih =>
    intro Γ hI
    have ih' := ih (fun u hu => h1 u (List.mem_cons_of_mem _ hu)) fun u hu => h2 u (List.mem_cons_of_mem _ hu)
    cases hq : q t with
    | false =>
      refine ⟨fun h => by simp [hq] at h, fun _ => ⟨_, [i], gv_name, _, h2 t (by simp) hq Γ hI, rfl⟩⟩
    | true =>
      obtain ⟨Γ', hI', hs⟩ := h1 t (by simp) hq Γ hI
      refine ⟨fun h => ?_, fun h => ?_⟩
      · obtain ⟨Γ2, h3, h4⟩ := (ih' Γ' hI').1 (by simpa [hq] using h)
        exact ⟨Γ2, h3, _, [i], gv_name, _, hs, h4⟩
      · exact ⟨_, [i], gv_name, _, hs, (ih' Γ' hI').2 (by simpa [hq] using h)⟩
theorem sj_forI {c : EN.Ctx} {tg iter : Expr} {body sts : List Stmt} {pos : Pos} {Γ : List (Option T)} {μ : List M} {i : Nat} {r : T} {o : Out} {its : List T} (I : List (Option T) → Prop) (q : T → Bool) (hI : I Γ) (hi : IterJ c tg iter Γ μ its μ) (hg : TgJ c tg (gName i))
    (h1 : ∀ t ∈ its, q t = true → ∀ Γ, I Γ → ∃ Γ', I Γ' ∧ SJ c body (Γ.set i (some t)) μ (.nx Γ' μ))
    (h2 : ∀ t ∈ its, q t = false → ∀ Γ, I Γ → SJ c body (Γ.set i (some t)) μ (.rt r μ))
    (hr : its.all q = true → ∀ Γ, I Γ → SJ c sts Γ μ o) (ho : its.all q = false → o = .rt r μ) (hs : ∀ env x, foldedSetIterable iter env x = pure x := by intro _ _; rfl) : SJ c (.For tg iter body [] pos :: sts) Γ μ o := by
  obtain ⟨q1, q2⟩ := loop_I I q its h1 h2 Γ hI
  cases hq : its.all q with
  | true =>
    obtain ⟨Γ', h3, h4⟩ := q1 hq
    exact sj_cons (st_for hi hg h4 hs) (hr hq Γ' h3)
  | false =>
    rw [ho hq]
    exact sj_stop (st_for hi hg (q2 hq) hs)
theorem st_setIxE {c : EN.Ctx} {e a ix : Expr} {pos apos : Pos} {Γ : List (Option T)} {μ μ1 μ' : List M} {t : T} {ts : List T} {i k : Nat} {kI : Int} (he : EvJ c e Γ μ t μ1) (ho : EvJ c a Γ μ1 (.own i) μ1) (hx : EvJ c ix Γ μ1 (.int kI) μ1) (hi : μ1[i]? = some (.lst ts)) (hk : ixN ts.length kI = some k) (hE : μ1.set i (.lst (ts.set k t)) = μ') (hs : isComp e = false := by rfl) (ht : isTup e = false := by rfl)
    (ha : ∀ env v, assign (.Subscript a ix apos) env v = (do
      let ov ← holding [v] (eval a env)
      let iv ← holding [v, ov] (eval ix env)
      standAt apos
      holding [v, ov, iv] (setItem ov iv v)
      release [v, ov, iv] []) := by intro _ _; rfl) : StJ c (.Assign [.Subscript a ix apos] e pos) Γ μ (.nx Γ μ') := by
  subst hE
  exact st_setIx (tg := a) he ho hx hi hk hs ht ha
theorem loop_nil {c : EN.Ctx} {gt : TG} {body : List Stmt} {Γ : List (Option T)} {μ : List M} : LoopJ c gt body [] Γ μ (.nx Γ μ) := rfl
theorem loop_cons {c : EN.Ctx} {body : List Stmt} {i : Nat} {t : T} {ts : List T} {Γ Γ2 : List (Option T)} {μ μ2 : List M} {o : Out} (h : SJ c body (Γ.set i (some t)) μ (.nx Γ2 μ2)) (h' : LoopJ c (gName i) body ts Γ2 μ2 o) : LoopJ c (gName i) body (t :: ts) Γ μ o := ⟨_, [i], gv_name, _, h, h'⟩
theorem EvJ.eqB {c : EN.Ctx} {e : Expr} {Γ : List (Option T)} {μ μ' : List M} {r r' : Bool} (h : EvJ c e Γ μ (.bl r) μ') (q : r = r') : EvJ c e Γ μ (.bl r') μ' := q ▸ h
theorem str_zero {t : Str} (h : t.length = 0) : t = "" := by
  obtain ⟨a⟩ := t
  have : a = #[] := Array.size_eq_zero_iff.mp h
  subst this
  rfl
theorem ex_setE {c : EN.Ctx} {e : Expr} {x : Str} {pp pos : Pos} {sts : List Stmt} {Γ : List (Option T)} {μ μ' : List M} {p pt : Str → Prop} {i : Nat} (h : ∃ t, pt t ∧ EvJ c e Γ μ (.str t) μ) (hi : c.N[i]? = some x) (hx : locB c.sc x = true) (h' : ∀ t, pt t → ∃ z, p z ∧ SJ c sts (Γ.set i (some (.str t))) μ (.rt (.str z) μ')) (hs : isComp e = false := by rfl) (hf : c.sto x = true := by rfl) :
    ∃ z, p z ∧ SJ c (.Assign [.Name x pp] e pos :: sts) Γ μ (.rt (.str z) μ') := by
  obtain ⟨t, ht, he⟩ := h
  exact ex_cons (st_nm he hi hx hs hf) (h' t ht)
theorem ex_comp_rg {c : EN.Ctx} {tg iter elt : Expr} {pos : Pos} {scope : Scope} {own : List (Str × Nat)} {Γ : List (Option T)} {μ : List M} {n i : Nat} {lo : Int} (p : D → Prop) (hi : IterJ c tg iter Γ μ (rgD lo n) μ) (hb : blkC c.N c.sc scope own = true) (hg : TgJ (c.blk scope) tg (gName i)) (hm : i ∈ own.map (·.2)) (hz : n ≤ 1000000)
    (h : ∀ k, k < n → ∃ d, p d ∧ EvJ (c.blk scope) elt ((wipeG Γ (own.map (·.2))).set i (some (.int (lo + (k : Nat))))) μ (.dat d) μ) (hs : ∀ env x, foldedSetIterable iter env x = pure x := by intro _ _; rfl) :
    ∃ ds : List D, ds.length = n ∧ (∀ d ∈ ds, p d) ∧ EvJ c (.ListComp elt [⟨tg, iter, [], 0⟩] scope pos) Γ μ (.dat (.lst ds)) μ := by
  obtain ⟨ds, h1, h2, h3⟩ := cmp_rg_ex p hm h
  exact ⟨ds, h1, h2, ev_comp hi hb hg h3 (by rw [len_rg]; exact hz) hs⟩
theorem ex_join {c : EN.Ctx} {a b : Expr} {sep : Str} {pos apos : Pos} {Γ : List (Option T)} {μ : List M} {n : Nat} (ho : EvJ c a Γ μ (.str sep) μ) (hsep : cpL sep = []) (he : ∃ ds : List D, ds.length = n ∧ (∀ d ∈ ds, ∃ k : Nat, d = .str ⟨#[k]⟩) ∧ EvJ c b Γ μ (.dat (.lst ds)) μ) (hn : n ≤ 1000000) (hb : isSuper a = false := by rfl) (hs : isStar b = false := by rfl) (hl : (apos.endLine == pos.line) = true := by rfl) :
    ∃ t : Str, t.length = n ∧ EvJ c (.Call (.Attribute a "join" apos) [b] [] pos) Γ μ (.str t) μ := by
  obtain ⟨ds, h1, h2, h3⟩ := he
  obtain ⟨zs, rfl⟩ := strs_of fun d hd => (h2 d hd).imp' (fun k => ⟨#[k]⟩) fun k e => e
  have hz : ∀ z ∈ zs, z.length = 1 := fun z hz => by
    obtain ⟨k, e⟩ := h2 _ (List.mem_map_of_mem hz)
    cases e; rfl
  have hl0 : sep.length = 0 := by rw [cpL_len, hsep]; rfl
  rw [List.length_map] at h1
  exact ⟨_, by rw [slen_join1 hsep hz]; exact h1, ev_join ho h3 rfl (by rw [sum_len1 hz, hl0]; omega) hb hs hl⟩
end EN
/-! classes: attributes, methods, making -/
namespace EN
open PySem PySem.Spec PyProof.Rows L2
abbrev ClsG (G : Gc) (C : Str) : Prop := Cls G.K (He.ga G.K C)
abbrev NoAt (G : Gc) (C f : Str) : Prop := NoAttr G.K (He.ga G.K C) f
abbrev MethG (G : Gc) (C m : Str) : Prop := Meth G.K (He.ga G.K C) m (He.fAd G.K (C, some m))
abbrev MkG (G : Gc) (C : Str) : Prop := Mk G.K (He.ga G.K C) (He.fAd G.K (C, some "__init__"))
section
variable {K : PySem.W.Frag} {φ π π' : List Addr} {H Hd : Hp}
theorem TK.look {gs : List (Str × T)} {vs : List (Str × V)} {f : Str} {t : T} (h : TK K π Hd gs vs) (e : gs.lookup f = some t) : ∃ y, vs.lookup f = some y ∧ TOk K π Hd t y := by
  induction h with
  | nil => simp at e
  | @cons k t0 v ts vs q _ ih =>
    simp only [List.lookup_cons] at e ⊢
    cases hk : f == k with
    | true => rw [hk] at e; simp at e; subst e; exact ⟨_, rfl, q⟩
    | false => rw [hk] at e; exact ih e
theorem TK.look0 {gs : List (Str × T)} {vs : List (Str × V)} {f : Str} (h : TK K π Hd gs vs) (e : gs.lookup f = none) : vs.lookup f = none := by
  induction h with
  | nil => rfl
  | @cons k t0 v ts vs q _ ih =>
    simp only [List.lookup_cons] at e ⊢
    cases hk : f == k with
    | true => rw [hk] at e; cases e
    | false => rw [hk] at e; exact ih e
def putT (f : Str) (t : T) : List (Str × T) → List (Str × T)
  | [] => [(f, t)]
  | (g, x) :: r => if g = f then (g, t) :: r else (g, x) :: putT f t r
theorem TK.put {gs : List (Str × T)} {vs : List (Str × V)} {f : Str} {t : T} {v : V} (h : TK K π Hd gs vs) (q : TOk K π Hd t v) : TK K π Hd (putT f t gs) (putF f v vs) := by
  induction h with
  | nil => exact .cons q .nil
  | @cons k t0 v0 ts vs q0 r ih =>
    unfold putT putF
    by_cases hk : k = f
    · rw [if_pos hk, if_pos hk]; exact .cons q r
    · rw [if_neg hk, if_neg hk]; exact .cons q0 ih
theorem TK.len {κ : Type} {gs : List (κ × T)} {vs : List (κ × V)} (h : TK K π Hd gs vs) : gs.length = vs.length := by
  induction h with
  | nil => rfl
  | cons _ _ ih => simp [ih]
abbrev datF (fs : List (Str × D)) : List (Str × T) := fs.map fun p => (p.1, T.dat p.2)
theorem TK.dtF {vs : List (Str × V)} : ∀ {fs : List (Str × D)}, TK K π Hd (datF fs) vs → DtF K Hd fs vs
  | [], h => by cases h; exact .nil
  | (f, d) :: r, h => by
    cases h with
    | cons q t => exact .cons q (TK.dtF t)
theorem Pst.drop {μ μ1 μ2 : List M} {t : T} {Q : VK} (s0 : SOk K φ π H μ) (q : Pst K φ π H μ t μ1 Q) (ht : t.inb μ1.length) (hb : Inb μ → Inb μ1) (hpl0 : μ.length ≤ μ1.length) : Pst K φ π H μ t (μ1 ++ μ2) Q := fun v π' H' n k => by
  have hB := hb s0.inb
  obtain ⟨s1, le⟩ := n.ok.forget fun i a m q1 q2 q3 => q3.take (hB m (List.mem_of_getElem? q2))
  have hpl : π.length ≤ μ1.length := by rw [s0.len]; exact hpl0
  refine q v (π'.take μ1.length) H' ⟨?_, s1, n.same, n.le.tr le⟩ ((k.take ht).mono ⟨[], by simp⟩ le)
  obtain ⟨p, rfl⟩ := n.ext
  exact ⟨p.take (μ1.length - π.length), by rw [List.take_append, List.take_of_length_le hpl]⟩
end
section
variable {c : EN.Ctx} {a b e o : Expr} {es : List Expr} {Γ : List (Option T)} {μ μ1 μ2 μ3 μ4 : List M} {t : T} {pos : Pos} {d : D} {ts : List T} {dts : List D} {k : Nat} {C f m : Str} {fs : List (Str × D)} {gs : List (Str × T)}
theorem EvJ.drop (h : EvJ c e Γ μ t (μ1 ++ μ2)) (ht : t.inb μ1.length) (hb : Inb μ → Inb μ1) (hpl0 : μ.length ≤ μ1.length) : EvJ c e Γ μ t μ1 := fun X g φ π σ H s0 g0 Q q => h X g φ π σ H s0 g0 Q (Pst.drop s0 q ht hb hpl0)
theorem ev_fld (ho : EvJ c o Γ μ (.dat (.ins C fs)) μ1) (hl : fs.lookup f = some d) (hc : ClsG c.toGc C) (hn : NoAt c.toGc C f) (hb : isSuper o = false := by rfl) : EvJ c (.Attribute o f pos) Γ μ (.dat d) μ1 := by
  intro X g φ π σ H s0 g0 Q q
  refine toE (pe_fld pe_sem (base_ok2 hb _ _)) ?_
  refine ho X g φ π σ H s0 g0 _ fun v π1 H1 n1 k1 => ?_
  cases k1 with
  | ins h l =>
    obtain ⟨y, hy, ky⟩ := l.look hl
    exact ⟨_, _, _, _, y, rfl, hd_le _ _ _ _ _ _ h, by rw [g.K]; exact hc, by rw [g.K]; exact hn, hy, q _ π1 H1 n1 ky⟩
theorem ev_fldO {i : Nat} (ho : EvJ c o Γ μ (.own i) μ1) (hi : μ1[i]? = some (.ins C gs)) (hl : gs.lookup f = some t) (hc : ClsG c.toGc C) (hn : NoAt c.toGc C f) (hb : isSuper o = false := by rfl) : EvJ c (.Attribute o f pos) Γ μ t μ1 := by
  intro X g φ π σ H s0 g0 Q q
  refine toE (pe_fld pe_sem (base_ok2 hb _ _)) ?_
  refine ho X g φ π σ H s0 g0 _ fun v π1 H1 n1 k1 => ?_
  obtain ⟨p, hp, rfl⟩ := k1
  obtain ⟨dx, vs, hv, hts⟩ := n1.ok.obj i p _ hp hi
  obtain ⟨y, hy, ky⟩ := hts.look hl
  exact ⟨_, _, _, _, y, rfl, hv, by rw [g.K]; exact hc, by rw [g.K]; exact hn, hy, q _ π1 H1 n1 ky⟩
theorem st_fld {i : Nat} {pos' : Pos} (he : EvJ c e Γ μ t μ1) (ho : EvJ c o Γ μ1 (.own i) μ2) (hi : μ2[i]? = some (.ins C gs)) (hE : μ2.set i (.ins C (putT f t gs)) = μ3) (hl : gs.length < 1000) (hc : ClsG c.toGc C) (hn : NoAt c.toGc C f) (hs : isComp e = false := by rfl) :
    StJ c (.Assign [.Attribute o f pos'] e pos) Γ μ (.nx Γ μ3) := by
  subst hE
  intro X g φ π σ H s0 g0 D q
  refine toS (ps_fld pe_sem pe_sem (no_swap hs _ _ _)) ?_
  refine he X g φ π σ H s0 g0 _ fun w π1 H1 n1 k1 => ?_
  refine ho X g φ π1 σ H1 n1.ok (g0.nx n1) _ fun v π2 H2 n2 k2 => ?_
  obtain ⟨p, hp, rfl⟩ := k2
  obtain ⟨dx, vs, hv, hts⟩ := n2.ok.obj i p _ hp hi
  refine ⟨p, _, dx, vs, rfl, hv, by rw [g.K]; exact hc, by rw [g.K]; exact hn, by rw [← hts.len]; exact hl, ?_⟩
  have n3 := n2.ok.write (o := .ins (He.ga X.K C) dx (putF f w vs)) (m' := .ins C (putT f t gs)) hp hi rfl rfl ⟨_, _, upd_same, hts.put (k1.nx n2)⟩
  exact q σ π2 _ ((n1.trans n2).trans n3) (((g0.nx n1).nx n2).nx n3)
theorem ev_meth {apos : Pos} {pl : Env → Sem Bool} (ho : EvJ c o Γ μ (.dat (.ins C fs)) μ1) (hl : fs.lookup m = none) (ha : AJ c (e :: es) Γ μ1 ts μ2) (h : CallJ c.toGc k (C, some m) (.dat (.ins C fs) :: ts) dts μ2 t μ3) (hk : k ≤ c.k) (hc : ClsG c.toGc C) (hm : MethG c.toGc C m)
    (hs : (e :: es).all (fun e => !isStar e) = true := by rfl)
    (ht : ∀ env, eval (.Call (.Attribute o m apos) (e :: es) [] pos) env = (do
      let ov ← eval o env
      standAt apos.atName
      let (f, first) ← holding [ov] (getMethod ov m (pl env))
      callWith pos f first (backTo pos (starEach (e :: es) env)) (backToKw pos (keywordEach [] env))) := by intro _; rfl) :
    EvJ c (.Call (.Attribute o m apos) (e :: es) [] pos) Γ μ t μ3 := by
  intro X g φ π σ H s0 g0 Q q
  obtain ⟨fd, ps, dvs, ds, h1, h2, h3, h4, h5⟩ := h
  have hs' := hs
  simp only [List.all_cons, Bool.and_eq_true, Bool.not_eq_true'] at hs'
  have F : FnOk X.prog X.w X.K X.mg X.base (L2.CX X.prog X.w) k (He.fAd X.K (C, some m)) fd ps (spJ X.K ((.dat (.ins C fs) :: ts) ++ dats dts) μ2 t μ3) := by rw [g.prog, g.w, g.K, g.mg, g.base]; exact h5
  refine toE (pe_meth (C := He.ga X.K C) pe_sem (by rw [g.K]; exact hc) (by rw [g.K]; exact hm) F (g.room.mono hk) (by rw [g.K]; exact h3) h2 passL pa_sem (star_cons hs'.1 _) (no_star hs'.2 _ _) (ht X.env)) ?_
  refine ho X g φ π σ H s0 g0 _ fun v π1 H1 n1 k1 => ?_
  have k1' := k1
  cases k1 with
  | ins hh l =>
    refine ⟨_, _, _, rfl, hd_le _ _ _ _ _ _ hh, l.look0 hl, ?_⟩
    refine ha X g φ π1 σ H1 n1.ok (g0.nx n1) _ fun vs π2 H2 n2 k2 => ?_
    exact ⟨φ, π2, n2.ok, .cons (TOk.nx k1' n2) (k2.append (DtL.tl (by rw [g.K]; exact h4 _))), fun v π3 H3 n3 k3 => q v π3 H3 ((n1.trans n2).trans n3) k3⟩
theorem ev_meth0 {apos : Pos} {pl : Env → Sem Bool} (ho : EvJ c o Γ μ (.dat (.ins C fs)) μ1) (hl : fs.lookup m = none) (h : CallJ c.toGc k (C, some m) [.dat (.ins C fs)] dts μ1 t μ3) (hk : k ≤ c.k) (hc : ClsG c.toGc C) (hm : MethG c.toGc C m)
    (ht : ∀ env, eval (.Call (.Attribute o m apos) [] [] pos) env = (do
      let ov ← eval o env
      standAt apos.atName
      let (f, first) ← holding [ov] (getMethod ov m (pl env))
      callWith pos f first (backTo pos (starEach [] env)) (backToKw pos (keywordEach [] env))) := by intro _; rfl) :
    EvJ c (.Call (.Attribute o m apos) [] [] pos) Γ μ t μ3 := by
  intro X g φ π σ H s0 g0 Q q
  obtain ⟨fd, ps, dvs, ds, h1, h2, h3, h4, h5⟩ := h
  have F : FnOk X.prog X.w X.K X.mg X.base (L2.CX X.prog X.w) k (He.fAd X.K (C, some m)) fd ps (spJ X.K ([.dat (.ins C fs)] ++ dats dts) μ1 t μ3) := by rw [g.prog, g.w, g.K, g.mg, g.base]; exact h5
  refine toE (pe_meth0 (C := He.ga X.K C) pe_sem (by rw [g.K]; exact hc) (by rw [g.K]; exact hm) F (g.room.mono hk) (by rw [g.K]; exact h3) h2 passL (ht X.env)) ?_
  refine ho X g φ π σ H s0 g0 _ fun v π1 H1 n1 k1 => ?_
  have k1' := k1
  cases k1 with
  | ins hh l =>
    refine ⟨_, _, _, rfl, hd_le _ _ _ _ _ _ hh, l.look0 hl, ?_⟩
    exact ⟨φ, π1, n1.ok, .cons k1' (DtL.tl (by rw [g.K]; exact h4 _)), fun v π3 H3 n3 k3 => q v π3 H3 (n1.trans n3) k3⟩
theorem ev_make {p : Pos} (ha : AJ c (e :: es) Γ μ ts μ1) (h : CallJ c.toGc k (C, some "__init__") (.own μ1.length :: ts) dts (μ1 ++ [.ins C []]) (.dat .non) μ2) (hk : k + 1 ≤ c.k) (hg : c.sc.names.lookup C = some .globalImplicit) (hm : c.mg C = some (.ref (He.ga c.K C))) (hM : MkG c.toGc C)
    (hs : (e :: es).all (fun e => !isStar e) = true := by rfl) (hdb : (C == ("__debug__" : Str)) = false := by decide) : EvJ c (.Call (.Name C p) (e :: es) [] pos) Γ μ (.own μ1.length) μ2 := by
  intro X g φ π σ H s0 g0 Q q
  obtain ⟨fd, ps, dvs, ds, h1, h2, h3, h4, h5⟩ := h
  have hs' := hs
  simp only [List.all_cons, Bool.and_eq_true, Bool.not_eq_true'] at hs'
  have F : FnOk X.prog X.w X.K X.mg X.base (L2.CX X.prog X.w) k (He.fAd X.K (C, some "__init__")) fd ps (spJ X.K ((.own μ1.length :: ts) ++ dats dts) (μ1 ++ [.ins C []]) (.dat .non) μ2) := by rw [g.prog, g.w, g.K, g.mg, g.base]; exact h5
  refine toE (pe_make (C := He.ga X.K C) (by rw [g.K]; exact hM) F (g.room.mono hk) (show X.env.scope.names.lookup C = _ by rw [g.sc]; exact hg) (by rw [g.mg, g.K]; exact hm) (by rw [g.K]; exact h3) h2 passL pa_sem hdb (star_cons hs'.1 _) (no_star hs'.2 _ _)) ?_
  refine ha X g φ π σ H s0 g0 _ fun vs π1 H1 n1 k1 => ?_
  intro x dx hx hdx hne
  have nA := (n1.ok.newData (p := dx) (o := .own x) hdx).1
  have nB := nA.ok.newOwn (p := x) (o := .ins (He.ga X.K C) dx []) (m := .ins C []) (by rw [upd_ne (Ne.symm hne)]; exact hx) rfl ⟨dx, [], upd_same, .nil⟩
  have hx1 : (π1 ++ [x])[μ1.length]? = some x := by rw [← n1.ok.len]; simp
  refine ⟨φ, π1 ++ [x], nB.ok, .cons ⟨x, hx1, rfl⟩ ((k1.nx (nA.trans nB)).append (DtL.tl (by rw [g.K]; exact h4 _))), fun v π2 H2 n2 k2 => ?_⟩
  cases k2
  refine ⟨rfl, q _ π2 H2 (n1.trans (nA.trans (nB.trans n2))) ⟨x, ?_, rfl⟩⟩
  obtain ⟨p2, rfl⟩ := n2.ext
  rw [List.getElem?_append_left (List.getElem?_eq_some_iff.mp hx1).1]; exact hx1
theorem ev_make0 {p : Pos} (h : CallJ c.toGc k (C, some "__init__") [.own μ.length] dts (μ ++ [.ins C []]) (.dat .non) μ2) (hk : k + 1 ≤ c.k) (hg : c.sc.names.lookup C = some .globalImplicit) (hm : c.mg C = some (.ref (He.ga c.K C))) (hM : MkG c.toGc C)
    (hdb : (C == ("__debug__" : Str)) = false := by decide) : EvJ c (.Call (.Name C p) [] [] pos) Γ μ (.own μ.length) μ2 := by
  intro X g φ π σ H s0 g0 Q q
  obtain ⟨fd, ps, dvs, ds, h1, h2, h3, h4, h5⟩ := h
  have F : FnOk X.prog X.w X.K X.mg X.base (L2.CX X.prog X.w) k (He.fAd X.K (C, some "__init__")) fd ps (spJ X.K ([.own μ.length] ++ dats dts) (μ ++ [.ins C []]) (.dat .non) μ2) := by rw [g.prog, g.w, g.K, g.mg, g.base]; exact h5
  refine toE (pe_make0 (C := He.ga X.K C) (by rw [g.K]; exact hM) F (g.room.mono hk) (show X.env.scope.names.lookup C = _ by rw [g.sc]; exact hg) (by rw [g.mg, g.K]; exact hm) (by rw [g.K]; exact h3) h2 passL hdb) ?_
  intro x dx hx hdx hne
  have nA := (s0.newData (p := dx) (o := .own x) hdx).1
  have nB := nA.ok.newOwn (p := x) (o := .ins (He.ga X.K C) dx []) (m := .ins C []) (by rw [upd_ne (Ne.symm hne)]; exact hx) rfl ⟨dx, [], upd_same, .nil⟩
  have hx1 : (π ++ [x])[μ.length]? = some x := by rw [← s0.len]; simp
  refine ⟨φ, π ++ [x], nB.ok, .cons ⟨x, hx1, rfl⟩ (DtL.tl (by rw [g.K]; exact h4 _)), fun v π2 H2 n2 k2 => ?_⟩
  cases k2
  refine ⟨rfl, q _ π2 H2 (nA.trans (nB.trans n2)) ⟨x, ?_, rfl⟩⟩
  obtain ⟨p2, rfl⟩ := n2.ext
  rw [List.getElem?_append_left (List.getElem?_eq_some_iff.mp hx1).1]; exact hx1
theorem EvJ.frzI {i : Nat} (h : EvJ c e Γ μ (.own i) μ1) (hi : μ1[i]? = some (.ins C (datF fs))) : EvJ c e Γ μ (.dat (.ins C fs)) (μ1.set i (.frz (.ins C fs))) := by
  intro X g φ π σ H s0 g0 Q q
  refine h X g φ π σ H s0 g0 _ fun v π1 H1 n1 k1 => ?_
  obtain ⟨p, hp, rfl⟩ := k1
  obtain ⟨dx, vs, hv, hts⟩ := n1.ok.obj i p _ hp hi
  have n2 := n1.ok.freeze (d := .ins C fs) hp hi rfl fun Hd' h1 h2 => .ins (h1 _ hv) (DtF.mono h2 hts.dtF)
  refine q _ π1 H1 (n1.trans n2) ?_
  have := n2.ok.obj i p (.frz (.ins C fs)) hp (by rw [List.getElem?_set_self (List.getElem?_eq_some_iff.mp hi).1])
  exact this.2
/-- what is made is data at once -/
theorem EvJ.madeD (h : EvJ c e Γ μ (.own μ1.length) (μ1 ++ [.ins C (datF fs)])) (hb : Inb μ → Inb μ1) (hl : μ.length ≤ μ1.length) : EvJ c e Γ μ (.dat (.ins C fs)) μ1 := by
  have h' := h.frzI (C := C) (fs := fs) (by simp)
  rw [show (μ1 ++ [M.ins C (datF fs)]).set μ1.length (.frz (.ins C fs)) = μ1 ++ [.frz (.ins C fs)] by simp] at h'
  exact h'.drop trivial hb hl
end
/-- a def with defaults: n arguments are written, the defaults behind the first j fill up -/
theorem bindsD {G : Gc} {d : He.DefD} {ps : List Str} {dts : List D} (n j : Nat) (hd : d.dfl ≠ []) (hn : n + (d.dfl.length - j) = ps.length) (hdt : ∀ H, DtL G.K H dts ((d.dfl.drop j).map (He.Dv.v G.K)))
    (h : ∀ (T : Addr) (kV doc pm : Value) (an : Option Addr) (cdv ct : Value) (us its : List Value), us.length = n → its.length = d.dfl.length →
      ∃ k, bindArgs (PySem.W.fnOf d.name d.qual d.params d.body d.scope (.ref T) kV doc pm an cdv ct) ⟨us, []⟩ = seqItems? (.ref T) >>= k ∧ k (some its.toArray) = pure (ps.zip (us ++ its.drop j))) : DefBinds G d ps dts := fun fd F => by
  have hl : (d.dvs G.K).length = d.dfl.length := by unfold He.DefD.dvs; simp
  have hne : d.dvs G.K ≠ [] := fun e => by
    have := congrArg List.length e
    rw [hl] at this
    exact hd (List.length_eq_zero_iff.mp this)
  obtain ⟨ds, h1, h2⟩ := F.binds1 n j hne (by rw [hl]; exact hn) fun T kV doc pm an cdv ct us its a b => h T kV doc pm an cdv ct us its a (b.trans hl)
  exact ⟨(d.dvs G.K).drop j, ds, h1, h2, fun H => by unfold He.DefD.dvs; rw [← List.map_drop]; exact hdt H⟩
end EN
/-! more operators on data, more walks -/
namespace EN
open PySem PySem.Spec PyProof.Rows L2
section
variable {c : EN.Ctx} {a b e o : Expr} {es : List Expr} {Γ : List (Option T)} {μ μ1 μ2 μ3 μ4 : List M} {t : T} {pos : Pos} {d : D} {ts : List T} {ds : List D} {k : Nat}
theorem o_catT {ds es : List D} (h : ds.length + es.length ≤ sizeLine) : R2J c (binaryOp .Add) (.dat (.tup ds)) (.dat (.tup es)) μ (.dat (.tup (ds ++ es))) μ := fun X gX =>
  ⟨_, op_catA, fun φ π H v w s0 h1 h2 Q q => by
    have h1' := h1
    have h2' := h2
    cases h1 with
    | tup s1 l1 =>
      cases h2 with
      | tup s2 l2 =>
        rename_i a1 xs a2 ys
        refine ⟨_, _, _, _, rfl, rfl, (hd_le _ _ _ _ : Ex _ _).sqT s1, (hd_le _ _ _ _ : Ex _ _).sqT s2, by rw [← l1.len, ← l2.len]; exact h, fun e => ?_, fun _ e => ?_, fun _ _ p np => ?_⟩
        · subst e
          cases l1
          exact q _ π H (Nxt.refl s0) h2'
        · subst e
          cases l2
          rw [List.append_nil] at q
          exact q _ π H (Nxt.refl s0) h1'
        · obtain ⟨n1, at1⟩ := s0.newData np
          exact q _ π _ n1 (.tup (SqT.of at1) (DtL.mono n1.le (l1.append l2)))⟩
theorem s_tup {ds : List D} {lo hi : Option Int} : S3J c (.dat (.tup ds)) lo hi μ (.dat (.tup (EN.cutD ds lo hi))) μ := fun X gX =>
  ⟨_, sl_tupA, fun φ π H v s0 h1 Q q => by
    have h1' := h1
    cases h1 with
    | tup s l =>
      refine ⟨_, _, rfl, (hd_le _ _ _ _ : Ex _ _).sqT s, fun hw => ?_, fun _ p np => ?_⟩
      · have e : EN.cutD ds lo hi = ds := by
          unfold EN.cutD
          rw [l.len, hw.1, hw.2, ← l.len]
          simp
        rw [e] at q
        exact q _ π H (Nxt.refl s0) h1'
      · obtain ⟨n1, at1⟩ := s0.newData np
        exact q _ π _ n1 (.tup (SqT.of at1) (DtL.mono n1.le (cut_dt l lo hi)))⟩
theorem ev_revL {kk : Nat} {p1 p2 p3 : Pos} (h : EvJ c e Γ μ (.dat (.lst ds)) μ1) : EvJ c (.Subscript e (.Slice none none (some (.UnaryOp .USub (.Constant (.int 1) kk p1) p2)) p3) pos) Γ μ (.dat (.lst ds.reverse)) μ1 := by
  intro X g φ π σ H s0 g0 Q q
  refine toE (pe_revL pe_sem) ?_
  refine h X g φ π σ H s0 g0 _ fun v π1 H1 n1 k1 => ?_
  cases k1 with
  | lst s l =>
    refine ⟨_, _, rfl, (hd_le _ _ _ _ : Ex _ _).sqL s, fun p np => ?_⟩
    obtain ⟨n2, at1⟩ := n1.ok.newData np
    exact q _ π1 _ (n1.trans n2) (.lst (SqL.of at1) (DtL.mono n2.le l.rev))
/-! enumerate, zip -/
def enD (ds : List D) : List T := ds.zipIdx.map fun p => T.dat (.tup [.int (p.2 : Nat), p.1])
theorem enD_get {ds : List D} {i : Nat} {t : T} (h : (enD ds)[i]? = some t) : ∃ x, ds[i]? = some x ∧ t = .dat (.tup [.int (i : Nat), x]) := by
  unfold enD at h
  rw [List.getElem?_map, List.getElem?_zipIdx] at h
  cases e : ds[i]? with
  | none => rw [e] at h; cases h
  | some x => rw [e] at h; simp at h; exact ⟨x, rfl, h.symm⟩
theorem len_en {ds : List D} : (enD ds).length = ds.length := by simp [enD]
theorem it_enum {elts : List Expr} {kk : Nat} {tpos p : Pos} (h : EvJ c a Γ μ (.dat (.lst ds)) μ1) (hg : c.sc.names.lookup ("enumerate" : Str) = some .globalImplicit) (hm : c.mg "enumerate" = none) (hs : isStar a = false := by rfl) :
    IterJ c (.Tuple elts kk tpos) (.Call (.Name "enumerate" p) [a] [] pos) Γ μ (enD ds) μ1 := fun X g =>
  ⟨_, pi_enum (show X.env.scope.names.lookup ("enumerate" : Str) = _ by rw [g.sc]; exact hg) (by rw [g.mg]; exact hm) pa_sem (by rw [star_cons hs]; rfl), fun φ π σ H s0 g0 R q => by
  refine (aj_cons h aj_nil hs : AJ c [a] Γ μ [_] μ1) X g φ π σ H s0 g0 _ fun vs π1 H1 n1 k1 => ?_
  obtain ⟨v, rfl, k⟩ := k1.one
  cases k with
  | lst s l =>
    rename_i p0 vs0
    refine ⟨_, _, rfl, (hd_le _ _ _ _ : Ex _ _).sqL s, q _ π1 H1 n1 fun i φ2 π2 H2 μ2 s2' _ le => ⟨fun t ht => ?_, fun hi => ⟨vs0, (hd_le _ _ _ _ : Ex _ _).sqL (Ex.sqL le s), by rw [← l.len]; simpa [len_en] using hi⟩⟩⟩
    obtain ⟨x, hx, rfl⟩ := enD_get ht
    have s2 : SqL X.K H2 p0 vs0 := (hd_le _ _ _ _ : Ex _ _).sqL (Ex.sqL le s)
    obtain ⟨y, hy, ky⟩ := (DtL.mono le l).get hx
    refine ⟨⟨vs0, y, s2, hy⟩, fun z H' hz => ?_⟩
    obtain ⟨T0, x0, rfl, hT, rfl, hz⟩ := hz
    have := hz vs0 s2
    rw [hy] at this; cases this
    obtain ⟨n3, at3⟩ := s2'.newData (o := .tup [.int (i : Nat), y]) hT
    exact ⟨n3, .tup (SqT.of at3) (.cons (.int _) (.cons (Dt.mono n3.le ky) .nil))⟩⟩
def zpD (ds es : List D) : List T := (ds.zip es).map fun p => T.dat (.tup [p.1, p.2])
theorem zpD_get {ds es : List D} {i : Nat} {t : T} (h : (zpD ds es)[i]? = some t) : ∃ x y, ds[i]? = some x ∧ es[i]? = some y ∧ t = .dat (.tup [x, y]) := by
  unfold zpD at h
  rw [List.getElem?_map] at h
  cases e : (ds.zip es)[i]? with
  | none => rw [e] at h; cases h
  | some p =>
    rw [e] at h
    obtain ⟨h1, h2⟩ := List.getElem?_zip_eq_some.mp e
    exact ⟨p.1, p.2, h1, h2, (Option.some.inj h).symm⟩
theorem len_zp {ds es : List D} : (zpD ds es).length = min ds.length es.length := by simp [zpD]
theorem it_zip {elts : List Expr} {kk : Nat} {tpos p : Pos} {es : List D} (h : EvJ c a Γ μ (.dat (.lst ds)) μ1) (h' : EvJ c b Γ μ1 (.dat (.lst es)) μ2) (hg : c.sc.names.lookup ("zip" : Str) = some .globalImplicit) (hm : c.mg "zip" = none) (hs : isStar a = false := by rfl) (hs' : isStar b = false := by rfl) :
    IterJ c (.Tuple elts kk tpos) (.Call (.Name "zip" p) [a, b] [] pos) Γ μ (zpD ds es) μ2 := fun X g =>
  ⟨_, pi_zip (show X.env.scope.names.lookup ("zip" : Str) = _ by rw [g.sc]; exact hg) (by rw [g.mg]; exact hm) pa_sem (by rw [star_cons hs]) (by rw [star_cons hs']; rfl), fun φ π σ H s0 g0 R q => by
  refine (aj_cons h (aj_cons h' aj_nil hs') hs : AJ c [a, b] Γ μ [_, _] μ2) X g φ π σ H s0 g0 _ fun vs π1 H1 n1 k1 => ?_
  obtain ⟨v, w, rfl, k, k'⟩ := k1.two
  cases k with
  | lst s l =>
    cases k' with
    | lst s' l' =>
      rename_i p0 vs0 p1 vs1
      refine ⟨_, _, _, _, rfl, (hd_le _ _ _ _ : Ex _ _).sqL s, (hd_le _ _ _ _ : Ex _ _).sqL s', q _ π1 H1 n1 fun i φ2 π2 H2 μ2 s2' _ le => ?_⟩
      have s2 : SqL X.K H2 p0 vs0 := (hd_le _ _ _ _ : Ex _ _).sqL (Ex.sqL le s)
      have s3 : SqL X.K H2 p1 vs1 := (hd_le _ _ _ _ : Ex _ _).sqL (Ex.sqL le s')
      refine ⟨fun t ht => ?_, fun hi => ⟨vs0, vs1, s2, s3, by rw [← l.len, ← l'.len]; rw [len_zp] at hi; omega⟩⟩
      obtain ⟨x, y, hx, hy, rfl⟩ := zpD_get ht
      obtain ⟨x1, hx1, kx⟩ := (DtL.mono le l).get hx
      obtain ⟨y1, hy1, ky⟩ := (DtL.mono le l').get hy
      refine ⟨⟨vs0, vs1, x1, y1, s2, s3, hx1, hy1⟩, fun z H' hz => ?_⟩
      obtain ⟨T0, x0, y0, rfl, hT, rfl, hz, hz'⟩ := hz
      have e1 := hz vs0 s2
      rw [hx1] at e1; cases e1
      have e2 := hz' vs1 s3
      rw [hy1] at e2; cases e2
      obtain ⟨n3, at3⟩ := s2'.newData (o := .tup [x1, y1]) hT
      exact ⟨n3, .tup (SqT.of at3) (.cons (Dt.mono n3.le kx) (.cons (Dt.mono n3.le ky) .nil))⟩⟩
end
end EN
/-! one's own lists, read -/
namespace EN
open PySem PySem.Spec PyProof.Rows L2
section
variable {K : PySem.W.Frag} {π : List Addr} {Hd : Hp}
theorem TL.getT : ∀ {ts : List T} {vs : List V} {i : Nat} {t : T}, TL K π Hd ts vs → ts[i]? = some t → ∃ y, vs[i]? = some y ∧ TOk K π Hd t y
  | _, _, _, _, .nil, h => by simp at h
  | _, _, 0, _, .cons q r, h => ⟨_, rfl, by simp at h; subst h; exact q⟩
  | _, _, i + 1, _, .cons q r, h => TL.getT (i := i) r (by simpa using h)
end
section
variable {c : EN.Ctx} {a b e o : Expr} {es : List Expr} {Γ : List (Option T)} {μ μ1 μ2 μ3 μ4 : List M} {t : T} {pos : Pos} {d : D} {ts : List T} {ds : List D} {i : Nat}
theorem x_own {j : Int} (hi : μ[i]? = some (.lst ts)) (h : atI ts j = some t) : I2J c (.own i) (.int j) μ t μ := fun X gX =>
  ⟨_, ix_list, fun φ π H v w s0 h1 h2 Q q => by
    cases h2
    obtain ⟨p, hp, rfl⟩ := h1
    obtain ⟨vs, hv, hts⟩ := s0.obj i p _ hp hi
    unfold atI at h
    cases e : ixN ts.length j with
    | none => rw [e] at h; cases h
    | some k =>
      rw [e] at h
      obtain ⟨y, hy, ky⟩ := hts.getT h
      refine ⟨_, _, _, _, rfl, rfl, SqL.of hv, ?_, q _ π H (Nxt.refl s0) ky⟩
      unfold atI
      rw [← hts.len, e]
      exact hy⟩
theorem c_lenO (hi : μ[i]? = some (.lst ts)) : C1J c (.builtin "len") [.own i] μ (.int ts.length) μ := fun X gX =>
  ⟨_, call_len_seq, fun φ π H vs s0 h Q q => by
    obtain ⟨v, rfl, kk⟩ := h.one
    obtain ⟨p, hp, rfl⟩ := kk
    obtain ⟨vs, hv, hts⟩ := s0.obj i p _ hp hi
    exact ⟨_, _, rfl, .inl (SqL.of hv), q _ π H (Nxt.refl s0) (by rw [← hts.len]; exact .int _)⟩⟩
theorem o_inO (hi : μ[i]? = some (.lst (dats ds))) (h : flD d = true) (h' : ds.all flD = true) : R2J c (compareOp .In) (.dat d) (.own i) μ (.bl (inF d ds)) μ := fun X gX =>
  ⟨_, op_in_seq, fun φ π H v w s0 h1 h2 Q q => by
    obtain ⟨p, hp, rfl⟩ := h2
    obtain ⟨vs, hv, hts⟩ := s0.obj i p _ hp hi
    obtain ⟨q1, q2⟩ := flL_ok h h1 hts.dt h'
    refine ⟨_, _, rfl, .inl (SqL.of hv), fl_ok h h1, q1, ?_⟩
    rw [if_neg Bool.false_ne_true, q2]
    exact q _ π H (Nxt.refl s0) (.bl _)⟩
theorem o_notInO (hi : μ[i]? = some (.lst (dats ds))) (h : flD d = true) (h' : ds.all flD = true) : R2J c (compareOp .NotIn) (.dat d) (.own i) μ (.bl (!inF d ds)) μ := fun X gX =>
  ⟨_, op_notIn_seq, fun φ π H v w s0 h1 h2 Q q => by
    obtain ⟨p, hp, rfl⟩ := h2
    obtain ⟨vs, hv, hts⟩ := s0.obj i p _ hp hi
    obtain ⟨q1, q2⟩ := flL_ok h h1 hts.dt h'
    refine ⟨_, _, rfl, .inl (SqL.of hv), fl_ok h h1, q1, ?_⟩
    rw [if_pos rfl, q2]
    exact q _ π H (Nxt.refl s0) (.bl _)⟩
theorem rep_dt {K : PySem.W.Frag} {H : Hp} {ds : List D} {vs : List V} (h : DtL K H ds vs) : ∀ n : Nat, DtL K H (List.replicate n ds).flatten (List.replicate n vs).flatten
  | 0 => .nil
  | n + 1 => by
    rw [List.replicate_succ, List.replicate_succ, List.flatten_cons, List.flatten_cons]
    exact h.append (rep_dt h n)
theorem o_repO {k : Int} (hi : μ[i]? = some (.lst (dats ds))) (h1 : -(2 ^ 63) ≤ k) (h2 : k < 2 ^ 63) (h3 : ds.length * k.toNat ≤ sizeLine) : R2J c (binaryOp .Mult) (.own i) (.int k) μ (.dat (.lst (List.replicate k.toNat ds).flatten)) μ := fun X gX =>
  ⟨_, op_rep, fun φ π H v w s0 q1 q2 Q q => by
    obtain ⟨p, hp, rfl⟩ := q1
    cases q2
    obtain ⟨vs, hv, hts⟩ := s0.obj i p _ hp hi
    refine ⟨_, _, _, rfl, rfl, hv, h1, h2, by rw [← hts.dt.len]; exact h3, fun p' np => ?_⟩
    obtain ⟨n1, at1⟩ := s0.newData np
    exact q _ π _ n1 (.lst (SqL.of at1) (DtL.mono n1.le (rep_dt hts.dt _)))⟩
/-- [..] * k -/
theorem ev_repL {k : Int} {lpos : Pos} (h : AJ c es Γ μ (dats ds) μ) (hb : EvJ c b Γ (μ ++ [.lst (dats ds)]) (.int k) (μ ++ [.lst (dats ds)])) (h1 : -(2 ^ 63) ≤ k) (h2 : k < 2 ^ 63) (h3 : ds.length * k.toNat ≤ sizeLine) (hl : Nat.ble (dats ds).length 1000000 = true := by rfl) :
    EvJ c (.BinOp (.List es lpos) .Mult b pos) Γ μ (.dat (.lst (List.replicate k.toNat ds).flatten)) μ :=
  (ev_bin (ev_lstO h hl) hb (o_repO (by simp) h1 h2 h3)).drop trivial id (Nat.le_refl _)
end
end EN
/-! what comes to something of a kind; loops with an invariant -/
namespace EN
open PySem PySem.Spec PyProof.Rows L2
def SX (c : EN.Ctx) (sts : List Stmt) (Γ : List (Option T)) (μ : List M) (p : Out → Prop) : Prop := ∃ o, p o ∧ SJ c sts Γ μ o
def EX (c : EN.Ctx) (e : Expr) (Γ : List (Option T)) (μ : List M) (p : T → List M → Prop) : Prop := ∃ t μ1, p t μ1 ∧ EvJ c e Γ μ t μ1
/-- what a turn of a loop comes to -/
def turnO (I : List (Option T) → List M → Prop) (R : T → List M → Prop) : Out → Prop
  | .nx Γ μ => I Γ μ
  | .ct Γ μ => I Γ μ
  | .rt t μ => R t μ
  | .bk _ _ => False
/-- what a loop comes to -/
def loopO (I : List (Option T) → List M → Prop) (R : T → List M → Prop) : Out → Prop
  | .nx Γ μ => I Γ μ
  | .rt t μ => R t μ
  | _ => False
section
variable {c : EN.Ctx} {a b e o : Expr} {es : List Expr} {st : Stmt} {sts A B body : List Stmt} {Γ Γ1 : List (Option T)} {μ μ1 μ2 : List M} {t : T} {pos pp : Pos} {p : Out → Prop} {pt : T → List M → Prop} {x : Str} {i : Nat} {u : Out}
theorem EX.of (h : EvJ c e Γ μ t μ1) (hp : pt t μ1) : EX c e Γ μ pt := ⟨t, μ1, hp, h⟩
theorem sx_of (h : SJ c sts Γ μ u) (hp : p u) : SX c sts Γ μ p := ⟨u, hp, h⟩
theorem sx_cons (h : StJ c st Γ μ (.nx Γ1 μ1)) (h' : SX c sts Γ1 μ1 p) : SX c (st :: sts) Γ μ p := by
  obtain ⟨o, hp, hs⟩ := h'
  exact ⟨o, hp, sj_cons h hs⟩
theorem sx_stop (h : StJ c st Γ μ u) (hs : u.stops = true) (hp : p u) : SX c (st :: sts) Γ μ p := ⟨u, hp, sj_stop h hs⟩
theorem sx_nil (hp : p (.nx Γ μ)) : SX c [] Γ μ p := ⟨_, hp, sj_nil⟩
theorem sx_set1 (t : T) (h : EvJ c e Γ μ t μ1) (hi : c.N[i]? = some x) (hx : locB c.sc x = true) (h' : SX c sts (Γ.set i (some t)) μ1 p) (hs : isComp e = false := by rfl) (hf : c.sto x = true := by rfl) : SX c (.Assign [.Name x pp] e pos :: sts) Γ μ p := sx_cons (st_nm h hi hx hs hf) h'
theorem sx_set (h : EX c e Γ μ pt) (hi : c.N[i]? = some x) (hx : locB c.sc x = true) (h' : ∀ t μ1, pt t μ1 → SX c sts (Γ.set i (some t)) μ1 p) (hs : isComp e = false := by rfl) (hf : c.sto x = true := by rfl) : SX c (.Assign [.Name x pp] e pos :: sts) Γ μ p := by
  obtain ⟨t, μ1, ht, he⟩ := h
  exact sx_set1 t he hi hx (h' t μ1 ht) hs hf
theorem sx_expr (h : EX c e Γ μ pt) (h' : ∀ t μ1, pt t μ1 → SX c sts Γ μ1 p) (hs : isComp e = false := by rfl) : SX c (.Expr e pos :: sts) Γ μ p := by
  obtain ⟨t, μ1, ht, he⟩ := h
  exact sx_cons (st_expr he hs) (h' t μ1 ht)
theorem sx_ret (h : EX c e Γ μ fun t μ1 => p (.rt t μ1)) : SX c (.Return (some e) pos :: sts) Γ μ p := by
  obtain ⟨t, μ1, ht, he⟩ := h
  exact sx_stop (st_ret he) rfl ht
/-- if: what a branch comes to goes on, or ends -/
def onO (c : EN.Ctx) (sts : List Stmt) (p : Out → Prop) : Out → Prop
  | .nx Γ μ => SX c sts Γ μ p
  | o => p o
theorem sx_st (h : StJ c st Γ μ u) (hu : onO c sts p u) : SX c (st :: sts) Γ μ p := by
  cases u with
  | nx Γ μ => exact sx_cons h hu
  | rt t μ => exact sx_stop h rfl hu
  | bk Γ μ => exact sx_stop h rfl hu
  | ct Γ μ => exact sx_stop h rfl hu
theorem sx_if_t {x : Expr} (h : TJ c x Γ μ true μ1) (h1 : SX c A Γ μ1 (onO c sts p)) : SX c (.If x A B pos :: sts) Γ μ p := by
  obtain ⟨o, hp, hs⟩ := h1
  exact sx_st (st_if_t h hs) hp
theorem sx_if_f {x : Expr} (h : TJ c x Γ μ false μ1) (h1 : SX c B Γ μ1 (onO c sts p)) : SX c (.If x A B pos :: sts) Γ μ p := by
  obtain ⟨o, hp, hs⟩ := h1
  exact sx_st (st_if_f h hs) hp
theorem sx_if {x : Expr} {r : Bool} (h : TJ c x Γ μ r μ1) (h1 : r = true → SX c A Γ μ1 (onO c sts p)) (h2 : r = false → SX c B Γ μ1 (onO c sts p)) : SX c (.If x A B pos :: sts) Γ μ p := by
  cases r with
  | true => exact sx_if_t h (h1 rfl)
  | false => exact sx_if_f h (h2 rfl)
theorem loop_inv {gt : TG} {its : List T} (I : Nat → List (Option T) → List M → Prop) (R : T → List M → Prop) (h : ∀ j t, its[j]? = some t → ∀ Γ μ, I j Γ μ → ∃ Γ1 js, GvJ c gt t Γ μ Γ1 js ∧ SX c body Γ1 μ (turnO (I (j + 1)) R)) :
    I 0 Γ μ → ∃ o, loopO (I its.length) R o ∧ LoopJ c gt body its Γ μ o := by
  induction its generalizing I Γ μ with
  | nil => exact fun h0 => ⟨.nx Γ μ, h0, rfl⟩
  | cons t ts ih =>
    intro h0
    obtain ⟨Γ1, js, hg, o, ho, hs⟩ := h 0 t rfl Γ μ h0
    have ih' := @ih
    cases o with
    | nx Γ2 μ2 =>
      obtain ⟨o2, q1, q2⟩ := ih' (fun j => I (j + 1)) (fun j u hu Γ μ hI => h (j + 1) u (by simpa using hu) Γ μ hI) ho
      exact ⟨o2, q1, Γ1, js, hg, _, hs, q2⟩
    | ct Γ2 μ2 =>
      obtain ⟨o2, q1, q2⟩ := ih' (fun j => I (j + 1)) (fun j u hu Γ μ hI => h (j + 1) u (by simpa using hu) Γ μ hI) ho
      exact ⟨o2, q1, Γ1, js, hg, _, hs, q2⟩
    | rt u μ2 => exact ⟨.rt u μ2, ho, Γ1, js, hg, _, hs, rfl⟩
    | bk Γ2 μ2 => exact False.elim ho
theorem sx_for {tg iter : Expr} {gt : TG} {its : List T} (I : Nat → List (Option T) → List M → Prop) (R : T → List M → Prop) (hi : IterJ c tg iter Γ μ its μ1) (hg : TgJ c tg gt) (h0 : I 0 Γ μ1)
    (h : ∀ j t, its[j]? = some t → ∀ Γ μ, I j Γ μ → ∃ Γ1 js, GvJ c gt t Γ μ Γ1 js ∧ SX c body Γ1 μ (turnO (I (j + 1)) R)) (hr : ∀ Γ μ, I its.length Γ μ → SX c sts Γ μ p) (hR : ∀ t μ, R t μ → p (.rt t μ))
    (hs : ∀ env x, foldedSetIterable iter env x = pure x := by intro _ _; rfl) : SX c (.For tg iter body [] pos :: sts) Γ μ p := by
  obtain ⟨o, ho, hl⟩ := loop_inv I R h h0
  refine sx_st (st_for hi hg hl hs) ?_
  cases o with
  | nx Γ' μ' => exact hr Γ' μ' ho
  | rt t μ' => exact hR t μ' ho
  | bk _ _ => exact False.elim ho
  | ct _ _ => exact False.elim ho
/-- the same of one name -/
theorem sx_forN {tg iter : Expr} {its : List T} (I : Nat → List (Option T) → List M → Prop) (R : T → List M → Prop) (hi : IterJ c tg iter Γ μ its μ1) (hg : TgJ c tg (gName i)) (h0 : I 0 Γ μ1)
    (h : ∀ j t, its[j]? = some t → ∀ Γ μ, I j Γ μ → SX c body (Γ.set i (some t)) μ (turnO (I (j + 1)) R)) (hr : ∀ Γ μ, I its.length Γ μ → SX c sts Γ μ p) (hR : ∀ t μ, R t μ → p (.rt t μ))
    (hs : ∀ env x, foldedSetIterable iter env x = pure x := by intro _ _; rfl) : SX c (.For tg iter body [] pos :: sts) Γ μ p :=
  sx_for I R hi hg h0 (fun j t hj Γ μ hI => ⟨_, [i], gv_name, h j t hj Γ μ hI⟩) hr hR hs
/-- a comprehension with an invariant -/
theorem cmp_inv {gt : TG} {elt : Expr} {ifs : List Expr} {vs : List Nat} {its : List T} (I : Nat → List D → List M → Prop)
    (h : ∀ j t ds μ, its[j]? = some t → I j ds μ → ∃ Γ1 js, GvJ c gt t Γ μ Γ1 js ∧ (∀ j ∈ js, j ∈ vs) ∧ ∃ b μ2, IfsJ c ifs Γ1 μ b μ2 ∧ (b = true → ∃ d μ3, EvJ c elt Γ1 μ2 (.dat d) μ3 ∧ I (j + 1) (ds ++ [d]) μ3) ∧ (b = false → I (j + 1) ds μ2)) :
    I 0 [] μ → ∃ ds μ', I its.length ds μ' ∧ CmpJ c gt elt ifs Γ vs its μ ds μ' := by
  have key : ∀ (its : List T) (j : Nat) (ds0 : List D) (μ : List M) (I : Nat → List D → List M → Prop), (∀ k t ds μ, its[k]? = some t → I (j + k) ds μ → ∃ Γ1 js, GvJ c gt t Γ μ Γ1 js ∧ (∀ j ∈ js, j ∈ vs) ∧ ∃ b μ2, IfsJ c ifs Γ1 μ b μ2 ∧ (b = true → ∃ d μ3, EvJ c elt Γ1 μ2 (.dat d) μ3 ∧ I (j + k + 1) (ds ++ [d]) μ3) ∧ (b = false → I (j + k + 1) ds μ2)) → I j ds0 μ →
      ∃ ds μ', I (j + its.length) (ds0 ++ ds) μ' ∧ CmpJ c gt elt ifs Γ vs its μ ds μ' := by
    intro its
    induction its with
    | nil => exact fun j ds0 μ I _ h0 => ⟨[], μ, by simpa using h0, rfl, rfl⟩
    | cons t ts ih =>
      intro j ds0 μ I h h0
      obtain ⟨Γ1, js, hg, hj, b, μ2, hif, ht, hf⟩ := h 0 t ds0 μ rfl (by simpa using h0)
      have h' : ∀ k u ds μ, ts[k]? = some u → I (j + 1 + k) ds μ → ∃ Γ1 js, GvJ c gt u Γ μ Γ1 js ∧ (∀ j ∈ js, j ∈ vs) ∧ ∃ b μ2, IfsJ c ifs Γ1 μ b μ2 ∧ (b = true → ∃ d μ3, EvJ c elt Γ1 μ2 (.dat d) μ3 ∧ I (j + 1 + k + 1) (ds ++ [d]) μ3) ∧ (b = false → I (j + 1 + k + 1) ds μ2) := by
        intro k u ds μ hu hI
        have := h (k + 1) u ds μ (by simpa using hu) (by rw [show j + (k + 1) = j + 1 + k by omega]; exact hI)
        rw [show j + (k + 1) + 1 = j + 1 + k + 1 by omega] at this
        exact this
      cases b with
      | true =>
        obtain ⟨d, μ3, he, hI⟩ := ht rfl
        obtain ⟨ds, μ', q1, q2⟩ := ih (j + 1) (ds0 ++ [d]) μ3 I h' (by simpa using hI)
        refine ⟨d :: ds, μ', ?_, Γ1, js, true, μ2, hg, hj, hif, fun _ => ⟨d, μ3, ds, he, q2, rfl⟩, fun z => nomatch z⟩
        rw [List.length_cons, show j + (ts.length + 1) = j + 1 + ts.length by omega, show ds0 ++ d :: ds = ds0 ++ [d] ++ ds by simp]
        exact q1
      | false =>
        obtain ⟨ds, μ', q1, q2⟩ := ih (j + 1) ds0 μ2 I h' (by simpa using hf rfl)
        refine ⟨ds, μ', ?_, Γ1, js, false, μ2, hg, hj, hif, (fun z => by cases z), fun _ => q2⟩
        rw [List.length_cons, show j + (ts.length + 1) = j + 1 + ts.length by omega]
        exact q1
  intro h0
  obtain ⟨ds, μ', q1, q2⟩ := key its 0 [] μ I (fun k t ds μ hk hI => by
    have := h k t ds μ hk (by simpa using hI)
    simpa using this) h0
  exact ⟨ds, μ', by simpa using q1, q2⟩
end
end EN
/-! enumerate over tuples -/
namespace EN
open PySem PySem.Spec PyProof.Rows L2
open AutoSeq1 (wpAny_loadPart')
/-- what a tuple's own walker draws -/
theorem draws_tup {prog : Program} {w : World} {A : Around} {it t : Addr} {items : Array Value} (hh : A.handled = none) (hne : it ≠ t) :
    Draws prog w A it [it, t] items.size (fun i x => items[i]? = some x) (fun i h => h.IsTupleIter it t i ∧ h.IsTuple t items) where
  live := fun i h st => by
    obtain ⟨⟨o, ho, _⟩, _⟩ := st
    exact ⟨o, ho⟩
  frame := fun i h h' st k => ⟨st.1.at fun o q => k it (by simp) o q, st.2.at fun o q => k t (by simp) o q⟩
  item := fun i s Q E hi st hQ => by
    refine wpAny_nextOf_tuple_item st.1 st.2 (x := items[i]) (Array.getElem?_eq_getElem hi) fun h' a b => ?_
    have := hQ items[i] h' s.toks (Array.getElem?_eq_getElem hi) ⟨a, st.2.at fun o q => (b.2 t (Ne.symm hne)).trans q⟩ b
    exact this
  done := fun s Q E st hE => wpAny_nextOf_tuple_end hh st.1 st.2 (by simp) hE
/-- enumerate(v), whatever v is walked by -/
theorem meets_en1 {v : Value} {o : Obj} {H : Heap → Prop} (B : Begins v o H) :
    Meets (Builtin.«enumerate.__new__» ⟨[.type "enumerate", v], []⟩) (fun _ R s => H s.heap ∧
      R (.ok (.ret (.ref (s.heap.push o).objs.size))) { s with heap := (s.heap.push o).push { cls := .type "enumerate", data := .fields #[.none, .bool false, .ref s.heap.objs.size, rawInt 0, .none, .none] } }) :=
  .of_wp fun prog w A R s h => by
    obtain ⟨hp, gs, dd, tk, os⟩ := s
    obtain ⟨h1, h⟩ := h
    have hsub := sub_enumerate
    have q1 : ∀ {A' : Around} {E : Value → Shared → Prop} {Q : Value → Shared → Prop}, Q (.ref hp.objs.size) ⟨hp.push o, gs, dd, tk, os⟩ → wpAny (model prog w) A' (pyIter v) Q E ⟨hp, gs, dd, tk, os⟩ := fun q => B.iter prog w _ _ ⟨hp, gs, dd, tk, os⟩ _ h1 q
    wp_walk using q1
    refine wpAny_stack_any fun st => wpAny_pure ?_
    split
    · rename_i c _ _ _ _ _
      cases (c == Value.type "enumerate") <;> (wp_walk using q1; exact ⟨_, rfl, h⟩)
    · wp_walk using q1
      exact ⟨_, rfl, h⟩
theorem call_en1 {prog : Program} {w : World} {A : Around} {E : Value → Shared → Prop} {s : Shared} {v : Value} {o : Obj} {H : Heap → Prop} {Q : Value → Shared → Prop} (B : Begins v o H) (h1 : H s.heap)
    (h : ∀ h', IsEnum h' (s.heap.objs.size + 1) s.heap.objs.size 0 .none → h'.get? s.heap.objs.size = some o → (∀ b o, s.heap.get? b = some o → h'.get? b = some o) → Q (.ref (s.heap.objs.size + 1)) { s with heap := h' }) :
    wpAny (model prog w) A (call (.type "enumerate") [v]) Q E s := by
  refine callType_new F.called_enumerate (by decide) (F.typeCall_enumerate_1 _) (F.newCall_enumerate_1 _) (fun obj => F.args_object_init_2 obj _) F.entry_enumerate_new (meets_en1 B) ⟨h1, ?_⟩
  have hz : (s.heap.push o).objs.size = s.heap.objs.size + 1 := Heap.size_push ..
  have h0 := Heap.get?_push_size s.heap (o := o) B.free
  generalize hg : s.heap.push o = hq at hz h0 ⊢
  have he := Heap.get?_push_size hq (o := { cls := .type "enumerate", data := .fields #[.none, .bool false, .ref s.heap.objs.size, rawInt 0, .none, .none] }) rfl
  show _ ∧ _
  rw [hz] at he ⊢
  exact ⟨⟨_, he, rfl⟩, h _ he (Heap.get?_push_of_some _ h0) fun b o x => Heap.get?_push_of_some _ (by rw [← hg]; exact Heap.get?_push_of_some _ x)⟩
/-- the tuple at a as it stands, each item in a new pair with its place -/
def IteT (K : PySem.W.Frag) (a : Addr) : It where
  go := fun i H => ∃ (xs : List V) (x : V), SqT K H a xs ∧ xs[i]? = some x
  yld := fun i H v H' => ∃ T x, v = .ref T ∧ H T = none ∧ H' = upd H T (.tup [.int (i : Nat), x]) ∧ ∀ xs, SqT K H a xs → xs[i]? = some x
  stop := fun i H => ∃ xs : List V, SqT K H a xs ∧ xs.length ≤ i
theorem turn_enT {P : Program} {w : World} {K : PySem.W.Frag} {elts : List Expr} {kk : Nat} {tpos : Pos} (a e it : Addr) :
    Turn P w K (.Tuple elts kk tpos) (IteT K a) [e, it] e (fun i h => (∃ old, IsEnum h e it ((i : Nat) : Int) old) ∧ h.IsTupleIter it a i ∧ e ≠ it ∧ e ≠ a ∧ it ≠ a) where
  mem := by simp
  obj := fun i h st b hb => by
    obtain ⟨⟨old, he⟩, ⟨o, ho, _, hd⟩, _⟩ := st
    rcases (by simpa using hb : b = e ∨ b = it) with rfl | rfl
    · exact ⟨_, he, fun v q => nomatch q⟩
    · exact ⟨o, ho, fun v q => by rw [hd] at q; cases q⟩
  keep := fun i h h' st k => by
    obtain ⟨⟨old, he⟩, hi, hne⟩ := st
    exact ⟨⟨old, k e (by simp) _ he⟩, hi.at fun o q => k it (by simp) o q, hne⟩
  item := by
    intro X hP hw hK hc i pins s σ H E I hf st hg
    subst hP hw hK
    obtain ⟨⟨old, he⟩, hit, n1, n2, n3⟩ := st
    obtain ⟨xs, x, hq, hx⟩ := hg
    obtain ⟨its, rv, p, hz⟩ := I.tuple hq
    obtain ⟨u, hu, ru⟩ := rv.get hx
    have hel : e < s.heap.objs.size := Heap.lt_size he
    have hil : it < s.heap.objs.size := by obtain ⟨_, q, _⟩ := hit; exact Heap.lt_size q
    have hi : i < its.toArray.size := by simpa using (List.getElem?_eq_some_iff.mp hu).1
    refine wpAny_pyNext_enum_itemD (draws_tup (I.ok.hd hc) n3) he ⟨hit, p⟩ hi n1 (by simp [n1, n2]) fun y h' tk hy ho hst' hT _ hk => ?_
    have ey : y = u := by
      have : its.toArray[i]? = some u := by simpa using hu
      rw [this] at hy; exact (Option.some.inj hy).symm
    subst ey
    refine ⟨_, rfl, wpAny_letOwnedTupleGo_enum (s := { s with heap := h', toks := tk + 1 }) ho fun h'' he' sb => ?_⟩
    have hT2 := (sb.2 _ (Nat.ne_of_gt hel)).trans hT
    have new : ObjOk X.prog X.w (upd H s.heap.objs.size (.tup [.int (i : Nat), x])) h'' s.heap.objs.size (.tup [.int (i : Nat), x]) :=
      ⟨by show 2 ≤ sizeLine; decide, [.int i tk, y], .cons ⟨_, rfl⟩ (.cons ru .nil), ⟨_, hT2, rfl, _, rfl⟩⟩
    have I1 : Inv X pins σ (upd H s.heap.objs.size (.tup [.int (i : Nat), x])) { s with heap := h'', toks := tk + 1 } :=
      I.turnedNew (ch := [e, it]) (fun b ob hb q => (sb.2 b (fun z => hb (by simp [z]))).trans (hk b ob (fun z => hb (by simp [z])) (fun z => hb (by simp [z])) q)) hf (Nat.le_refl _) new
    refine ⟨.ref s.heap.objs.size, _, I1, rfl, ⟨_, x, rfl, I.hok.fresh (Nat.le_refl _), rfl, fun ys hy => by rw [I.tuple_inj hy hq]; exact hx⟩, ⟨⟨y, ?_⟩, hst'.1.at fun o q => (sb.2 it (Ne.symm n1)).trans q, n1, n2, n3⟩, fun b hb => ?_⟩
    · rw [show ((i + 1 : Nat) : Int) = (i : Int) + 1 by omega]; exact he'
    · have hlt : b < s.heap.objs.size := by
        rcases (by simpa using hb : b = e ∨ b = it) with rfl | rfl
        · exact hel
        · exact hil
      rw [upd_ne (Nat.ne_of_lt hlt)]
      exact (hf b hb).1
  done := by
    intro X hP hw hK hc i pins s σ H E I hf st hg
    subst hP hw hK
    obtain ⟨⟨old, he⟩, hit, n1, n2, n3⟩ := st
    obtain ⟨xs, hq, hx⟩ := hg
    obtain ⟨its, rv, p, hz⟩ := I.tuple hq
    obtain ⟨f0, f1, f2, f3, f4, f5⟩ := hf it (by simp)
    have hl := rv.length
    have hT : s.TypeIs (.ref e) "enumerate" := ⟨_, he, rfl⟩
    unfold pyNext
    refine wpAny_bind (wpAny_attempt (wpAny_callSpecial?_slot (name := Str.ofString "__next__") hT F.slot_enumerate_next (wpAny_call_entry F.slot_enumerate_next hT F.entry_enumerate_next ?_ (F.args_enumerate_next_1 _))))
    show wpAny _ _ (field (.ref e) 2 >>= _) _ _ _
    refine wpAny_bind (wpAny_field he rfl (x := .ref it) rfl ?_)
    refine wpAny_bind (wpAny_nextOf_tuple_end (I.ok.hd hc) hit p (by simp; omega) fun h' x hb hcl => ?_)
    obtain ⟨o, ho, hcls⟩ := hcl
    refine wpAny_bind (wpAny_isInstance (T := "StopIteration") (b := true) ⟨o, ho, hcls⟩ isSubtype_stop (wpAny_pure ?_))
    exact ⟨rfl, I.turned (t' := s.toks) (fun b o hbb q => hb b o hbb q) f0 f1 f3 f4 f5⟩
  self := fun A i s Q E st h => by
    obtain ⟨⟨_, he⟩, _⟩ := st
    exact wpAny_pyIter_enum he h
def iEnT (K : PySem.W.Frag) (ta : TA) : TI := fun σ H R => ta σ H fun vs H1 => ∃ a xs, vs = [.ref a] ∧ SqT K H1 a xs ∧ R (IteT K a) H1
theorem pi_enT {X : Cx} {e : Expr} {ta : TA} {p pos tpos : Pos} {elts : List Expr} {kk : Nat} (hg : Gl X "enumerate") (hm : X.mg "enumerate" = none) (ha : PA X [e] ta) (hs : starEach [e] X.env = [(false, eval e X.env)] := by rfl) :
    PI X (.Tuple elts kk tpos) (.Call (.Name "enumerate" p) [e] [] pos) (iEnT X.K ta) := by
  refine ⟨fun pins s σ H R I h => ?_⟩
  refine Call_ (ld_blt I hg hm boot_enumerate (PyProof.Rows.callWith_type1 (thn (ha.run pos pins s σ H _ I h) fun us s1 ⟨vs, H1, I1, r1, q1⟩ => ?_) hs rfl))
  obtain ⟨a, xs, rfl, hq, q⟩ := q1
  cases r1 with
  | cons r rr =>
    cases rr
    cases r
    obtain ⟨its, rv, p', hz⟩ := I1.tuple hq
    have hla : a < s1.heap.objs.size := by obtain ⟨_, z, _⟩ := p'; exact Heap.lt_size z
    refine call_en1 (begins_tuple a _) p' fun h' he hit hk => wpAny_pyIter_enum he ?_
    have I2 : Inv X pins σ H1 { s1 with heap := h' } := I1.kept (t' := s1.toks) hk
    have hit' : h'.IsTupleIter s1.heap.objs.size a 0 := ⟨_, hit, rfl, rfl⟩
    refine ⟨s1.heap.objs.size + 1, [s1.heap.objs.size + 1, s1.heap.objs.size], _, _, H1, rfl, I2, turn_enT a (s1.heap.objs.size + 1) s1.heap.objs.size, ⟨⟨.none, he⟩, hit', Nat.succ_ne_self _, Nat.ne_of_gt (Nat.lt_succ_of_lt hla), Nat.ne_of_gt hla⟩, fun b hb => ?_, q⟩
    have hle : s1.heap.objs.size ≤ b := by
      rcases (by simpa using hb : b = s1.heap.objs.size + 1 ∨ b = s1.heap.objs.size) with z | z
      · rw [z]; exact Nat.le_succ _
      · rw [z]; exact Nat.le_refl _
    exact I1.fpOk hle (I1.hok.fresh hle)
/-! in the engine -/
section
variable {c : EN.Ctx} {a b e : Expr} {es : List Expr} {Γ : List (Option T)} {μ μ1 μ2 : List M} {pos : Pos} {ds : List D}
theorem it_enumT {elts : List Expr} {kk : Nat} {tpos p : Pos} (h : EvJ c a Γ μ (.dat (.tup ds)) μ1) (hg : c.sc.names.lookup ("enumerate" : Str) = some .globalImplicit) (hm : c.mg "enumerate" = none) (hs : isStar a = false := by rfl) :
    IterJ c (.Tuple elts kk tpos) (.Call (.Name "enumerate" p) [a] [] pos) Γ μ (enD ds) μ1 := fun X g =>
  ⟨_, pi_enT (show X.env.scope.names.lookup ("enumerate" : Str) = _ by rw [g.sc]; exact hg) (by rw [g.mg]; exact hm) pa_sem (by rw [star_cons hs]; rfl), fun φ π σ H s0 g0 R q => by
  refine (aj_cons h aj_nil hs : AJ c [a] Γ μ [_] μ1) X g φ π σ H s0 g0 _ fun vs π1 H1 n1 k1 => ?_
  obtain ⟨v, rfl, k⟩ := k1.one
  cases k with
  | tup s l =>
    rename_i p0 vs0
    refine ⟨_, _, rfl, (hd_le _ _ _ _ : Ex _ _).sqT s, q _ π1 H1 n1 fun i φ2 π2 H2 μ2 s2' _ le => ⟨fun t ht => ?_, fun hi => ⟨vs0, (hd_le _ _ _ _ : Ex _ _).sqT (Ex.sqT le s), by rw [← l.len]; simpa [len_en] using hi⟩⟩⟩
    obtain ⟨x, hx, rfl⟩ := enD_get ht
    have s2 : SqT X.K H2 p0 vs0 := (hd_le _ _ _ _ : Ex _ _).sqT (Ex.sqT le s)
    obtain ⟨y, hy, ky⟩ := (DtL.mono le l).get hx
    refine ⟨⟨vs0, y, s2, hy⟩, fun z H' hz => ?_⟩
    obtain ⟨T0, x0, rfl, hT, rfl, hz⟩ := hz
    have := hz vs0 s2
    rw [hy] at this; cases this
    obtain ⟨n3, at3⟩ := s2'.newData (o := .tup [.int (i : Nat), y]) hT
    exact ⟨n3, .tup (SqT.of at3) (.cons (.int _) (.cons (Dt.mono n3.le ky) .nil))⟩⟩
end
end EN
/-! The shallow form: a text told as a Lean function over stores; where it comes to something, so does the text. -/
namespace EN
open PySem PySem.Spec PyProof.Rows L2

inductive R (α : Type) where
  | ok (a : α) (μ : List M) | no
abbrev Sh (α : Type) := List M → R α
def ret {α : Type} (a : α) : Sh α := fun μ => .ok a μ
def bnd {α β : Type} (m : Sh α) (f : α → Sh β) : Sh β := fun μ => match m μ with
  | .ok a μ1 => f a μ1
  | .no => .no
def stop {α : Type} : Sh α := fun _ => .no
def ofO {α : Type} (o : Option α) : Sh α := fun μ => match o with
  | some a => .ok a μ
  | none => .no
@[simp] theorem bnd_ret {α β : Type} (a : α) (f : α → Sh β) : bnd (ret a) f = f a := rfl
@[simp] theorem ret_ap {α : Type} (a : α) (μ : List M) : ret a μ = .ok a μ := rfl
@[simp] theorem bnd_ap {α β : Type} (m : Sh α) (f : α → Sh β) (μ : List M) : bnd m f μ = match m μ with
  | .ok a μ1 => f a μ1
  | .no => .no := rfl
@[simp] theorem stop_ap {α : Type} (μ : List M) : (stop : Sh α) μ = .no := rfl
@[simp] theorem ofO_some {α : Type} (a : α) : ofO (some a) = ret a := rfl
@[simp] theorem ofO_none {α : Type} : ofO (none : Option α) = stop := rfl
theorem bnd_inv {α β : Type} {m : Sh α} {f : α → Sh β} {μ μ' : List M} {b : β} (h : bnd m f μ = .ok b μ') : ∃ a μ1, m μ = .ok a μ1 ∧ f a μ1 = .ok b μ' := by
  unfold bnd at h
  cases e : m μ with
  | ok a μ1 => rw [e] at h; exact ⟨a, μ1, rfl, h⟩
  | no => rw [e] at h; cases h
theorem ret_inv {α : Type} {a b : α} {μ μ' : List M} (h : ret a μ = .ok b μ') : a = b ∧ μ = μ' := by
  cases h; exact ⟨rfl, rfl⟩
theorem ofO_inv {α : Type} {o : Option α} {b : α} {μ μ' : List M} (h : ofO o μ = .ok b μ') : o = some b ∧ μ = μ' := by
  cases o with
  | none => cases h
  | some a => cases h; exact ⟨rfl, rfl⟩

structure EvS (c : EN.Ctx) (e : Expr) (Γ : List (Option T)) (m : Sh T) : Prop where
  run : ∀ μ t μ', m μ = .ok t μ' → EvJ c e Γ μ t μ'
instance {c : EN.Ctx} {e : Expr} {Γ : List (Option T)} {m : Sh T} : CoeFun (EvS c e Γ m) fun _ => ∀ μ t μ', m μ = .ok t μ' → EvJ c e Γ μ t μ' := ⟨EvS.run⟩
structure TsS (c : EN.Ctx) (e : Expr) (Γ : List (Option T)) (m : Sh Bool) : Prop where
  run : ∀ μ t μ', m μ = .ok t μ' → TJ c e Γ μ t μ'
instance {c : EN.Ctx} {e : Expr} {Γ : List (Option T)} {m : Sh Bool} : CoeFun (TsS c e Γ m) fun _ => ∀ μ t μ', m μ = .ok t μ' → TJ c e Γ μ t μ' := ⟨TsS.run⟩
structure WsS (c : EN.Ctx) (e : Expr) (Γ : List (Option T)) (m : Sh Bool) : Prop where
  run : ∀ μ t μ', m μ = .ok t μ' → WJ c e Γ μ t μ'
instance {c : EN.Ctx} {e : Expr} {Γ : List (Option T)} {m : Sh Bool} : CoeFun (WsS c e Γ m) fun _ => ∀ μ t μ', m μ = .ok t μ' → WJ c e Γ μ t μ' := ⟨WsS.run⟩
structure AsS (c : EN.Ctx) (es : List Expr) (Γ : List (Option T)) (m : Sh (List T)) : Prop where
  run : ∀ μ t μ', m μ = .ok t μ' → AJ c es Γ μ t μ'
instance {c : EN.Ctx} {es : List Expr} {Γ : List (Option T)} {m : Sh (List T)} : CoeFun (AsS c es Γ m) fun _ => ∀ μ t μ', m μ = .ok t μ' → AJ c es Γ μ t μ' := ⟨AsS.run⟩
def R2S (c : EN.Ctx) (f : Value → Value → Sem Value) (x y : T) (m : Sh T) : Prop := ∀ μ t μ', m μ = .ok t μ' → R2J c f x y μ t μ'
def C1S (c : EN.Ctx) (f : Value) (xs : List T) (m : Sh T) : Prop := ∀ μ t μ', m μ = .ok t μ' → C1J c f xs μ t μ'
def I2S (c : EN.Ctx) (x y : T) (m : Sh T) : Prop := ∀ μ t μ', m μ = .ok t μ' → I2J c x y μ t μ'
def S3S (c : EN.Ctx) (x : T) (lo hi : Option Int) (m : Sh T) : Prop := ∀ μ t μ', m μ = .ok t μ' → S3J c x lo hi μ t μ'

/-! ### stores, read -/
def undat : List T → Option (List D)
  | [] => some []
  | .dat d :: ts => (undat ts).map (d :: ·)
  | _ :: _ => none
theorem undat_some : ∀ {ts : List T} {ds : List D}, undat ts = some ds → ts = dats ds
  | [], ds, h => by cases h; rfl
  | .dat d :: ts, ds, h => by
    simp only [undat] at h
    cases e : undat ts with
    | none => rw [e] at h; cases h
    | some es => rw [e] at h; cases h; rw [undat_some e]; rfl
  | .own _ :: _, _, h => by cases h
  | .vls _ _ :: _, _, h => by cases h
@[simp] theorem undat_dats : ∀ ds : List D, undat (dats ds) = some ds
  | [] => rfl
  | d :: ds => by have := undat_dats ds; simp only [dats, List.map_cons, undat] at this ⊢; rw [this]; rfl
@[simp] theorem undat_map (ds : List D) : undat (ds.map T.dat) = some ds := undat_dats ds
@[simp] theorem undat_nil : undat [] = some [] := rfl
@[simp] theorem undat_cons (d : D) (ts : List T) : undat (.dat d :: ts) = (undat ts).map (d :: ·) := rfl
/-- a list, whoever holds it -/
def seeL (t : T) (μ : List M) : Option (List D) := match t with
  | .dat (.lst ds) => some ds
  | .dat _ => none
  | .own i => match μ[i]? with
    | some (.lst ts) => undat ts
    | some (.frz (.lst ds)) => some ds
    | _ => none
  | .vls _ _ => none
@[simp] theorem seeL_dat (ds : List D) (μ : List M) : seeL (.dat (.lst ds)) μ = some ds := rfl
theorem seeL_own {i : Nat} {ts : List T} {μ : List M} (h : μ[i]? = some (.lst ts)) : seeL (.own i) μ = undat ts := by simp only [seeL, h]
theorem seeL_ok {K : PySem.W.Frag} {φ π : List Addr} {H : Hp} {μ : List M} {t : T} {v : V} {ds : List D} (s : SOk K φ π H μ) (h : TOk K π (hd φ π μ H) t v) (e : seeL t μ = some ds) :
    ∃ a vs, v = .ref a ∧ SqL K H a vs ∧ DtL K (hd φ π μ H) ds vs := by
  unfold seeL at e
  split at e
  · cases e
    cases h with
    | lst s l => exact ⟨_, _, rfl, (hd_le _ _ _ _ : Ex _ _).sqL s, l⟩
  · cases e
  · rename_i i
    obtain ⟨a, ha, rfl⟩ := h
    split at e
    · rename_i ts q
      obtain ⟨vs, hv, hts⟩ := s.obj i a _ ha q
      rw [undat_some e] at hts
      exact ⟨a, vs, rfl, SqL.of hv, hts.dt⟩
    · rename_i ds' q
      cases e
      have := (s.obj i a _ ha q).2
      cases this with
      | lst s l => exact ⟨_, _, rfl, (hd_le _ _ _ _ : Ex _ _).sqL s, l⟩
    · cases e
  · cases e
/-- data, whoever holds it; of one's own lists and frozen things -/
def seeD (t : T) (μ : List M) : Option D := match t with
  | .dat d => some d
  | .own i => match μ[i]? with
    | some (.lst ts) => (undat ts).map .lst
    | some (.frz d) => some d
    | _ => none
  | .vls _ _ => none
@[simp] theorem seeD_dat (d : D) (μ : List M) : seeD (.dat d) μ = some d := rfl
theorem seeD_own {i : Nat} {ts : List T} {μ : List M} (h : μ[i]? = some (.lst ts)) : seeD (.own i) μ = (undat ts).map .lst := by simp only [seeD, h]
theorem seeD_ok {K : PySem.W.Frag} {φ π : List Addr} {H : Hp} {μ : List M} {t : T} {v : V} {d : D} (s : SOk K φ π H μ) (h : TOk K π (hd φ π μ H) t v) (e : seeD t μ = some d) : Dt K H d v := by
  unfold seeD at e
  split at e
  · cases e; exact Dt.mono (hd_le _ _ _ _) h
  · rename_i i
    obtain ⟨a, ha, rfl⟩ := h
    split at e
    · rename_i ts q
      obtain ⟨vs, hv, hts⟩ := s.obj i a _ ha q
      cases q2 : undat ts with
      | none => rw [q2] at e; cases e
      | some ds =>
        rw [q2] at e; cases e
        rw [undat_some q2] at hts
        exact .lst (SqL.of hv) (DtL.mono (hd_le _ _ _ _) hts.dt)
    · cases e
      rename_i q
      exact Dt.mono (hd_le _ _ _ _) (s.obj i a _ ha q).2
    · cases e
  · cases e
/-- data, that stays data -/
def datOf (t : T) (μ : List M) : Option D := match t with
  | .dat d => some d
  | .own i => match μ[i]? with
    | some (.frz d) => some d
    | _ => none
  | .vls _ _ => none
@[simp] theorem datOf_dat (d : D) (μ : List M) : datOf (.dat d) μ = some d := rfl
theorem datOf_ok {K : PySem.W.Frag} {φ π : List Addr} {H : Hp} {μ : List M} {t : T} {v : V} {d : D} (s : SOk K φ π H μ) (h : TOk K π (hd φ π μ H) t v) (e : datOf t μ = some d) : Dt K (hd φ π μ H) d v := by
  unfold datOf at e
  split at e
  · cases e; exact h
  · rename_i i
    obtain ⟨a, ha, rfl⟩ := h
    split at e
    · cases e
      rename_i q
      exact (s.obj i a _ ha q).2
    · cases e
  · cases e

/-! ### two-place operations -/
def opAdd (x y : T) : Sh T := fun μ => match x, y with
  | .dat (.int i), .dat (.int j) => .ok (.int (i + j)) μ
  | .dat (.str a), .dat (.str b) => if a.length + b.length ≤ sizeLine then .ok (.str (a ++ b)) μ else .no
  | .dat (.tup a), .dat (.tup b) => if a.length + b.length ≤ sizeLine then .ok (.dat (.tup (a ++ b))) μ else .no
  | x, y => match seeL x μ, seeL y μ with
    | some a, some b => if a.length + b.length ≤ sizeLine then .ok (.dat (.lst (a ++ b))) μ else .no
    | _, _ => .no
def opSub (x y : T) : Sh T := fun μ => match x, y with
  | .dat (.int i), .dat (.int j) => .ok (.int (i - j)) μ
  | _, _ => .no

def opMul (x y : T) : Sh T := fun μ => match x, y with
  | .dat (.int i), .dat (.int j) => if Builtin.Int.intBits i + Builtin.Int.intBits j ≤ 134217728 then .ok (.int (i * j)) μ else .no
  | .dat (.str a), .dat (.int j) => if j ≤ 1 ∧ -1000 ≤ j then .ok (.str (if j < 1 then "" else a)) μ else .no
  | x, .dat (.int j) => match seeL x μ with
    | some ds => if -(2 ^ 63) ≤ j ∧ j < 2 ^ 63 ∧ ds.length * j.toNat ≤ sizeLine then (match x with
      | .own i => (match μ[i]? with
        | some (.lst _) => .ok (.dat (.lst (List.replicate j.toNat ds).flatten)) μ
        | _ => .no)
      | _ => .no) else .no
    | none => .no
  | _, _ => .no
def opDiv (x y : T) : Sh T := fun μ => match x, y with
  | .dat (.int i), .dat (.int j) => if 0 < j ∧ j < 1073741824 then .ok (.int (i / j)) μ else .no
  | _, _ => .no
def opMod (x y : T) : Sh T := fun μ => match x, y with
  | .dat (.int i), .dat (.int j) => if 0 < j then .ok (.int (i % j)) μ else .no
  | _, _ => .no
def opPow (x y : T) : Sh T := fun μ => match x, y with
  | .dat (.int i), .dat (.int j) => if 0 ≤ j ∧ j ≤ 1000000 ∧ i.natAbs < 2 ^ 64 then .ok (.int (i ^ j.toNat)) μ else .no
  | _, _ => .no
def opLt (x y : T) : Sh T := fun μ => match x, y with
  | .dat (.int i), .dat (.int j) => .ok (.bl (decide (i < j))) μ
  | .dat (.str a), .dat (.str b) => .ok (.bl (decide (a.cps.toList < b.cps.toList))) μ
  | _, _ => .no
def opLe (x y : T) : Sh T := fun μ => match x, y with
  | .dat (.int i), .dat (.int j) => .ok (.bl (decide (i ≤ j))) μ
  | .dat (.str a), .dat (.str b) => .ok (.bl (!decide (b.cps.toList < a.cps.toList))) μ
  | _, _ => .no
def opGt (x y : T) : Sh T := fun μ => match x, y with
  | .dat (.int i), .dat (.int j) => .ok (.bl (decide (j < i))) μ
  | _, _ => .no
def opGe (x y : T) : Sh T := fun μ => match x, y with
  | .dat (.int i), .dat (.int j) => .ok (.bl (decide (j ≤ i))) μ
  | _, _ => .no
/-- == of data -/
def eqD (d e : D) : Option Bool := if scD d e then some (eqS d e) else if SeqAt.shaped d.p && SeqAt.shaped e.p then some (PyData.eqv d.p e.p) else none
def opEq (x y : T) : Sh T := fun μ => match seeD x μ, seeD y μ with
  | some d, some e => match eqD d e with
    | some b => .ok (.bl b) μ
    | none => .no
  | _, _ => .no
def opNe (x y : T) : Sh T := fun μ => match seeD x μ, seeD y μ with
  | some d, some e => match eqD d e with
    | some b => .ok (.bl (!b)) μ
    | none => .no
  | _, _ => .no
/-- x in y -/
def inD (x : D) (y : T) (μ : List M) : Option Bool := match y with
  | .dat (.tup ds) => if flD x && ds.all flD then some (inF x ds) else none
  | .dat (.str z) => match x with
    | .str a => (match a.cps.toList with
      | [k] => some (decide (k ∈ z.cps.toList))
      | _ => none)
    | _ => none
  | y => match seeL y μ with
    | some ds => if flD x && ds.all flD then some (inF x ds) else none
    | none => none
def opIn (x y : T) : Sh T := fun μ => match x with
  | .dat d => match inD d y μ with
    | some b => .ok (.bl b) μ
    | none => .no
  | _ => .no
def opNotIn (x y : T) : Sh T := fun μ => match x with
  | .dat d => match inD d y μ with
    | some b => .ok (.bl (!b)) μ
    | none => .no
  | _ => .no
/-- x is None -/
def isT (x : T) : Bool := match x with
  | .dat d => isN d
  | _ => false
def opIsN (x : T) : Sh T := ret (.bl (isT x))
def opNotN (x : T) : Sh T := ret (.bl (!isT x))

section
variable {c : EN.Ctx} {a b e : Expr} {es : List Expr} {Γ : List (Option T)} {pos : Pos} {x y : T} {ma mb : Sh T} {mt : Sh Bool} {d : D}
theorem add_ok : R2S c (binaryOp .Add) x y (opAdd x y) := by
  intro μ t μ' h
  unfold opAdd at h
  split at h
  · cases h; exact o_addI
  · split at h
    · rename_i q; cases h; exact o_addS q
    · cases h
  · split at h
    · rename_i q; cases h; exact o_catT q
    · cases h
  · split at h
    · rename_i q1 q2
      split at h
      · rename_i q
        cases h
        exact fun X gX => ⟨_, op_catR, fun φ π H v w s0 h1 h2 Q qq => by
          obtain ⟨a1, vs1, rfl, s1, l1⟩ := seeL_ok s0 h1 q1
          obtain ⟨a2, vs2, rfl, s2, l2⟩ := seeL_ok s0 h2 q2
          refine ⟨_, _, _, _, rfl, rfl, s1, s2, by rw [← l1.len, ← l2.len]; exact q, fun p np => ?_⟩
          obtain ⟨n1, at1⟩ := s0.newData np
          exact qq _ π _ n1 (.lst (SqL.of at1) (DtL.mono n1.le (l1.append l2)))⟩
      · cases h
    · cases h
theorem sub_ok : R2S c (binaryOp .Sub) x y (opSub x y) := by
  intro μ t μ' h
  unfold opSub at h
  split at h
  · cases h; exact o_subI
  · cases h
theorem op_mulS {X : Cx} : OpR X (binaryOp .Mult) (fun x y H Q => ∃ a n, x = .str a ∧ y = .int n ∧ n ≤ 1 ∧ -1000 ≤ n ∧ Q (.str (if n < 1 then "" else a)) H) := by
  intro pins s σ H x y v u Q I rx ry h
  obtain ⟨a, n, rfl, rfl, h1, h2, q⟩ := h
  obtain ⟨t, rfl⟩ := rx
  obtain ⟨t', rfl⟩ := ry
  refine P.mul_str (by rw [decide_eq_false (by omega), decide_eq_false (by omega)]; rfl) (fun hh he => ?_) (fun hh he => ?_) ?_
  · have : n = 1 := by omega
    subst this; simp at he
  · have : n = 1 := by omega
    subst this; simp at he
  · by_cases hn : n < 1
    · rw [if_pos hn] at q ⊢
      exact ⟨by decide, ⟨.str "", H, I.tok _, ⟨_, rfl⟩, q⟩⟩
    · have : n = 1 := by omega
      subst this
      rw [if_neg hn] at q ⊢
      rw [if_pos (by rfl)]
      exact ⟨.str a, H, I, ⟨_, rfl⟩, q⟩
theorem mul_ok : R2S c (binaryOp .Mult) x y (opMul x y) := by
  intro μ t μ' h
  unfold opMul at h
  split at h
  · split at h
    · rename_i q; cases h
      exact r2_I (fun _ _ => op_mulX) (by unfold CMulX; omega) fun _ => .int _
    · cases h
  · split at h
    · rename_i q; cases h
      exact fun X gX => ⟨_, op_mulS, fun φ π H v w s0 h1 h2 Q qq => by
        cases h1; cases h2
        exact ⟨_, _, rfl, rfl, q.1, q.2, qq _ π H (Nxt.refl s0) (.str _)⟩⟩
    · cases h
  · split at h
    · rename_i ds q1
      split at h
      · rename_i q
        split at h
        · rename_i i
          split at h
          · rename_i ts q2
            cases h
            rw [seeL_own q2] at q1
            exact o_repO (by rw [q2, undat_some q1]) q.1 q.2.1 q.2.2
          · cases h
        · cases h
      · cases h
    · cases h
  · cases h
theorem div_ok : R2S c (binaryOp .FloorDiv) x y (opDiv x y) := by
  intro μ t μ' h
  unfold opDiv at h
  split at h
  · split at h
    · rename_i q; cases h; exact o_divI q
    · cases h
  · cases h
theorem mod_ok : R2S c (binaryOp .Mod) x y (opMod x y) := by
  intro μ t μ' h
  unfold opMod at h
  split at h
  · split at h
    · rename_i q; cases h; exact o_modI q
    · cases h
  · cases h
theorem pow_ok : R2S c (binaryOp .Pow) x y (opPow x y) := by
  intro μ t μ' h
  unfold opPow at h
  split at h
  · split at h
    · rename_i q; cases h; exact o_powI q
    · cases h
  · cases h
theorem lt_ok : R2S c (compareOp .Lt) x y (opLt x y) := by
  intro μ t μ' h
  unfold opLt at h
  split at h
  · cases h; exact o_ltI
  · cases h; exact o_ltS
  · cases h
theorem le_ok : R2S c (compareOp .LtE) x y (opLe x y) := by
  intro μ t μ' h
  unfold opLe at h
  split at h
  · cases h; exact o_leI
  · cases h; exact o_leS
  · cases h
theorem gt_ok : R2S c (compareOp .Gt) x y (opGt x y) := by
  intro μ t μ' h
  unfold opGt at h
  split at h
  · cases h; exact o_gtI
  · cases h
theorem ge_ok : R2S c (compareOp .GtE) x y (opGe x y) := by
  intro μ t μ' h
  unfold opGe at h
  split at h
  · cases h; exact o_geI
  · cases h
theorem eq_ok : R2S c (compareOp .Eq) x y (opEq x y) := by
  intro μ t μ' h
  unfold opEq at h
  split at h
  · rename_i q1 q2
    split at h
    · rename_i b q
      cases h
      unfold eqD at q
      split at q
      · rename_i hs
        cases q
        exact fun X gX => ⟨_, op_eq, fun φ π H v w s0 h1 h2 Q qq => by
          obtain ⟨z1, z2⟩ := sc_ok hs (seeD_ok s0 h1 q1) (seeD_ok s0 h2 q2)
          exact ⟨z1, qq _ π H (Nxt.refl s0) (by rw [z2]; exact .bl _)⟩⟩
      · split at q
        · rename_i hs
          cases q
          simp only [Bool.and_eq_true] at hs
          exact fun X gX => ⟨_, op_eqD gX.room.units, fun φ π H v w s0 h1 h2 Q qq => ⟨_, _, dp_of (seeD_ok s0 h1 q1) hs.1, dp_of (seeD_ok s0 h2 q2) hs.2, hs.1, hs.2, qq _ π H (Nxt.refl s0) (.bl _)⟩⟩
        · cases q
    · cases h
  · cases h
theorem ne_ok : R2S c (compareOp .NotEq) x y (opNe x y) := by
  intro μ t μ' h
  unfold opNe at h
  split at h
  · rename_i q1 q2
    split at h
    · rename_i b q
      cases h
      unfold eqD at q
      split at q
      · rename_i hs
        cases q
        exact fun X gX => ⟨_, op_ne, fun φ π H v w s0 h1 h2 Q qq => by
          obtain ⟨z1, z2⟩ := sc_ok hs (seeD_ok s0 h1 q1) (seeD_ok s0 h2 q2)
          exact ⟨z1, qq _ π H (Nxt.refl s0) (by rw [z2]; exact .bl _)⟩⟩
      · split at q
        · rename_i hs
          cases q
          simp only [Bool.and_eq_true] at hs
          exact fun X gX => ⟨_, op_neD gX.room.units, fun φ π H v w s0 h1 h2 Q qq => ⟨_, _, dp_of (seeD_ok s0 h1 q1) hs.1, dp_of (seeD_ok s0 h2 q2) hs.2, hs.1, hs.2, qq _ π H (Nxt.refl s0) (.bl _)⟩⟩
        · cases q
    · cases h
  · cases h
theorem in_ok : R2S c (compareOp .In) x y (opIn x y) := by
  intro μ t μ' h
  unfold opIn at h
  split at h
  · rename_i d
    split at h
    · rename_i b q
      cases h
      unfold inD at q
      split at q
      · split at q
        · rename_i hs; cases q; simp only [Bool.and_eq_true] at hs; exact o_inT hs.1 hs.2
        · cases q
      · split at q
        · rename_i a
          split at q
          · rename_i k qk
            cases q
            have : a = ⟨#[k]⟩ := by
              obtain ⟨⟨l⟩⟩ := a
              simp at qk; subst qk; rfl
            subst this
            exact o_inSign
          · cases q
        · cases q
      · split at q
        · rename_i ds q2
          split at q
          · rename_i hs; cases q; simp only [Bool.and_eq_true] at hs
            exact fun X gX => ⟨_, op_in_seq, fun φ π H v w s0 h1 h2 Q qq => by
              obtain ⟨a1, vs1, rfl, s1, l1⟩ := seeL_ok s0 h2 q2
              obtain ⟨z1, z2⟩ := flL_ok hs.1 h1 l1 hs.2
              refine ⟨_, _, rfl, .inl s1, fl_ok hs.1 h1, z1, ?_⟩
              rw [if_neg Bool.false_ne_true, z2]
              exact qq _ π H (Nxt.refl s0) (.bl _)⟩
          · cases q
        · cases q
    · cases h
  · cases h
theorem notIn_ok : R2S c (compareOp .NotIn) x y (opNotIn x y) := by
  intro μ t μ' h
  unfold opNotIn at h
  split at h
  · rename_i d
    split at h
    · rename_i b q
      cases h
      unfold inD at q
      split at q
      · split at q
        · rename_i hs; cases q; simp only [Bool.and_eq_true] at hs; exact o_notInT hs.1 hs.2
        · cases q
      · split at q
        · rename_i a
          split at q
          · rename_i k qk
            cases q
            have : a = ⟨#[k]⟩ := by
              obtain ⟨⟨l⟩⟩ := a
              simp at qk; subst qk; rfl
            subst this
            exact o_notInSign
          · cases q
        · cases q
      · split at q
        · rename_i ds q2
          split at q
          · rename_i hs; cases q; simp only [Bool.and_eq_true] at hs
            exact fun X gX => ⟨_, op_notIn_seq, fun φ π H v w s0 h1 h2 Q qq => by
              obtain ⟨a1, vs1, rfl, s1, l1⟩ := seeL_ok s0 h2 q2
              obtain ⟨z1, z2⟩ := flL_ok hs.1 h1 l1 hs.2
              refine ⟨_, _, rfl, .inl s1, fl_ok hs.1 h1, z1, ?_⟩
              rw [if_pos rfl, z2]
              exact qq _ π H (Nxt.refl s0) (.bl _)⟩
          · cases q
        · cases q
    · cases h
  · cases h
theorem isN_okS : R2S c (compareOp .Is) x .non (opIsN x) := by
  intro μ t μ' h
  cases h
  cases x with
  | dat d => exact o_isN
  | own i => exact fun X gX => ⟨_, op_isN, fun φ π H v w s0 h1 h2 Q q => by
      cases h2
      obtain ⟨p, hp, rfl⟩ := h1
      exact ⟨rfl, q _ π H (Nxt.refl s0) (Dt.bl false)⟩⟩
  | vls ds vs => exact fun X gX => ⟨_, op_isN, fun φ π H v w s0 h1 h2 Q q => by
      cases h2
      obtain ⟨p, rfl, _⟩ := h1
      exact ⟨rfl, q _ π H (Nxt.refl s0) (Dt.bl false)⟩⟩
theorem notN_okS : R2S c (compareOp .IsNot) x .non (opNotN x) := by
  intro μ t μ' h
  cases h
  cases x with
  | dat d => exact o_notN
  | own i => exact fun X gX => ⟨_, op_notN, fun φ π H v w s0 h1 h2 Q q => by
      cases h2
      obtain ⟨p, hp, rfl⟩ := h1
      exact ⟨rfl, q _ π H (Nxt.refl s0) (Dt.bl true)⟩⟩
  | vls ds vs => exact fun X gX => ⟨_, op_notN, fun φ π H v w s0 h1 h2 Q q => by
      cases h2
      obtain ⟨p, rfl, _⟩ := h1
      exact ⟨rfl, q _ π H (Nxt.refl s0) (Dt.bl true)⟩⟩
end
end EN
/-! Expressions in the shallow form. -/
namespace EN
open PySem PySem.Spec PyProof.Rows L2

/-- a test's word -/
def tst (m : Sh T) : Sh Bool := bnd m fun t => match t with
  | .dat (.bl b) => ret b
  | _ => stop
def notB (m : Sh Bool) : Sh Bool := bnd m fun b => ret (!b)
def andB (m n : Sh Bool) : Sh Bool := bnd m fun b => match b with
  | true => n
  | false => ret false
def orB (m n : Sh Bool) : Sh Bool := bnd m fun b => match b with
  | true => ret true
  | false => n
def notV (m : Sh T) : Sh T := bnd m fun t => match t with
  | .dat (.bl b) => ret (.bl (!b))
  | _ => stop
def andV (m n : Sh T) : Sh T := bnd m fun t => match t with
  | .dat (.bl true) => n
  | .dat (.bl false) => ret (.bl false)
  | _ => stop
def orV (m n : Sh T) : Sh T := bnd m fun t => match t with
  | .dat (.bl true) => ret (.bl true)
  | .dat (.bl false) => n
  | _ => stop
def negV (m : Sh T) : Sh T := bnd m fun t => match t with
  | .dat (.int i) => ret (.int (-i))
  | _ => stop
def iff {α : Type} (m : Sh Bool) (a b : Sh α) : Sh α := bnd m fun r => match r with
  | true => a
  | false => b
def datOfs : List T → List M → Option (List D)
  | [], _ => some []
  | t :: ts, μ => match datOf t μ, datOfs ts μ with
    | some d, some ds => some (d :: ds)
    | _, _ => none
def mkTup (ts : List T) : Sh T := fun μ => match datOfs ts μ with
  | some ds => if Nat.ble ds.length 1000000 then .ok (.dat (.tup ds)) μ else .no
  | none => .no
def mkLst (ts : List T) : Sh T := fun μ => match datOfs ts μ with
  | some ds => if Nat.ble ds.length 1000000 then .ok (.dat (.lst ds)) μ else .no
  | none => .no
def newLst (ts : List T) : Sh T := fun μ => if Nat.ble ts.length 1000000 then .ok (.own μ.length) (μ ++ [.lst ts]) else .no
def opIx (x y : T) : Sh T := fun μ => match x, y with
  | .dat (.str z), .dat (.int i) => if z.length ≤ sizeLine then (match atI z.cps.toList i with
    | some k => .ok (.str ⟨#[k]⟩) μ
    | none => .no) else .no
  | .dat (.tup ds), .dat (.int i) => (match atI ds i with
    | some d => .ok (.dat d) μ
    | none => .no)
  | .dat (.lst ds), .dat (.int i) => (match atI ds i with
    | some d => .ok (.dat d) μ
    | none => .no)
  | .own k, .dat (.int i) => (match μ[k]? with
    | some (.lst ts) => (match atI ts i with
      | some t => .ok t μ
      | none => .no)
    | some (.frz (.lst ds)) => (match atI ds i with
      | some d => .ok (.dat d) μ
      | none => .no)
    | some (.frz (.tup ds)) => (match atI ds i with
      | some d => .ok (.dat d) μ
      | none => .no)
    | _ => .no)
  | _, _ => .no
/-- a bound of a slice -/
structure OsS (c : EN.Ctx) (e : Option Expr) (Γ : List (Option T)) (m : Sh (Option Int)) : Prop where
  run : ∀ μ o μ', m μ = .ok o μ' → ∀ X, Good c X → ∃ t, PO X e t ∧ ∀ φ π σ H, SOk X.K φ π H μ → FOk X.K π (hd φ π μ H) Γ σ → ∀ Q : Option Int → Hp → Prop, (∀ π' H', Nxt X.K φ π H μ π' H' μ' → Q o H') → t σ H Q
instance {c : EN.Ctx} {e : Option Expr} {Γ : List (Option T)} {m : Sh (Option Int)} : CoeFun (OsS c e Γ m) fun _ => ∀ μ o μ', m μ = .ok o μ' → ∀ X, Good c X → ∃ t, PO X e t ∧ ∀ φ π σ H, SOk X.K φ π H μ → FOk X.K π (hd φ π μ H) Γ σ → ∀ Q : Option Int → Hp → Prop, (∀ π' H', Nxt X.K φ π H μ π' H' μ' → Q o H') → t σ H Q := ⟨OsS.run⟩
def bndI (m : Sh T) : Sh (Option Int) := bnd m fun t => match t with
  | .dat (.int i) => ret (some i)
  | _ => stop
def opSl (x : T) (lo hi : Option Int) : Sh T := fun μ => match x with
  | .dat (.str z) => if z.length ≤ sizeLine then .ok (.str (cutS z lo hi)) μ else .no
  | .dat (.tup ds) => .ok (.dat (.tup (cutD ds lo hi))) μ
  | x => match seeL x μ with
    | some ds => .ok (.dat (.lst (cutD ds lo hi))) μ
    | none => .no
def opRev (x : T) : Sh T := fun μ => match x with
  | .dat (.lst ds) => .ok (.dat (.lst ds.reverse)) μ
  | _ => .no
@[simp] theorem datOfs_nil (μ : List M) : datOfs [] μ = some [] := rfl
@[simp] theorem datOfs_dat (d : D) (ts : List T) (μ : List M) : datOfs (.dat d :: ts) μ = (match datOfs ts μ with | some ds => some (d :: ds) | none => none) := by
  show (match some d, datOfs ts μ with | some d, some ds => some (d :: ds) | _, _ => none) = _
  cases datOfs ts μ <;> rfl
theorem datOfs_ok {K : PySem.W.Frag} {φ π : List Addr} {H : Hp} {μ : List M} (s : SOk K φ π H μ) : ∀ {ts : List T} {vs : List V} {ds : List D}, TL K π (hd φ π μ H) ts vs → datOfs ts μ = some ds → DtL K (hd φ π μ H) ds vs
  | [], _, ds, h, e => by cases h; cases e; exact .nil
  | t :: ts, _, ds, h, e => by
    cases h with
    | cons q r =>
      unfold datOfs at e
      split at e
      · rename_i d ds' e1 e2
        cases e
        exact .cons (datOf_ok s q e1) (datOfs_ok s r e2)
      · cases e
section
variable {c : EN.Ctx} {a b e x : Expr} {es : List Expr} {Γ : List (Option T)} {pos p : Pos} {u v : T} {m ma mb mc : Sh T} {mt nt : Sh Bool} {d : D} {n : Sh (List T)} {ts : List T}
theorem EvS.eq {m' : Sh T} (h : EvS c e Γ m) (q : m = m') : EvS c e Γ m' := q ▸ h
theorem sv_nm {i : Nat} {x : Str} (hN : c.N[i]? = some x) (hv : visB c.sc x = true) (hΓ : Γ[i]? = some (some u)) : EvS c (.Name x pos) Γ (ret u) := .mk fun μ t μ' h => by
  cases h; exact ev_nm hN hv hΓ
theorem sv_gc {x : Str} (h : GCst c.toGc x d) (hg : gloB c.sc x = true) : EvS c (.Name x pos) Γ (ret (.dat d)) := .mk fun μ t μ' q => by
  cases q; exact ev_gcst h hg
theorem sv_int {i : Int} {j : Nat} : EvS c (.Constant (.int i) j pos) Γ (ret (.int i)) := .mk fun μ t μ' q => by cases q; exact ev_int
theorem sv_bl {i : Bool} {j : Nat} : EvS c (.Constant (.bool i) j pos) Γ (ret (.bl i)) := .mk fun μ t μ' q => by cases q; exact ev_bl
theorem sv_str {i : Str} {j : Nat} : EvS c (.Constant (.str i) j pos) Γ (ret (.str i)) := .mk fun μ t μ' q => by cases q; exact ev_str
theorem sv_non {j : Nat} : EvS c (.Constant .none j pos) Γ (ret .non) := .mk fun μ t μ' q => by cases q; exact ev_non
theorem sv_bin {op : Operator} {f : T → T → Sh T} (ha : EvS c a Γ ma) (hb : EvS c b Γ mb) (ho : ∀ u v, R2S c (binaryOp op) u v (f u v)) : EvS c (.BinOp a op b pos) Γ (bnd ma fun u => bnd mb fun v => f u v) := .mk fun μ t μ' h => by
  obtain ⟨u, μ1, h1, h⟩ := bnd_inv h
  obtain ⟨v, μ2, h2, h⟩ := bnd_inv h
  exact ev_bin (ha _ _ _ h1) (hb _ _ _ h2) (ho u v _ _ _ h)
theorem sv_binP {op : Operator} (ha : EvS c a Γ (ret u)) (hb : EvS c b Γ (ret v)) (ho : R2S c (binaryOp op) u v m) : EvS c (.BinOp a op b pos) Γ m := .mk fun μ t μ' h =>
  ev_bin (ha μ _ _ rfl) (hb _ _ _ rfl) (ho _ _ _ h)
theorem sv_cmp {op : CmpOp} {f : T → T → Sh T} (ha : EvS c a Γ ma) (hb : EvS c b Γ mb) (ho : ∀ u v, R2S c (compareOp op) u v (f u v)) (hm : behindInMarks op b = false := by rfl) : EvS c (.Compare a [op] [b] pos) Γ (bnd ma fun u => bnd mb fun v => f u v) := .mk fun μ t μ' h => by
  obtain ⟨u, μ1, h1, h⟩ := bnd_inv h
  obtain ⟨v, μ2, h2, h⟩ := bnd_inv h
  exact ev_cmp (ha _ _ _ h1) (hb _ _ _ h2) (ho u v _ _ _ h) hm
theorem sv_cmpP {op : CmpOp} (ha : EvS c a Γ (ret u)) (hb : EvS c b Γ (ret v)) (ho : R2S c (compareOp op) u v m) (hm : behindInMarks op b = false := by rfl) : EvS c (.Compare a [op] [b] pos) Γ m := .mk fun μ t μ' h =>
  ev_cmp (ha μ _ _ rfl) (hb _ _ _ rfl) (ho _ _ _ h) hm
theorem sv_cmpR {op : CmpOp} {f : T → Sh T} (ha : EvS c a Γ ma) (hb : EvS c b Γ (ret v)) (ho : ∀ u, R2S c (compareOp op) u v (f u)) (hm : behindInMarks op b = false := by rfl) : EvS c (.Compare a [op] [b] pos) Γ (bnd ma f) := .mk fun μ t μ' h => by
  obtain ⟨u, μ1, h1, h⟩ := bnd_inv h
  exact ev_cmp (ha _ _ _ h1) (hb _ _ _ rfl) (ho u _ _ _ h) hm
theorem tst_inv {b : Bool} {μ μ' : List M} (h : tst m μ = .ok b μ') : m μ = .ok (.bl b) μ' := by
  obtain ⟨u, μ1, h1, h⟩ := bnd_inv h
  split at h
  · cases h; exact h1
  · cases h
theorem ts_val (h : EvS c e Γ m) (hp : ∀ env whole, isTrue e env whole = (do let v ← whole; standAt e.pos; holding [v] (truthy v)) := by intro _ _; rfl) : TsS c e Γ (tst m) := .mk fun μ t μ' q => tj_val (h _ _ _ (tst_inv q)) hp
theorem ts_cmp {op : CmpOp} {f : T → T → Sh T} (ha : EvS c a Γ ma) (hb : EvS c b Γ mb) (ho : ∀ u v, R2S c (compareOp op) u v (f u v)) (hm : behindInMarks op b = false := by rfl) : TsS c (.Compare a [op] [b] pos) Γ (tst (bnd ma fun u => bnd mb fun v => f u v)) := .mk fun μ t μ' h => by
  obtain ⟨u, μ1, h1, h⟩ := bnd_inv (tst_inv h)
  obtain ⟨v, μ2, h2, h⟩ := bnd_inv h
  exact tj_cmp (ha _ _ _ h1) (hb _ _ _ h2) (ho u v _ _ _ h) hm
theorem ts_cmpP {op : CmpOp} (ha : EvS c a Γ (ret u)) (hb : EvS c b Γ (ret v)) (ho : R2S c (compareOp op) u v m) (hm : behindInMarks op b = false := by rfl) : TsS c (.Compare a [op] [b] pos) Γ (tst m) := .mk fun μ t μ' h =>
  tj_cmp (ha μ _ _ rfl) (hb _ _ _ rfl) (ho _ _ _ (tst_inv h)) hm
theorem ts_cmpR {op : CmpOp} {f : T → Sh T} (ha : EvS c a Γ ma) (hb : EvS c b Γ (ret v)) (ho : ∀ u, R2S c (compareOp op) u v (f u)) (hm : behindInMarks op b = false := by rfl) : TsS c (.Compare a [op] [b] pos) Γ (tst (bnd ma f)) := .mk fun μ t μ' h => by
  obtain ⟨u, μ1, h1, h⟩ := bnd_inv (tst_inv h)
  exact tj_cmp (ha _ _ _ h1) (hb _ _ _ rfl) (ho u _ _ _ h) hm
theorem ts_not (h : TsS c a Γ mt) : TsS c (.UnaryOp .Not a pos) Γ (notB mt) := .mk fun μ t μ' q => by
  obtain ⟨u, μ1, h1, q⟩ := bnd_inv q
  cases q
  exact tj_not (h _ _ _ h1)
/-! chains of two -/
section
variable {μ μ1 μ2 μ3 μ4 μ5 : List M} {t1 t2 t3 t : T}
theorem ev_chain_t {op op' : CmpOp} {cc : Expr} (ha : EvJ c a Γ μ t1 μ1) (hb : EvJ c b Γ μ1 t2 μ2) (ho : R2J c (compareOp op) t1 t2 μ2 (.dat (.bl true)) μ3)
    (hc : EvJ c cc Γ μ3 t3 μ4) (h2 : R2J c (compareOp op') t2 t3 μ4 t μ5) (hm : lastMarks [op, op'] [b, cc] = false := by rfl) :
    EvJ c (.Compare a [op, op'] [b, cc] pos) Γ μ t μ5 := by
  intro X g φ π σ H s0 g0 Q q
  obtain ⟨rr, hr, ok⟩ := ho X g
  obtain ⟨rr2, hr2, ok2⟩ := h2 X g
  refine toE (pe_chain hr hr2 pe_sem pe_sem pe_sem hm) ?_
  refine ha X g φ π σ H s0 g0 _ fun x π1 H1 n1 k1 => ?_
  refine hb X g φ π1 σ H1 n1.ok (g0.nx n1) _ fun y π2 H2 n2 k2 => ?_
  refine ok φ π2 H2 x y n2.ok (k1.nx n2) k2 _ fun v π3 H3 n3 k3 => ?_
  cases k3
  refine ⟨_, rfl, ?_⟩
  rw [if_pos rfl]
  refine hc X g φ π3 σ H3 n3.ok (((g0.nx n1).nx n2).nx n3) _ fun z π4 H4 n4 k4 => ?_
  exact ok2 φ π4 H4 y z n4.ok ((k2.nx n3).nx n4) k4 _ fun v π5 H5 n5 k5 => q v π5 H5 ((((n1.trans n2).trans n3).trans n4).trans n5) k5
theorem ev_chain_f {op op' : CmpOp} {cc : Expr} (ha : EvJ c a Γ μ t1 μ1) (hb : EvJ c b Γ μ1 t2 μ2) (ho : R2J c (compareOp op) t1 t2 μ2 (.dat (.bl false)) μ3)
    {f2 : ∀ X, EN.Good c X → ∃ rr2, OpR X (compareOp op') rr2} (hm : lastMarks [op, op'] [b, cc] = false := by rfl) :
    EvJ c (.Compare a [op, op'] [b, cc] pos) Γ μ (.bl false) μ3 := by
  intro X g φ π σ H s0 g0 Q q
  obtain ⟨rr, hr, ok⟩ := ho X g
  obtain ⟨rr2, hr2⟩ := f2 X g
  refine toE (pe_chain hr hr2 pe_sem pe_sem pe_sem hm) ?_
  refine ha X g φ π σ H s0 g0 _ fun x π1 H1 n1 k1 => ?_
  refine hb X g φ π1 σ H1 n1.ok (g0.nx n1) _ fun y π2 H2 n2 k2 => ?_
  refine ok φ π2 H2 x y n2.ok (k1.nx n2) k2 _ fun v π3 H3 n3 k3 => ?_
  cases k3
  refine ⟨_, rfl, ?_⟩
  rw [if_neg Bool.false_ne_true]
  exact q _ π3 H3 ((n1.trans n2).trans n3) (.bl false)
theorem tj_chain_t {op op' : CmpOp} {cc : Expr} {r : Bool} (ha : EvJ c a Γ μ t1 μ1) (hb : EvJ c b Γ μ1 t2 μ2) (ho : R2J c (compareOp op) t1 t2 μ2 (.dat (.bl true)) μ3)
    (hc : EvJ c cc Γ μ3 t3 μ4) (h2 : R2J c (compareOp op') t2 t3 μ4 (.bl r) μ5) (hm : lastMarks [op, op'] [b, cc] = false := by rfl) :
    TJ c (.Compare a [op, op'] [b, cc] pos) Γ μ r μ5 := by
  intro X g φ π σ H s0 g0 Q q
  obtain ⟨rr, hr, ok⟩ := ho X g
  obtain ⟨rr2, hr2, ok2⟩ := h2 X g
  refine toT (pt_chain hr hr2 pe_sem pe_sem pe_sem hm) ?_
  refine ha X g φ π σ H s0 g0 _ fun x π1 H1 n1 k1 => ?_
  refine hb X g φ π1 σ H1 n1.ok (g0.nx n1) _ fun y π2 H2 n2 k2 => ?_
  refine ok φ π2 H2 x y n2.ok (k1.nx n2) k2 _ fun v π3 H3 n3 k3 => ?_
  cases k3
  refine ⟨_, rfl, ?_⟩
  rw [if_pos rfl]
  refine hc X g φ π3 σ H3 n3.ok (((g0.nx n1).nx n2).nx n3) _ fun z π4 H4 n4 k4 => ?_
  refine ok2 φ π4 H4 y z n4.ok ((k2.nx n3).nx n4) k4 _ fun v π5 H5 n5 k5 => ?_
  cases k5
  exact ⟨_, rfl, q π5 H5 ((((n1.trans n2).trans n3).trans n4).trans n5)⟩
theorem tj_chain_f {op op' : CmpOp} {cc : Expr} (ha : EvJ c a Γ μ t1 μ1) (hb : EvJ c b Γ μ1 t2 μ2) (ho : R2J c (compareOp op) t1 t2 μ2 (.dat (.bl false)) μ3)
    {f2 : ∀ X, EN.Good c X → ∃ rr2, OpR X (compareOp op') rr2} (hm : lastMarks [op, op'] [b, cc] = false := by rfl) :
    TJ c (.Compare a [op, op'] [b, cc] pos) Γ μ false μ3 := by
  intro X g φ π σ H s0 g0 Q q
  obtain ⟨rr, hr, ok⟩ := ho X g
  obtain ⟨rr2, hr2⟩ := f2 X g
  refine toT (pt_chain hr hr2 pe_sem pe_sem pe_sem hm) ?_
  refine ha X g φ π σ H s0 g0 _ fun x π1 H1 n1 k1 => ?_
  refine hb X g φ π1 σ H1 n1.ok (g0.nx n1) _ fun y π2 H2 n2 k2 => ?_
  refine ok φ π2 H2 x y n2.ok (k1.nx n2) k2 _ fun v π3 H3 n3 k3 => ?_
  cases k3
  refine ⟨_, rfl, ?_⟩
  rw [if_neg Bool.false_ne_true]
  exact ⟨_, rfl, q π3 H3 ((n1.trans n2).trans n3)⟩
theorem opr_of {F : Value → Value → Sem Value} {f : T → T → Sh T} {i j : T} {w : T} (h : ∀ u v, R2S c F u v (f u v)) (q : f i j [] = .ok w []) (X : Cx) (g : EN.Good c X) : ∃ rr2, OpR X F rr2 := by
  obtain ⟨r, hr, _⟩ := h i j _ _ _ q X g
  exact ⟨r, hr⟩
end
def chB (ma mb : Sh T) (f : T → T → Sh T) (mc : Sh T) (g : T → T → Sh T) : Sh T := bnd ma fun u => bnd mb fun v => bnd (f u v) fun r => match r with
  | .dat (.bl true) => bnd mc fun w => g v w
  | .dat (.bl false) => ret (.bl false)
  | _ => stop
theorem sv_chain {op op' : CmpOp} {cc : Expr} {f g : T → T → Sh T} {mc : Sh T} (ha : EvS c a Γ ma) (hb : EvS c b Γ mb) (ho : ∀ u v, R2S c (compareOp op) u v (f u v)) (hc : EvS c cc Γ mc) (h2 : ∀ u v, R2S c (compareOp op') u v (g u v))
    (f2 : ∃ w, g (.int 0) (.int 0) [] = .ok w [] := by exact ⟨_, rfl⟩) (hm : lastMarks [op, op'] [b, cc] = false := by rfl) : EvS c (.Compare a [op, op'] [b, cc] pos) Γ (chB ma mb f mc g) := .mk fun μ t μ' h => by
  obtain ⟨u, μ1, h1, h⟩ := bnd_inv h
  obtain ⟨v, μ2, q2, h⟩ := bnd_inv h
  obtain ⟨r, μ3, q3, h⟩ := bnd_inv h
  split at h
  · obtain ⟨w, μ4, q4, h⟩ := bnd_inv h
    exact ev_chain_t (ha _ _ _ h1) (hb _ _ _ q2) (ho _ _ _ _ _ q3) (hc _ _ _ q4) (h2 _ _ _ _ _ h) hm
  · cases h
    obtain ⟨w, f2⟩ := f2
    exact ev_chain_f (f2 := opr_of h2 f2) (ha _ _ _ h1) (hb _ _ _ q2) (ho _ _ _ _ _ q3) hm
  · cases h
theorem ts_chain {op op' : CmpOp} {cc : Expr} {f g : T → T → Sh T} {mc : Sh T} (ha : EvS c a Γ ma) (hb : EvS c b Γ mb) (ho : ∀ u v, R2S c (compareOp op) u v (f u v)) (hc : EvS c cc Γ mc) (h2 : ∀ u v, R2S c (compareOp op') u v (g u v))
    (f2 : ∃ w, g (.int 0) (.int 0) [] = .ok w [] := by exact ⟨_, rfl⟩) (hm : lastMarks [op, op'] [b, cc] = false := by rfl) : TsS c (.Compare a [op, op'] [b, cc] pos) Γ (tst (chB ma mb f mc g)) := .mk fun μ t μ' h => by
  obtain ⟨u, μ1, h1, h⟩ := bnd_inv (tst_inv h)
  obtain ⟨v, μ2, q2, h⟩ := bnd_inv h
  obtain ⟨r, μ3, q3, h⟩ := bnd_inv h
  split at h
  · obtain ⟨w, μ4, q4, h⟩ := bnd_inv h
    exact tj_chain_t (ha _ _ _ h1) (hb _ _ _ q2) (ho _ _ _ _ _ q3) (hc _ _ _ q4) (h2 _ _ _ _ _ h) hm
  · cases h
    obtain ⟨w, f2⟩ := f2
    exact tj_chain_f (f2 := opr_of h2 f2) (ha _ _ _ h1) (hb _ _ _ q2) (ho _ _ _ _ _ q3) hm
  · cases h
/-! and, or -/
theorem wj_andT {μ μ1 μ2 : List M} {r' : Bool} {rest : List Expr} (h : TJ c a Γ μ true μ1) (h' : WJ c (.BoolOp .And (b :: rest) pos) Γ μ1 r' μ2) : WJ c (.BoolOp .And (a :: b :: rest) pos) Γ μ r' μ2 := fun X g => by
  refine ⟨_, pw_and pt_sem pw_any, fun φ π σ H s0 g0 Q q => ?_⟩
  refine h X g φ π σ H s0 g0 _ fun π1 H1 n1 => ?_
  rw [if_pos rfl]
  obtain ⟨t, hw, ok⟩ := h' X g
  exact fun whole pins s I => hw.run whole pins s σ H1 Q I (ok φ π1 σ H1 n1.ok (g0.nx n1) Q fun π2 H2 n2 => q π2 H2 (n1.trans n2))
theorem wj_orF {μ μ1 μ2 : List M} {r' : Bool} {rest : List Expr} (h : TJ c a Γ μ false μ1) (h' : WJ c (.BoolOp .Or (b :: rest) pos) Γ μ1 r' μ2) : WJ c (.BoolOp .Or (a :: b :: rest) pos) Γ μ r' μ2 := fun X g => by
  refine ⟨_, pw_or pt_sem pw_any, fun φ π σ H s0 g0 Q q => ?_⟩
  refine h X g φ π σ H s0 g0 _ fun π1 H1 n1 => ?_
  rw [if_neg Bool.false_ne_true]
  obtain ⟨t, hw, ok⟩ := h' X g
  exact fun whole pins s I => hw.run whole pins s σ H1 Q I (ok φ π1 σ H1 n1.ok (g0.nx n1) Q fun π2 H2 n2 => q π2 H2 (n1.trans n2))
theorem ws_ts (h : WsS c e Γ mt) : TsS c e Γ mt := .mk fun μ t μ' q => (h _ _ _ q).tj
theorem ws_and1 (h : TsS c a Γ mt) : WsS c (.BoolOp .And [a] pos) Γ mt := .mk fun μ t μ' q => wj_and1 (h _ _ _ q)
theorem ws_or1 (h : TsS c a Γ mt) : WsS c (.BoolOp .Or [a] pos) Γ mt := .mk fun μ t μ' q => wj_or1 (h _ _ _ q)
theorem ws_and {rest : List Expr} (h : TsS c a Γ mt) (h' : WsS c (.BoolOp .And (b :: rest) pos) Γ nt) : WsS c (.BoolOp .And (a :: b :: rest) pos) Γ (andB mt nt) := .mk fun μ t μ' q => by
  obtain ⟨u, μ1, h1, q⟩ := bnd_inv q
  cases u with
  | true => exact wj_andT (h _ _ _ h1) (h' _ _ _ q)
  | false => cases q; exact wj_and_f (h _ _ _ h1)
theorem ws_or {rest : List Expr} (h : TsS c a Γ mt) (h' : WsS c (.BoolOp .Or (b :: rest) pos) Γ nt) : WsS c (.BoolOp .Or (a :: b :: rest) pos) Γ (orB mt nt) := .mk fun μ t μ' q => by
  obtain ⟨u, μ1, h1, q⟩ := bnd_inv q
  cases u with
  | false => exact wj_orF (h _ _ _ h1) (h' _ _ _ q)
  | true => cases q; exact wj_or_t (h _ _ _ h1)
theorem ev_andT {μ μ1 μ2 : List M} {t : T} {rest : List Expr} (h : EvJ c a Γ μ (.bl true) μ1) (h' : EvJ c (.BoolOp .And (b :: rest) pos) Γ μ1 t μ2) : EvJ c (.BoolOp .And (a :: b :: rest) pos) Γ μ t μ2 := by
  intro X g φ π σ H s0 g0 Q q
  refine toE (pe_and pe_sem pe_sem) ?_
  refine h X g φ π σ H s0 g0 _ fun v π1 H1 n1 k1 => ?_
  cases k1
  refine ⟨_, rfl, ?_⟩
  rw [if_pos rfl]
  exact h' X g φ π1 σ H1 n1.ok (g0.nx n1) Q fun v π2 H2 n2 k2 => q v π2 H2 (n1.trans n2) k2
theorem ev_orF {μ μ1 μ2 : List M} {t : T} {rest : List Expr} (h : EvJ c a Γ μ (.bl false) μ1) (h' : EvJ c (.BoolOp .Or (b :: rest) pos) Γ μ1 t μ2) : EvJ c (.BoolOp .Or (a :: b :: rest) pos) Γ μ t μ2 := by
  intro X g φ π σ H s0 g0 Q q
  refine toE (pe_or pe_sem pe_sem) ?_
  refine h X g φ π σ H s0 g0 _ fun v π1 H1 n1 k1 => ?_
  cases k1
  refine ⟨_, rfl, ?_⟩
  rw [if_neg Bool.false_ne_true]
  exact h' X g φ π1 σ H1 n1.ok (g0.nx n1) Q fun v π2 H2 n2 k2 => q v π2 H2 (n1.trans n2) k2
theorem sv_bool1 {op : BoolOp} (h : EvS c a Γ m) : EvS c (.BoolOp op [a] pos) Γ m := .mk fun μ t μ' q => ev_bool1 (h _ _ _ q)
theorem sv_and {rest : List Expr} (h : EvS c a Γ ma) (h' : EvS c (.BoolOp .And (b :: rest) pos) Γ mb) : EvS c (.BoolOp .And (a :: b :: rest) pos) Γ (andV ma mb) := .mk fun μ t μ' q => by
  obtain ⟨u, μ1, h1, q⟩ := bnd_inv q
  split at q
  · exact ev_andT (h _ _ _ h1) (h' _ _ _ q)
  · cases q; exact ev_and_f (h _ _ _ h1)
  · cases q
theorem sv_or {rest : List Expr} (h : EvS c a Γ ma) (h' : EvS c (.BoolOp .Or (b :: rest) pos) Γ mb) : EvS c (.BoolOp .Or (a :: b :: rest) pos) Γ (orV ma mb) := .mk fun μ t μ' q => by
  obtain ⟨u, μ1, h1, q⟩ := bnd_inv q
  split at q
  · cases q; exact ev_or_t (h _ _ _ h1)
  · exact ev_orF (h _ _ _ h1) (h' _ _ _ q)
  · cases q
theorem sv_not (h : EvS c a Γ m) : EvS c (.UnaryOp .Not a pos) Γ (notV m) := .mk fun μ t μ' q => by
  obtain ⟨u, μ1, h1, q⟩ := bnd_inv q
  split at q
  · cases q; exact ev_not (h _ _ _ h1)
  · cases q
theorem sv_neg (h : EvS c a Γ m) : EvS c (.UnaryOp .USub a pos) Γ (negV m) := .mk fun μ t μ' q => by
  obtain ⟨u, μ1, h1, q⟩ := bnd_inv q
  split at q
  · cases q; exact ev_neg (h _ _ _ h1)
  · cases q
theorem sv_negC {i : Int} {j : Nat} : EvS c (.UnaryOp .USub (.Constant (.int i) j p) pos) Γ (ret (.int (-i))) := .mk fun μ t μ' q => by
  cases q; exact ev_neg ev_int
theorem sv_if {x : Expr} (h : TsS c x Γ mt) (h1 : EvS c a Γ ma) (h2 : EvS c b Γ mb) : EvS c (.IfExp x a b pos) Γ (iff mt ma mb) := .mk fun μ t μ' q => by
  obtain ⟨u, μ1, q1, q⟩ := bnd_inv q
  cases u with
  | true => exact ev_if_t (h _ _ _ q1) (h1 _ _ _ q)
  | false => exact ev_if_f (h _ _ _ q1) (h2 _ _ _ q)
/-! arguments -/
theorem sa_nil : AsS c [] Γ (ret []) := .mk fun μ t μ' q => by cases q; exact aj_nil
theorem sa_consP (h : EvS c e Γ (ret u)) (h' : AsS c es Γ (ret ts)) (hs : isStar e = false := by rfl) : AsS c (e :: es) Γ (ret (u :: ts)) := .mk fun μ t μ' q => by
  cases q; exact aj_cons (h _ _ _ rfl) (h' _ _ _ rfl) hs
theorem sa_cons (h : EvS c e Γ m) (h' : AsS c es Γ n) (hs : isStar e = false := by rfl) : AsS c (e :: es) Γ (bnd m fun u => bnd n fun ts => ret (u :: ts)) := .mk fun μ t μ' q => by
  obtain ⟨u, μ1, h1, q⟩ := bnd_inv q
  obtain ⟨us, μ2, h2, q⟩ := bnd_inv q
  cases q
  exact aj_cons (h _ _ _ h1) (h' _ _ _ h2) hs
/-! displays -/
theorem ev_tupS {μ μ1 : List M} {x1 : Nat} {ts : List T} {ds : List D} (h : AJ c es Γ μ ts μ1) (hd' : datOfs ts μ1 = some ds) (hl : Nat.ble ds.length 1000000 = true) : EvJ c (.Tuple es x1 pos) Γ μ (.dat (.tup ds)) μ1 := by
  intro X g φ π σ H s0 g0 Q q
  refine toE (pe_tup pa_sem) ?_
  refine h X g φ π σ H s0 g0 _ fun vs π1 H1 n1 k1 => ?_
  have k2 := datOfs_ok n1.ok k1 hd'
  have hl' : vs.length ≤ sizeLine := by
    rw [← k2.len]; exact Nat.le_trans (Nat.le_of_ble_eq_true hl) (by decide)
  refine ⟨hl', fun p np => ?_⟩
  obtain ⟨n2, at2⟩ := n1.ok.newData (o := .tup vs) np
  exact q _ π1 _ (n1.trans n2) (.tup (SqT.of at2) (DtL.mono n2.le k2))
theorem ev_lstS {μ μ1 : List M} {ts : List T} {ds : List D} (h : AJ c es Γ μ ts μ1) (hd' : datOfs ts μ1 = some ds) (hl : Nat.ble ds.length 1000000 = true) : EvJ c (.List es pos) Γ μ (.dat (.lst ds)) μ1 := by
  intro X g φ π σ H s0 g0 Q q
  refine toE (pe_lst pa_sem) ?_
  refine h X g φ π σ H s0 g0 _ fun vs π1 H1 n1 k1 => ?_
  have k2 := datOfs_ok n1.ok k1 hd'
  have hl' : vs.length ≤ sizeLine := by
    rw [← k2.len]; exact Nat.le_trans (Nat.le_of_ble_eq_true hl) (by decide)
  refine ⟨hl', fun p np => ?_⟩
  obtain ⟨n2, at2⟩ := n1.ok.newData (o := .lst vs) np
  exact q _ π1 _ (n1.trans n2) (.lst (SqL.of at2) (DtL.mono n2.le k2))
theorem sv_tup {x1 : Nat} (h : AsS c es Γ n) : EvS c (.Tuple es x1 pos) Γ (bnd n mkTup) := .mk fun μ t μ' q => by
  obtain ⟨u, μ1, h1, q⟩ := bnd_inv q
  unfold mkTup at q
  split at q
  · rename_i ds e
    split at q
    · cases q; exact ev_tupS (h _ _ _ h1) e (by assumption)
    · cases q
  · cases q
theorem sv_tupP {x1 : Nat} (h : AsS c es Γ (ret ts)) : EvS c (.Tuple es x1 pos) Γ (mkTup ts) := sv_tup h
theorem sv_lst (h : AsS c es Γ n) : EvS c (.List es pos) Γ (bnd n mkLst) := .mk fun μ t μ' q => by
  obtain ⟨u, μ1, h1, q⟩ := bnd_inv q
  unfold mkLst at q
  split at q
  · rename_i ds e
    split at q
    · cases q; exact ev_lstS (h _ _ _ h1) e (by assumption)
    · cases q
  · cases q
theorem sv_lstP (h : AsS c es Γ (ret ts)) : EvS c (.List es pos) Γ (mkLst ts) := sv_lst h
theorem sv_lstO (h : AsS c es Γ n) : EvS c (.List es pos) Γ (bnd n newLst) := .mk fun μ t μ' q => by
  obtain ⟨u, μ1, h1, q⟩ := bnd_inv q
  unfold newLst at q
  split at q
  · cases q; exact ev_lstO (h _ _ _ h1) (by assumption)
  · cases q
theorem sv_lstOP (h : AsS c es Γ (ret ts)) : EvS c (.List es pos) Γ (newLst ts) := sv_lstO h
/-! subscripts -/
theorem ix_ok : I2S c u v (opIx u v) := fun μ t μ' h => by
  unfold opIx at h
  split at h
  · split at h
    · split at h
      · cases h; exact x_str (by assumption) (by assumption)
      · cases h
    · cases h
  · split at h
    · cases h; exact x_tup (by assumption)
    · cases h
  · split at h
    · cases h; exact x_lst (by assumption)
    · cases h
  · split at h
    · split at h
      · cases h; exact x_own (by assumption) (by assumption)
      · cases h
    · rename_i q
      split at h
      · rename_i q2
        cases h
        exact fun X gX => ⟨_, ix_list, fun φ π H v w s0 h1 h2 Q qq => by
          cases h2
          obtain ⟨p, hp, rfl⟩ := h1
          have := (s0.obj _ p _ hp q).2
          cases this with
          | lst s l =>
            obtain ⟨y, e, k⟩ := atI_dt l q2
            exact ⟨_, _, _, _, rfl, rfl, (hd_le _ _ _ _ : Ex _ _).sqL s, e, qq _ π H (Nxt.refl s0) k⟩⟩
      · cases h
    · rename_i q
      split at h
      · rename_i q2
        cases h
        exact fun X gX => ⟨_, ix_tup, fun φ π H v w s0 h1 h2 Q qq => by
          cases h2
          obtain ⟨p, hp, rfl⟩ := h1
          have := (s0.obj _ p _ hp q).2
          cases this with
          | tup s l =>
            obtain ⟨y, e, k⟩ := atI_dt l q2
            exact ⟨_, _, _, _, rfl, rfl, (hd_le _ _ _ _ : Ex _ _).sqT s, e, qq _ π H (Nxt.refl s0) k⟩⟩
      · cases h
    · cases h
  · cases h
theorem sv_ix {f : T → T → Sh T} (ha : EvS c a Γ ma) (hb : EvS c b Γ mb) (ho : ∀ u v, I2S c u v (f u v)) (hp : PlainIx b := by intro _ _; rfl) : EvS c (.Subscript a b pos) Γ (bnd ma fun u => bnd mb fun v => f u v) := .mk fun μ t μ' h => by
  obtain ⟨u, μ1, h1, h⟩ := bnd_inv h
  obtain ⟨v, μ2, h2, h⟩ := bnd_inv h
  exact ev_ix (ha _ _ _ h1) (hb _ _ _ h2) (ho _ _ _ _ _ h) hp
theorem sv_ixP (ha : EvS c a Γ (ret u)) (hb : EvS c b Γ (ret v)) (ho : I2S c u v m) (hp : PlainIx b := by intro _ _; rfl) : EvS c (.Subscript a b pos) Γ m := .mk fun μ t μ' h => ev_ix (ha _ _ _ rfl) (hb _ _ _ rfl) (ho _ _ _ h) hp
/-! slices -/
theorem os_none : OsS c none Γ (ret none) := .mk fun μ o μ' q => by
  cases q
  exact oj_none
theorem os_some (h : EvS c e Γ m) : OsS c (some e) Γ (bndI m) := .mk fun μ o μ' q => by
  obtain ⟨u, μ1, h1, q⟩ := bnd_inv q
  split at q
  · cases q
    exact fun X g => ⟨_, po_some pe_sem, fun φ π σ H s0 g0 Q q => h _ _ _ h1 X g φ π σ H s0 g0 _ fun v π1 H1 n1 k1 => by
      cases k1
      exact ⟨_, rfl, q π1 H1 n1⟩⟩
  · cases q
theorem sl_ok {lo hi : Option Int} : S3S c u lo hi (opSl u lo hi) := fun μ t μ' h => by
  unfold opSl at h
  split at h
  · split at h
    · cases h; exact s_str (by assumption)
    · cases h
  · cases h; exact s_tup
  · split at h
    · rename_i q1
      cases h
      exact fun X gX => ⟨_, sl_list, fun φ π H v s0 h1 Q q => by
        obtain ⟨a1, vs1, rfl, s1, l1⟩ := seeL_ok s0 h1 q1
        refine ⟨_, _, rfl, s1, fun p np => ?_⟩
        obtain ⟨n1, at1⟩ := s0.newData np
        exact q _ π _ n1 (.lst (SqL.of at1) (DtL.mono n1.le (cut_dt l1 lo hi)))⟩
    · cases h
theorem sv_slice {lo hi : Option Expr} {ml mh : Sh (Option Int)} {p2 : Pos} (ha : EvS c a Γ ma) (h1 : OsS c lo Γ ml) (h2 : OsS c hi Γ mh) : EvS c (.Subscript a (.Slice lo hi none p2) pos) Γ (bnd ma fun u => bnd ml fun l => bnd mh fun h => opSl u l h) := .mk fun μ t μ' q => by
  obtain ⟨u, μ1, q1, q⟩ := bnd_inv q
  obtain ⟨l, μ2, q2, q⟩ := bnd_inv q
  obtain ⟨h, μ3, q3, q⟩ := bnd_inv q
  intro X g φ π σ H s0 g0 Q qq
  obtain ⟨r, hr, ok⟩ := sl_ok _ _ _ q X g
  obtain ⟨tl, hl, okl⟩ := h1 _ _ _ q2 X g
  obtain ⟨th, hh, okh⟩ := h2 _ _ _ q3 X g
  refine toE (pe_slice hr pe_sem hl hh) ?_
  refine ha _ _ _ q1 X g φ π σ H s0 g0 _ fun x π1 H1 n1 k1 => ?_
  refine okl φ π1 σ H1 n1.ok (g0.nx n1) _ fun π2 H2 n2 => ?_
  refine okh φ π2 σ H2 n2.ok ((g0.nx n1).nx n2) _ fun π3 H3 n3 => ?_
  exact ok φ π3 H3 x n3.ok ((k1.nx n2).nx n3) _ fun v π4 H4 n4 k4 => qq v π4 H4 (((n1.trans n2).trans n3).trans n4) k4
theorem sv_rev {kk : Nat} {p1 p2 p3 : Pos} (h : EvS c e Γ m) : EvS c (.Subscript e (.Slice none none (some (.UnaryOp .USub (.Constant (.int 1) kk p1) p2)) p3) pos) Γ (bnd m opRev) := .mk fun μ t μ' q => by
  obtain ⟨u, μ1, q1, q⟩ := bnd_inv q
  unfold opRev at q
  split at q
  · cases q; exact ev_revL (h _ _ _ q1)
  · cases q
end
end EN
/-! Calls in the shallow form. -/
namespace EN
open PySem PySem.Spec PyProof.Rows L2

/-! ### what the top leaves -/
def eqOB (a b : Option Bool) : Bool := match a, b with
  | some x, some y => x == y
  | _, _ => false
theorem eqOB_ok {a : Option Bool} {b : Bool} (h : eqOB a (some b) = true) : a = some b := by
  cases a with
  | none => cases h
  | some x => rw [eq_of_beq (show (x == b) = true from h)]
/-- a class, for isinstance -/
def insB (K : PySem.W.Frag) (x : Str) : Bool := He.eqO (PySem.W.findIn K (.ref (He.ga K x)) "__class__") (some (some (.builtin "object.__class__"))) && (He.eqO (PySem.W.specialIn K (.builtin "object.__class__") "__get__") (some (some (.builtin "getset_descriptor.__get__"))) && (eqOB (PySem.W.takesIn K (.builtin "object.__class__")) (some true) && eqOB (PySem.W.mroIn K (He.ga K x) (.type "object")) (some true)))
structure Tab where
  fa : List He.Fa
  /-- the defs, each with its parameters -/
  fn : List (He.DefD × List Str)
  /-- instances of the first class, asked for the second -/
  isi : List (Str × Str × Bool)
  /-- the classes of instances that are asked for -/
  isk : List Str
structure TabOk (G : Gc) (tb : Tab) : Prop where
  in_ : ∃ h, G.K.In h ∧ h.Ns mainGlobals G.mg
  fa : ∀ f ∈ tb.fa, f.ok G.K = true
  isi : ∀ e ∈ tb.isi, eqOB (PySem.W.kitOne G.K (.ref (He.ga G.K e.1)) (.ref (He.ga G.K e.2.1))) (some e.2.2) = true
  isk : ∀ x ∈ tb.isk, insB G.K x = true
  bn : ∀ (i : Nat) (d : He.DefD) (ps : List Str), tb.fn[i]? = some (d, ps) → DefBinds G d ps []
def Tab.free (tb : Tab) (x : Str) : Bool := tb.fa.any fun f => match f with
  | .free y => y == x
  | _ => false
def Tab.glo (tb : Tab) (x : Str) : Bool := tb.fa.any fun f => match f with
  | .glo y => y == x
  | _ => false
def Tab.cls (tb : Tab) (x : Str) : Bool := tb.fa.any fun f => match f with
  | .cls y => y == x
  | _ => false
def Tab.noat (tb : Tab) (x g : Str) : Bool := tb.fa.any fun f => match f with
  | .noat y h => y == x && h == g
  | _ => false
def Tab.meth (tb : Tab) (x g : Str) : Bool := tb.fa.any fun f => match f with
  | .meth y h => y == x && h == g
  | _ => false
def Tab.mkr (tb : Tab) (x : Str) : Bool := tb.fa.any fun f => match f with
  | .mkr y => y == x
  | _ => false
def Tab.fld (tb : Tab) (C f : Str) : Bool := tb.cls C && tb.noat C f
/-- the number of a class's method -/
def Tab.mid (tb : Tab) (C m : Str) : Option Nat := if tb.cls C && tb.meth C m then tb.fn.findIdx? fun d => d.1.at_ == (C, some m) else none
section
variable {G : Gc} {tb : Tab} (E : TabOk G tb)
include E
theorem TabOk.free {x : Str} (h : tb.free x = true) : G.mg x = none := by
  obtain ⟨f, hf, q⟩ := List.any_eq_true.mp h
  obtain ⟨hh, i, n⟩ := E.in_
  split at q
  · rw [← eq_of_beq q]; exact He.free_ok i n (E.fa _ hf)
  · cases q
theorem TabOk.glo {x : Str} (h : tb.glo x = true) : G.mg x = some (.ref (He.ga G.K x)) := by
  obtain ⟨f, hf, q⟩ := List.any_eq_true.mp h
  obtain ⟨hh, i, n⟩ := E.in_
  split at q
  · rw [← eq_of_beq q]; exact He.glo_ok i n (E.fa _ hf)
  · cases q
theorem TabOk.cls {x : Str} (h : tb.cls x = true) : ClsG G x := by
  obtain ⟨f, hf, q⟩ := List.any_eq_true.mp h
  split at q
  · rw [← eq_of_beq q]; exact He.cls_ok (E.fa _ hf)
  · cases q
theorem TabOk.noat {x g : Str} (h : tb.noat x g = true) : NoAt G x g := by
  obtain ⟨f, hf, q⟩ := List.any_eq_true.mp h
  split at q
  · simp only [Bool.and_eq_true] at q
    rw [← eq_of_beq q.1, ← eq_of_beq q.2]; exact He.noat_ok (E.fa _ hf)
  · cases q
theorem TabOk.meth {x g : Str} (h : tb.meth x g = true) : MethG G x g := by
  obtain ⟨f, hf, q⟩ := List.any_eq_true.mp h
  split at q
  · simp only [Bool.and_eq_true] at q
    rw [← eq_of_beq q.1, ← eq_of_beq q.2]; exact He.meth_ok (E.fa _ hf)
  · cases q
theorem TabOk.mkr {x : Str} (h : tb.mkr x = true) : MkG G x := by
  obtain ⟨f, hf, q⟩ := List.any_eq_true.mp h
  split at q
  · rw [← eq_of_beq q]; exact He.mkr_ok (E.fa _ hf)
  · cases q
theorem TabOk.mid {C m : Str} {i : Nat} (h : tb.mid C m = some i) : ClsG G C ∧ MethG G C m ∧ ∃ d ps, tb.fn[i]? = some (d, ps) ∧ d.at_ = (C, some m) := by
  unfold Tab.mid at h
  split at h
  · rename_i q
    simp only [Bool.and_eq_true] at q
    obtain ⟨hi, h2⟩ := List.findIdx?_eq_some_iff_getElem.mp h
    exact ⟨E.cls q.1, E.meth q.2, _, _, List.getElem?_eq_getElem hi, eq_of_beq h2.1⟩
  · cases h
end
/-- the oracle: the def of a number, called -/
abbrev Orc := Nat → List T → Sh T


/-- what may be called at level k -/
def OrcOk (G : Gc) (k : Nat) (tb : Tab) (call : Orc) : Prop := ∀ (i : Nat) (d : He.DefD) (ps : List Str), tb.fn[i]? = some (d, ps) → ∀ (ts : List T) (dts : List D), DefBinds G d ps dts → ∀ μ t μ', call i (ts ++ dats dts) μ = .ok t μ' → CallJ G k d.at_ ts dts μ t μ'

/-! ### fields -/
def opFld (tb : Tab) (f : Str) (x : T) : Sh T := fun μ => match x with
  | .dat (.ins C fs) => if tb.fld C f then (match fs.lookup f with
    | some d => .ok (.dat d) μ
    | none => .no) else .no
  | .own i => (match μ[i]? with
    | some (.ins C gs) => if tb.fld C f then (match gs.lookup f with
      | some t => .ok t μ
      | none => .no) else .no
    | some (.frz (.ins C fs)) => if tb.fld C f then (match fs.lookup f with
      | some d => .ok (.dat d) μ
      | none => .no) else .no
    | _ => .no)
  | _ => .no
/-- the method of a thing: its number -/
def opM (tb : Tab) (m : Str) (x : T) : Sh Nat := fun μ => match x with
  | .dat (.ins C fs) => (match tb.mid C m, fs.lookup m with
    | some i, none => .ok i μ
    | _, _ => .no)
  | .own k => (match μ[k]? with
    | some (.ins C gs) => (match tb.mid C m, gs.lookup m with
      | some i, none => .ok i μ
      | _, _ => .no)
    | some (.frz (.ins C fs)) => (match tb.mid C m, fs.lookup m with
      | some i, none => .ok i μ
      | _, _ => .no)
    | _ => .no)
  | _ => .no
section
variable {c : EN.Ctx} {a b e o x : Expr} {es : List Expr} {Γ : List (Option T)} {pos p : Pos} {u v : T} {m ma mb mc mo : Sh T} {mt nt : Sh Bool} {d : D} {n : Sh (List T)} {ts us : List T} {tb : Tab} {call : Orc} {k : Nat} {C f nm : Str}
theorem fld_ok (E : TabOk c.toGc tb) {μ μ1 μ' : List M} {t : T} (ho : EvJ c o Γ μ u μ1) (h : opFld tb f u μ1 = .ok t μ') (hb : isSuper o = false := by rfl) : EvJ c (.Attribute o f pos) Γ μ t μ' := by
  unfold opFld at h
  split at h
  · split at h
    · rename_i q
      simp only [Tab.fld, Bool.and_eq_true] at q
      split at h
      · cases h; exact ev_fld ho (by assumption) (E.cls q.1) (E.noat q.2) hb
      · cases h
    · cases h
  · split at h
    · split at h
      · rename_i q
        simp only [Tab.fld, Bool.and_eq_true] at q
        split at h
        · cases h; exact ev_fldO ho (by assumption) (by assumption) (E.cls q.1) (E.noat q.2) hb
        · cases h
      · cases h
    · split at h
      · rename_i q
        simp only [Tab.fld, Bool.and_eq_true] at q
        split at h
        · cases h; exact ev_fld (ho.was (by assumption)) (by assumption) (E.cls q.1) (E.noat q.2) hb
        · cases h
      · cases h
    · cases h
  · cases h
theorem sv_fld (E : TabOk c.toGc tb) (ho : EvS c o Γ mo) (hb : isSuper o = false := by rfl) : EvS c (.Attribute o f pos) Γ (bnd mo (opFld tb f)) := .mk fun μ t μ' h => by
  obtain ⟨u, μ1, h1, h⟩ := bnd_inv h
  exact fld_ok E (ho _ _ _ h1) h hb
theorem sv_fldP (E : TabOk c.toGc tb) (ho : EvS c o Γ (ret u)) (hb : isSuper o = false := by rfl) : EvS c (.Attribute o f pos) Γ (opFld tb f u) := sv_fld E ho hb

/-! ### calls of own defs -/
theorem sv_call {i : Nat} {d : He.DefD} {ps : List Str} {dts : List D} {x : Str} (E : TabOk c.toGc tb) (O : OrcOk c.toGc k tb call) (hk : Nat.ble k c.k = true) (ha : AsS c (e :: es) Γ n) (hi : tb.fn[i]? = some (d, ps)) (hat : d.at_ = (x, none)) (hb : DefBinds c.toGc d ps dts) (hg : gloB c.sc x = true) (hm : tb.glo x = true)
    (hs : (e :: es).all (fun e => !isStar e) = true := by rfl) (hdb : (x == ("__debug__" : Str)) = false := by decide) : EvS c (.Call (.Name x p) (e :: es) [] pos) Γ (bnd n fun ts => call i (ts ++ dats dts)) := .mk fun μ t μ' h => by
  obtain ⟨us, μ1, h1, h⟩ := bnd_inv h
  have := O i d ps hi us dts hb _ _ _ h
  rw [hat] at this
  exact ev_call (ha _ _ _ h1) this (Nat.le_of_ble_eq_true hk) (gloB_ok hg).1 (E.glo hm) hs hdb
theorem sv_callN {i : Nat} {d : He.DefD} {ps : List Str} {x : Str} (E : TabOk c.toGc tb) (O : OrcOk c.toGc k tb call) (hk : Nat.ble k c.k = true) (ha : AsS c (e :: es) Γ n) (hi : tb.fn[i]? = some (d, ps)) (hat : d.at_ = (x, none)) (hb : DefBinds c.toGc d ps []) (hg : gloB c.sc x = true) (hm : tb.glo x = true)
    (hs : (e :: es).all (fun e => !isStar e) = true := by rfl) (hdb : (x == ("__debug__" : Str)) = false := by decide) : EvS c (.Call (.Name x p) (e :: es) [] pos) Γ (bnd n (call i)) := by
  have := sv_call (p := p) (pos := pos) E O hk ha hi hat hb hg hm hs hdb
  simpa [dats] using this
theorem sv_callP {i : Nat} {d : He.DefD} {ps : List Str} {dts : List D} {x : Str} (E : TabOk c.toGc tb) (O : OrcOk c.toGc k tb call) (hk : Nat.ble k c.k = true) (ha : AsS c (e :: es) Γ (ret ts)) (hi : tb.fn[i]? = some (d, ps)) (hat : d.at_ = (x, none)) (hb : DefBinds c.toGc d ps dts) (hg : gloB c.sc x = true) (hm : tb.glo x = true) (hu : ts ++ dats dts = us := by rfl)
    (hs : (e :: es).all (fun e => !isStar e) = true := by rfl) (hdb : (x == ("__debug__" : Str)) = false := by decide) : EvS c (.Call (.Name x p) (e :: es) [] pos) Γ (call i us) := by
  subst hu
  exact sv_call (p := p) (pos := pos) E O hk ha hi hat hb hg hm hs hdb
theorem sv_call0 {i : Nat} {d : He.DefD} {ps : List Str} {dts : List D} {x : Str} (E : TabOk c.toGc tb) (O : OrcOk c.toGc k tb call) (hk : Nat.ble k c.k = true) (hi : tb.fn[i]? = some (d, ps)) (hat : d.at_ = (x, none)) (hb : DefBinds c.toGc d ps dts) (hg : gloB c.sc x = true) (hm : tb.glo x = true) (hu : dats dts = us := by rfl)
    (hdb : (x == ("__debug__" : Str)) = false := by decide) : EvS c (.Call (.Name x p) [] [] pos) Γ (call i us) := .mk fun μ t μ' h => by
  subst hu
  have := O i d ps hi [] dts hb _ _ _ (by simpa using h)
  rw [hat] at this
  exact ev_call0 this (Nat.le_of_ble_eq_true hk) (gloB_ok hg).1 (E.glo hm) hdb
/-! ### methods -/
def IsIns (u : T) (μ : List M) (C m : Str) : Prop := (∃ fs, u = .dat (.ins C fs) ∧ fs.lookup m = none) ∨ (∃ i gs, u = .own i ∧ μ[i]? = some (.ins C gs) ∧ gs.lookup m = none) ∨ ∃ i fs, u = .own i ∧ μ[i]? = some (.frz (.ins C fs)) ∧ fs.lookup m = none
theorem IsIns.get {K : PySem.W.Frag} {φ π : List Addr} {H : Hp} {μ : List M} {v : V} {m : Str} (h : IsIns u μ C m) (s : SOk K φ π H μ) (k : TOk K π (hd φ π μ H) u v) : ∃ a dx vs, v = .ref a ∧ H a = some (.ins (He.ga K C) dx vs) ∧ vs.lookup m = none := by
  rcases h with ⟨fs, rfl, hl⟩ | ⟨i, gs, rfl, hi, hl⟩ | ⟨i, fs, rfl, hi, hl⟩
  · cases k with
    | ins hh l => exact ⟨_, _, _, rfl, hd_le _ _ _ _ _ _ hh, l.look0 hl⟩
  · obtain ⟨p, hp, rfl⟩ := k
    obtain ⟨dx, vs, hv, hts⟩ := s.obj i p _ hp hi
    exact ⟨p, dx, vs, rfl, hv, hts.look0 hl⟩
  · obtain ⟨p, hp, rfl⟩ := k
    have := (s.obj i p _ hp hi).2
    cases this with
    | ins hh l => exact ⟨_, _, _, rfl, hd_le _ _ _ _ _ _ hh, l.look0 hl⟩
theorem ev_methT {μ μ1 μ2 μ3 : List M} {t : T} {m : Str} {dts : List D} {apos : Pos} {pl : Env → Sem Bool} (ho : EvJ c o Γ μ u μ1) (hl : IsIns u μ1 C m) (ha : AJ c (e :: es) Γ μ1 ts μ2) (h : CallJ c.toGc k (C, some m) (u :: ts) dts μ2 t μ3) (hk : k ≤ c.k) (hc : ClsG c.toGc C) (hm : MethG c.toGc C m)
    (hs : (e :: es).all (fun e => !isStar e) = true := by rfl)
    (ht : ∀ env, eval (.Call (.Attribute o m apos) (e :: es) [] pos) env = (do
      let ov ← eval o env
      standAt apos.atName
      let (f, first) ← holding [ov] (getMethod ov m (pl env))
      callWith pos f first (backTo pos (starEach (e :: es) env)) (backToKw pos (keywordEach [] env))) := by intro _; rfl) :
    EvJ c (.Call (.Attribute o m apos) (e :: es) [] pos) Γ μ t μ3 := by
  intro X g φ π σ H s0 g0 Q q
  obtain ⟨fd, ps, dvs, ds, h1, h2, h3, h4, h5⟩ := h
  have hs' := hs
  simp only [List.all_cons, Bool.and_eq_true, Bool.not_eq_true'] at hs'
  have F : FnOk X.prog X.w X.K X.mg X.base (L2.CX X.prog X.w) k (He.fAd X.K (C, some m)) fd ps (spJ X.K ((u :: ts) ++ dats dts) μ2 t μ3) := by rw [g.prog, g.w, g.K, g.mg, g.base]; exact h5
  refine toE (pe_meth (C := He.ga X.K C) pe_sem (by rw [g.K]; exact hc) (by rw [g.K]; exact hm) F (g.room.mono hk) (by rw [g.K]; exact h3) h2 passL pa_sem (star_cons hs'.1 _) (no_star hs'.2 _ _) (ht X.env)) ?_
  refine ho X g φ π σ H s0 g0 _ fun v π1 H1 n1 k1 => ?_
  obtain ⟨a, dx, vs, rfl, ea, el⟩ := hl.get n1.ok k1
  refine ⟨a, dx, vs, rfl, ea, el, ?_⟩
  refine ha X g φ π1 σ H1 n1.ok (g0.nx n1) _ fun vs π2 H2 n2 k2 => ?_
  exact ⟨φ, π2, n2.ok, .cons (k1.nx n2) (k2.append (DtL.tl (by rw [g.K]; exact h4 _))), fun v π3 H3 n3 k3 => q v π3 H3 ((n1.trans n2).trans n3) k3⟩
theorem ev_methT0 {μ μ1 μ3 : List M} {t : T} {m : Str} {dts : List D} {apos : Pos} {pl : Env → Sem Bool} (ho : EvJ c o Γ μ u μ1) (hl : IsIns u μ1 C m) (h : CallJ c.toGc k (C, some m) [u] dts μ1 t μ3) (hk : k ≤ c.k) (hc : ClsG c.toGc C) (hm : MethG c.toGc C m)
    (ht : ∀ env, eval (.Call (.Attribute o m apos) [] [] pos) env = (do
      let ov ← eval o env
      standAt apos.atName
      let (f, first) ← holding [ov] (getMethod ov m (pl env))
      callWith pos f first (backTo pos (starEach [] env)) (backToKw pos (keywordEach [] env))) := by intro _; rfl) :
    EvJ c (.Call (.Attribute o m apos) [] [] pos) Γ μ t μ3 := by
  intro X g φ π σ H s0 g0 Q q
  obtain ⟨fd, ps, dvs, ds, h1, h2, h3, h4, h5⟩ := h
  have F : FnOk X.prog X.w X.K X.mg X.base (L2.CX X.prog X.w) k (He.fAd X.K (C, some m)) fd ps (spJ X.K ([u] ++ dats dts) μ1 t μ3) := by rw [g.prog, g.w, g.K, g.mg, g.base]; exact h5
  refine toE (pe_meth0 (C := He.ga X.K C) pe_sem (by rw [g.K]; exact hc) (by rw [g.K]; exact hm) F (g.room.mono hk) (by rw [g.K]; exact h3) h2 passL (ht X.env)) ?_
  refine ho X g φ π σ H s0 g0 _ fun v π1 H1 n1 k1 => ?_
  obtain ⟨a, dx, vs, rfl, ea, el⟩ := hl.get n1.ok k1
  exact ⟨a, dx, vs, rfl, ea, el, φ, π1, n1.ok, .cons k1 (DtL.tl (by rw [g.K]; exact h4 _)), fun v π3 H3 n3 k3 => q v π3 H3 (n1.trans n3) k3⟩
theorem opM_inv {μ μ' : List M} {i : Nat} {m : Str} (h : opM tb m u μ = .ok i μ') : μ' = μ ∧ ∃ C, tb.mid C m = some i ∧ IsIns u μ C m := by
  unfold opM at h
  split at h
  · split at h
    · cases h; exact ⟨rfl, _, by assumption, .inl ⟨_, rfl, by assumption⟩⟩
    · cases h
  · split at h
    · split at h
      · cases h; exact ⟨rfl, _, by assumption, .inr (.inl ⟨_, _, rfl, by assumption, by assumption⟩)⟩
      · cases h
    · split at h
      · cases h; exact ⟨rfl, _, by assumption, .inr (.inr ⟨_, _, rfl, by assumption, by assumption⟩)⟩
      · cases h
    · cases h
  · cases h
theorem sv_meth {mm : Str} {apos : Pos} (E : TabOk c.toGc tb) (O : OrcOk c.toGc k tb call) (hk : Nat.ble k c.k = true) (ho : EvS c o Γ mo) (ha : AsS c (e :: es) Γ n) (hs : (e :: es).all (fun e => !isStar e) = true := by rfl) (pl : Env → Sem Bool)
    (ht : ∀ env, eval (.Call (.Attribute o mm apos) (e :: es) [] pos) env = (do
      let ov ← eval o env
      standAt apos.atName
      let (f, first) ← holding [ov] (getMethod ov mm (pl env))
      callWith pos f first (backTo pos (starEach (e :: es) env)) (backToKw pos (keywordEach [] env))) := by intro _; rfl) :
    EvS c (.Call (.Attribute o mm apos) (e :: es) [] pos) Γ (bnd mo fun u => bnd (opM tb mm u) fun i => bnd n fun ts => call i (u :: ts)) := .mk fun μ t μ' h => by
  obtain ⟨u, μ1, h1, z⟩ := bnd_inv h
  clear h
  obtain ⟨i, μ2, h2, y⟩ := bnd_inv z
  clear z
  obtain ⟨e2, C, q1, q2⟩ := opM_inv h2
  clear h2
  subst e2
  obtain ⟨us, μ3, h3, h⟩ := bnd_inv y
  obtain ⟨hc, hm, d, ps, hi, hat⟩ := E.mid q1
  have := O i d ps hi (u :: us) [] (E.bn i d ps hi) _ _ _ (by simpa [dats] using h)
  rw [hat] at this
  exact ev_methT (ho _ _ _ h1) q2 (ha _ _ _ h3) this (Nat.le_of_ble_eq_true hk) hc hm hs ht
theorem sv_methP {mm : Str} {apos : Pos} (E : TabOk c.toGc tb) (O : OrcOk c.toGc k tb call) (hk : Nat.ble k c.k = true) (ho : EvS c o Γ (ret u)) (ha : AsS c (e :: es) Γ (ret ts)) (hs : (e :: es).all (fun e => !isStar e) = true := by rfl) (pl : Env → Sem Bool)
    (ht : ∀ env, eval (.Call (.Attribute o mm apos) (e :: es) [] pos) env = (do
      let ov ← eval o env
      standAt apos.atName
      let (f, first) ← holding [ov] (getMethod ov mm (pl env))
      callWith pos f first (backTo pos (starEach (e :: es) env)) (backToKw pos (keywordEach [] env))) := by intro _; rfl) :
    EvS c (.Call (.Attribute o mm apos) (e :: es) [] pos) Γ (bnd (opM tb mm u) fun i => call i (u :: ts)) := sv_meth E O hk ho ha hs pl ht
theorem sv_meth0 {mm : Str} {apos : Pos} (E : TabOk c.toGc tb) (O : OrcOk c.toGc k tb call) (hk : Nat.ble k c.k = true) (ho : EvS c o Γ mo) (pl : Env → Sem Bool)
    (ht : ∀ env, eval (.Call (.Attribute o mm apos) [] [] pos) env = (do
      let ov ← eval o env
      standAt apos.atName
      let (f, first) ← holding [ov] (getMethod ov mm (pl env))
      callWith pos f first (backTo pos (starEach [] env)) (backToKw pos (keywordEach [] env))) := by intro _; rfl) :
    EvS c (.Call (.Attribute o mm apos) [] [] pos) Γ (bnd mo fun u => bnd (opM tb mm u) fun i => call i [u]) := .mk fun μ t μ' h => by
  obtain ⟨u, μ1, h1, z⟩ := bnd_inv h
  clear h
  obtain ⟨i, μ2, h2, h⟩ := bnd_inv z
  clear z
  obtain ⟨e2, C, q1, q2⟩ := opM_inv h2
  clear h2
  subst e2
  obtain ⟨hc, hm, d, ps, hi, hat⟩ := E.mid q1
  have := O i d ps hi [u] [] (E.bn i d ps hi) _ _ _ (by simpa [dats] using h)
  rw [hat] at this
  exact ev_methT0 (ho _ _ _ h1) q2 this (Nat.le_of_ble_eq_true hk) hc hm ht
theorem sv_meth0P {mm : Str} {apos : Pos} (E : TabOk c.toGc tb) (O : OrcOk c.toGc k tb call) (hk : Nat.ble k c.k = true) (ho : EvS c o Γ (ret u)) (pl : Env → Sem Bool)
    (ht : ∀ env, eval (.Call (.Attribute o mm apos) [] [] pos) env = (do
      let ov ← eval o env
      standAt apos.atName
      let (f, first) ← holding [ov] (getMethod ov mm (pl env))
      callWith pos f first (backTo pos (starEach [] env)) (backToKw pos (keywordEach [] env))) := by intro _; rfl) :
    EvS c (.Call (.Attribute o mm apos) [] [] pos) Γ (bnd (opM tb mm u) fun i => call i [u]) := sv_meth0 E O hk ho pl ht

/-! ### what is made -/
def undatF : List (Str × T) → Option (List (Str × D))
  | [] => some []
  | (k, .dat d) :: ts => (undatF ts).map ((k, d) :: ·)
  | _ :: _ => none
theorem undatF_some : ∀ {ts : List (Str × T)} {ds : List (Str × D)}, undatF ts = some ds → ts = datF ds
  | [], ds, h => by cases h; rfl
  | (k, .dat d) :: ts, ds, h => by
    simp only [undatF] at h
    cases e : undatF ts with
    | none => rw [e] at h; cases h
    | some es => rw [e] at h; cases h; rw [undatF_some e]; rfl
  | (_, .own _) :: _, _, h => by cases h
  | (_, .vls _ _) :: _, _, h => by cases h
open Classical in
/-- an instance that is data at once -/
noncomputable def mkD (call : Orc) (i : Nat) (C : Str) (us : List T) : Sh T := fun μ => match call i (.own μ.length :: us) (μ ++ [.ins C []]) with
  | .ok (.dat .non) μ2 => (match μ2.drop μ.length with
    | [.ins C' gs] => if C' = C ∧ μ2.take μ.length = μ then (match undatF gs with
      | some fs => .ok (.dat (.ins C fs)) μ
      | none => .no) else .no
    | _ => .no)
  | _ => .no
/-- an instance of one's own -/
def mkO (call : Orc) (i : Nat) (C : Str) (us : List T) : Sh T := fun μ => match call i (.own μ.length :: us) (μ ++ [.ins C []]) with
  | .ok (.dat .non) μ2 => .ok (.own μ.length) μ2
  | _ => .no
theorem sv_mkO {i : Nat} {d : He.DefD} {ps : List Str} {dts : List D} (E : TabOk c.toGc tb) (O : OrcOk c.toGc k tb call) (hk : Nat.ble (k + 1) c.k = true) (ha : AsS c (e :: es) Γ n) (hi : tb.fn[i]? = some (d, ps)) (hat : d.at_ = (C, some ("__init__" : Str))) (hb : DefBinds c.toGc d ps dts) (hg : gloB c.sc C = true) (hm : tb.glo C = true) (hM : tb.mkr C = true)
    (hs : (e :: es).all (fun e => !isStar e) = true := by rfl) (hdb : (C == ("__debug__" : Str)) = false := by decide) : EvS c (.Call (.Name C p) (e :: es) [] pos) Γ (bnd n fun ts => mkO call i C (ts ++ dats dts)) := .mk fun μ t μ' h => by
  obtain ⟨us, μ1, h1, h⟩ := bnd_inv h
  unfold mkO at h
  split at h
  · rename_i μ2 q
    cases h
    have := O i d ps hi (.own μ1.length :: us) dts hb _ _ _ q
    rw [hat] at this
    exact ev_make (ha _ _ _ h1) this (Nat.le_of_ble_eq_true hk) (gloB_ok hg).1 (E.glo hm) (E.mkr hM) hs hdb
  · cases h
theorem Pst.made {K : PySem.W.Frag} {φ π1 : List Addr} {H1 : Hp} {μ1 : List M} {fs : List (Str × D)} {Q : VK} (s1 : SOk K φ π1 H1 μ1) (q : Pst K φ π1 H1 μ1 (.dat (.ins C fs)) μ1 Q) : Pst K φ π1 H1 μ1 (.own μ1.length) (μ1 ++ [.ins C (datF fs)]) Q := fun v π2 H2 n2 k2 => by
  obtain ⟨p, hp, rfl⟩ := k2
  have hi : (μ1 ++ [M.ins C (datF fs)])[μ1.length]? = some (.ins C (datF fs)) := by simp
  obtain ⟨dx, vs, hv, hts⟩ := n2.ok.obj _ p _ hp hi
  have n3 := n2.ok.freeze (d := .ins C fs) hp hi rfl fun Hd' h1 h2 => .ins (h1 _ hv) (DtF.mono h2 hts.dtF)
  have e : (μ1 ++ [M.ins C (datF fs)]).set μ1.length (.frz (.ins C fs)) = μ1 ++ [.frz (.ins C fs)] := by simp
  rw [e] at n3
  refine Pst.drop (μ2 := [.frz (.ins C fs)]) s1 q trivial (fun _ => s1.inb) (Nat.le_refl _) _ π2 H2 (n2.trans n3) ?_
  exact (n3.ok.obj μ1.length p (.frz (.ins C fs)) hp (by simp)).2
theorem ev_makeD {μ μ1 : List M} {dts : List D} {fs : List (Str × D)} {p : Pos} (ha : AJ c (e :: es) Γ μ ts μ1) (h : CallJ c.toGc k (C, some "__init__") (.own μ1.length :: ts) dts (μ1 ++ [.ins C []]) (.dat .non) (μ1 ++ [.ins C (datF fs)])) (hk : k + 1 ≤ c.k) (hg : c.sc.names.lookup C = some .globalImplicit) (hm : c.mg C = some (.ref (He.ga c.K C))) (hM : MkG c.toGc C)
    (hs : (e :: es).all (fun e => !isStar e) = true := by rfl) (hdb : (C == ("__debug__" : Str)) = false := by decide) : EvJ c (.Call (.Name C p) (e :: es) [] pos) Γ μ (.dat (.ins C fs)) μ1 := by
  intro X g φ π σ H s0 g0 Q q
  obtain ⟨fd, ps, dvs, ds, h1, h2, h3, h4, h5⟩ := h
  have hs' := hs
  simp only [List.all_cons, Bool.and_eq_true, Bool.not_eq_true'] at hs'
  have F : FnOk X.prog X.w X.K X.mg X.base (L2.CX X.prog X.w) k (He.fAd X.K (C, some "__init__")) fd ps (spJ X.K ((.own μ1.length :: ts) ++ dats dts) (μ1 ++ [.ins C []]) (.dat .non) (μ1 ++ [.ins C (datF fs)])) := by rw [g.prog, g.w, g.K, g.mg, g.base]; exact h5
  refine toE (pe_make (C := He.ga X.K C) (by rw [g.K]; exact hM) F (g.room.mono hk) (show X.env.scope.names.lookup C = _ by rw [g.sc]; exact hg) (by rw [g.mg, g.K]; exact hm) (by rw [g.K]; exact h3) h2 passL pa_sem hdb (star_cons hs'.1 _) (no_star hs'.2 _ _)) ?_
  refine ha X g φ π σ H s0 g0 _ fun vs π1 H1 n1 k1 => ?_
  intro x dx hx hdx hne
  have nA := (n1.ok.newData (p := dx) (o := .own x) hdx).1
  have nB := nA.ok.newOwn (p := x) (o := .ins (He.ga X.K C) dx []) (m := .ins C []) (by rw [upd_ne (Ne.symm hne)]; exact hx) rfl ⟨dx, [], upd_same, .nil⟩
  have hx1 : (π1 ++ [x])[μ1.length]? = some x := by rw [← n1.ok.len]; simp
  refine ⟨φ, π1 ++ [x], nB.ok, .cons ⟨x, hx1, rfl⟩ ((k1.nx (nA.trans nB)).append (DtL.tl (by rw [g.K]; exact h4 _))), fun v π2 H2 n2 k2 => ?_⟩
  cases k2
  refine ⟨rfl, Pst.made n1.ok (fun v π3 H3 n3 k3 => q v π3 H3 (n1.trans n3) k3) _ π2 H2 (nA.trans (nB.trans n2)) ⟨x, ?_, rfl⟩⟩
  obtain ⟨p2, rfl⟩ := n2.ext
  rw [List.getElem?_append_left (List.getElem?_eq_some_iff.mp hx1).1]; exact hx1
theorem ev_makeD0 {μ1 : List M} {dts : List D} {fs : List (Str × D)} {p : Pos} (h : CallJ c.toGc k (C, some "__init__") [.own μ1.length] dts (μ1 ++ [.ins C []]) (.dat .non) (μ1 ++ [.ins C (datF fs)])) (hk : k + 1 ≤ c.k) (hg : c.sc.names.lookup C = some .globalImplicit) (hm : c.mg C = some (.ref (He.ga c.K C))) (hM : MkG c.toGc C)
    (hdb : (C == ("__debug__" : Str)) = false := by decide) : EvJ c (.Call (.Name C p) [] [] pos) Γ μ1 (.dat (.ins C fs)) μ1 := by
  intro X g φ π σ H s0 g0 Q q
  obtain ⟨fd, ps, dvs, ds, h1, h2, h3, h4, h5⟩ := h
  have F : FnOk X.prog X.w X.K X.mg X.base (L2.CX X.prog X.w) k (He.fAd X.K (C, some "__init__")) fd ps (spJ X.K ([.own μ1.length] ++ dats dts) (μ1 ++ [.ins C []]) (.dat .non) (μ1 ++ [.ins C (datF fs)])) := by rw [g.prog, g.w, g.K, g.mg, g.base]; exact h5
  refine toE (pe_make0 (C := He.ga X.K C) (by rw [g.K]; exact hM) F (g.room.mono hk) (show X.env.scope.names.lookup C = _ by rw [g.sc]; exact hg) (by rw [g.mg, g.K]; exact hm) (by rw [g.K]; exact h3) h2 passL hdb) ?_
  intro x dx hx hdx hne
  have nA := (s0.newData (p := dx) (o := .own x) hdx).1
  have nB := nA.ok.newOwn (p := x) (o := .ins (He.ga X.K C) dx []) (m := .ins C []) (by rw [upd_ne (Ne.symm hne)]; exact hx) rfl ⟨dx, [], upd_same, .nil⟩
  have hx1 : (π ++ [x])[μ1.length]? = some x := by rw [← s0.len]; simp
  refine ⟨φ, π ++ [x], nB.ok, .cons ⟨x, hx1, rfl⟩ (DtL.tl (by rw [g.K]; exact h4 _)), fun v π2 H2 n2 k2 => ?_⟩
  cases k2
  refine ⟨rfl, Pst.made s0 (fun v π3 H3 n3 k3 => q v π3 H3 n3 k3) _ π2 H2 (nA.trans (nB.trans n2)) ⟨x, ?_, rfl⟩⟩
  obtain ⟨p2, rfl⟩ := n2.ext
  rw [List.getElem?_append_left (List.getElem?_eq_some_iff.mp hx1).1]; exact hx1
theorem mkD_inv {i : Nat} {us : List T} {μ μ' : List M} {t : T} (h : mkD call i C us μ = .ok t μ') : μ' = μ ∧ ∃ fs, t = .dat (.ins C fs) ∧ call i (.own μ.length :: us) (μ ++ [.ins C []]) = .ok (.dat .non) (μ ++ [.ins C (datF fs)]) := by
  unfold mkD at h
  split at h
  · rename_i μ2 q
    split at h
    · rename_i C' gs q2
      split at h
      · rename_i q3
        split at h
        · rename_i fs q4
          cases h
          obtain ⟨rfl, q3⟩ := q3
          refine ⟨rfl, fs, rfl, ?_⟩
          rw [q, ← List.take_append_drop μ.length μ2, q3, q2, undatF_some q4]
        · cases h
      · cases h
    · cases h
  · cases h
theorem sv_mkD {i : Nat} {d : He.DefD} {ps : List Str} {dts : List D} (E : TabOk c.toGc tb) (O : OrcOk c.toGc k tb call) (hk : Nat.ble (k + 1) c.k = true) (ha : AsS c (e :: es) Γ n) (hi : tb.fn[i]? = some (d, ps)) (hat : d.at_ = (C, some ("__init__" : Str))) (hb : DefBinds c.toGc d ps dts) (hg : gloB c.sc C = true) (hm : tb.glo C = true) (hM : tb.mkr C = true)
    (hs : (e :: es).all (fun e => !isStar e) = true := by rfl) (hdb : (C == ("__debug__" : Str)) = false := by decide) : EvS c (.Call (.Name C p) (e :: es) [] pos) Γ (bnd n fun ts => mkD call i C (ts ++ dats dts)) := .mk fun μ t μ' h => by
  obtain ⟨us, μ1, h1, z⟩ := bnd_inv h
  clear h
  obtain ⟨e2, fs, rfl, q⟩ := mkD_inv z
  clear z
  subst e2
  have := O i d ps hi (.own μ'.length :: us) dts hb _ _ _ q
  rw [hat] at this
  exact ev_makeD (ha _ _ _ h1) this (Nat.le_of_ble_eq_true hk) (gloB_ok hg).1 (E.glo hm) (E.mkr hM) hs hdb
theorem sv_mkDP {i : Nat} {d : He.DefD} {ps : List Str} {dts : List D} (E : TabOk c.toGc tb) (O : OrcOk c.toGc k tb call) (hk : Nat.ble (k + 1) c.k = true) (ha : AsS c (e :: es) Γ (ret ts)) (hi : tb.fn[i]? = some (d, ps)) (hat : d.at_ = (C, some ("__init__" : Str))) (hb : DefBinds c.toGc d ps dts) (hg : gloB c.sc C = true) (hm : tb.glo C = true) (hM : tb.mkr C = true) (hu : ts ++ dats dts = us := by rfl)
    (hs : (e :: es).all (fun e => !isStar e) = true := by rfl) (hdb : (C == ("__debug__" : Str)) = false := by decide) : EvS c (.Call (.Name C p) (e :: es) [] pos) Γ (mkD call i C us) := by
  subst hu
  exact sv_mkD (p := p) (pos := pos) E O hk ha hi hat hb hg hm hM hs hdb
theorem sv_mkDN {i : Nat} {d : He.DefD} {ps : List Str} (E : TabOk c.toGc tb) (O : OrcOk c.toGc k tb call) (hk : Nat.ble (k + 1) c.k = true) (ha : AsS c (e :: es) Γ n) (hi : tb.fn[i]? = some (d, ps)) (hat : d.at_ = (C, some ("__init__" : Str))) (hb : DefBinds c.toGc d ps []) (hg : gloB c.sc C = true) (hm : tb.glo C = true) (hM : tb.mkr C = true)
    (hs : (e :: es).all (fun e => !isStar e) = true := by rfl) (hdb : (C == ("__debug__" : Str)) = false := by decide) : EvS c (.Call (.Name C p) (e :: es) [] pos) Γ (bnd n (mkD call i C)) := by
  have := sv_mkD (p := p) (pos := pos) E O hk ha hi hat hb hg hm hM hs hdb
  simpa [dats] using this
theorem sv_mkD0 {i : Nat} {d : He.DefD} {ps : List Str} {dts : List D} (E : TabOk c.toGc tb) (O : OrcOk c.toGc k tb call) (hk : Nat.ble (k + 1) c.k = true) (hi : tb.fn[i]? = some (d, ps)) (hat : d.at_ = (C, some ("__init__" : Str))) (hb : DefBinds c.toGc d ps dts) (hg : gloB c.sc C = true) (hm : tb.glo C = true) (hM : tb.mkr C = true) (hu : dats dts = us := by rfl)
    (hdb : (C == ("__debug__" : Str)) = false := by decide) : EvS c (.Call (.Name C p) [] [] pos) Γ (mkD call i C us) := .mk fun μ t μ' h => by
  subst hu
  obtain ⟨e2, fs, rfl, q⟩ := mkD_inv h
  subst e2
  have := O i d ps hi [_] dts hb _ _ _ q
  rw [hat] at this
  exact ev_makeD0 this (Nat.le_of_ble_eq_true hk) (gloB_ok hg).1 (E.glo hm) (E.mkr hM) hdb
end
end EN
/-! What is built in; what is walked; comprehensions. -/
namespace EN
open PySem PySem.Spec PyProof.Rows L2

def seeS (t : T) (μ : List M) : Option (List D) := match t with
  | .dat (.tup ds) => some ds
  | .own i => (match μ[i]? with
    | some (.frz (.tup ds)) => some ds
    | some (.lst ts) => undat ts
    | some (.frz (.lst ds)) => some ds
    | _ => none)
  | t => seeL t μ
@[simp] theorem seeS_lst (ds : List D) (μ : List M) : seeS (.dat (.lst ds)) μ = some ds := rfl
@[simp] theorem seeS_tup (ds : List D) (μ : List M) : seeS (.dat (.tup ds)) μ = some ds := rfl
theorem seeS_ok {K : PySem.W.Frag} {φ π : List Addr} {H : Hp} {μ : List M} {t : T} {v : V} {ds : List D} (s : SOk K φ π H μ) (h : TOk K π (hd φ π μ H) t v) (e : seeS t μ = some ds) :
    ∃ a vs, v = .ref a ∧ (SqL K H a vs ∨ SqT K H a vs) ∧ DtL K (hd φ π μ H) ds vs := by
  unfold seeS at e
  split at e
  · cases e
    cases h with
    | tup s l => exact ⟨_, _, rfl, .inr ((hd_le _ _ _ _ : Ex _ _).sqT s), l⟩
  · rename_i i
    split at e
    · rename_i q
      cases e
      obtain ⟨p, hp, rfl⟩ := h
      have := (s.obj i p _ hp q).2
      cases this with
      | tup s l => exact ⟨_, _, rfl, .inr ((hd_le _ _ _ _ : Ex _ _).sqT s), l⟩
    · rename_i ts q
      obtain ⟨a, vs, e1, e2, e3⟩ := seeL_ok (ds := ds) s h (by rw [seeL_own q]; exact e)
      exact ⟨a, vs, e1, .inl e2, e3⟩
    · rename_i q
      cases e
      obtain ⟨p, hp, rfl⟩ := h
      have := (s.obj i p _ hp q).2
      cases this with
      | lst s l => exact ⟨_, _, rfl, .inl ((hd_le _ _ _ _ : Ex _ _).sqL s), l⟩
    · cases e
  · obtain ⟨a, vs, e1, e2, e3⟩ := seeL_ok s h e
    exact ⟨a, vs, e1, .inl e2, e3⟩
def boolsOf : List D → Option (List Bool)
  | [] => some []
  | .bl b :: ds => (boolsOf ds).map (b :: ·)
  | _ :: _ => none
theorem boolsOf_some : ∀ {ds : List D} {bs : List Bool}, boolsOf ds = some bs → ds = bs.map D.bl
  | [], _, h => by cases h; rfl
  | d :: ds, bs, h => by
    cases d <;> simp only [boolsOf] at h <;> first | (cases h; done) | skip
    cases e : boolsOf ds with
    | none => rw [e] at h; cases h
    | some es => rw [e] at h; cases h; rw [boolsOf_some e]; rfl
@[simp] theorem boolsOf_map : ∀ bs : List Bool, boolsOf (bs.map D.bl) = some bs
  | [] => rfl
  | b :: bs => by simp only [List.map_cons, boolsOf, boolsOf_map bs]; rfl
def intsOf : List D → Option (List Int)
  | [] => some []
  | .int b :: ds => (intsOf ds).map (b :: ·)
  | _ :: _ => none
theorem intsOf_some : ∀ {ds : List D} {bs : List Int}, intsOf ds = some bs → ds = bs.map D.int
  | [], _, h => by cases h; rfl
  | d :: ds, bs, h => by
    cases d <;> simp only [intsOf] at h <;> first | (cases h; done) | skip
    cases e : intsOf ds with
    | none => rw [e] at h; cases h
    | some es => rw [e] at h; cases h; rw [intsOf_some e]; rfl
@[simp] theorem intsOf_map : ∀ bs : List Int, intsOf (bs.map D.int) = some bs
  | [] => rfl
  | b :: bs => by simp only [List.map_cons, intsOf, intsOf_map bs]; rfl
def strsOf : List D → Option (List Str)
  | [] => some []
  | .str b :: ds => (strsOf ds).map (b :: ·)
  | _ :: _ => none
theorem strsOf_some : ∀ {ds : List D} {bs : List Str}, strsOf ds = some bs → ds = bs.map D.str
  | [], _, h => by cases h; rfl
  | d :: ds, bs, h => by
    cases d <;> simp only [strsOf] at h <;> first | (cases h; done) | skip
    cases e : strsOf ds with
    | none => rw [e] at h; cases h
    | some es => rw [e] at h; cases h; rw [strsOf_some e]; rfl
@[simp] theorem strsOf_map : ∀ bs : List Str, strsOf (bs.map D.str) = some bs
  | [] => rfl
  | b :: bs => by simp only [List.map_cons, strsOf, strsOf_map bs]; rfl

def fLen (ts : List T) : Sh T := fun μ => match ts with
  | [.dat (.str z)] => if z.length ≤ sizeLine then .ok (.int z.length) μ else .no
  | [x] => (match seeS x μ with
    | some ds => .ok (.int ds.length) μ
    | none => (match x with
      | .own i => (match μ[i]? with
        | some (.lst ts) => .ok (.int ts.length) μ
        | some (.dic kvs) => .ok (.int kvs.length) μ
        | some (.frz (.dic kvs)) => .ok (.int kvs.length) μ
        | _ => .no)
      | .dat (.dic kvs) => .ok (.int kvs.length) μ
      | _ => .no))
  | _ => .no
def fAll : List T → Sh T
  | [x] => fun μ => match (seeL x μ).bind boolsOf with
    | some bs => .ok (.bl (bs.all id)) μ
    | none => .no
  | _ => stop
def fAny : List T → Sh T
  | [x] => fun μ => match (seeL x μ).bind boolsOf with
    | some bs => .ok (.bl (bs.any id)) μ
    | none => .no
  | _ => stop
def fSum : List T → Sh T
  | [x] => fun μ => match (seeL x μ).bind intsOf with
    | some bs => .ok (.int bs.sum) μ
    | none => .no
  | _ => stop
def maxL : List Int → Int
  | [] => 0
  | [i] => i
  | i :: is => if maxL is > i then maxL is else i
def minL : List Int → Int
  | [] => 0
  | [i] => i
  | i :: is => if minL is < i then minL is else i
theorem maxL_ok : ∀ {ns : List Int}, 0 < ns.length → maxL ns ∈ ns ∧ ∀ y ∈ ns, y ≤ maxL ns
  | [], h => by simp at h
  | [i], _ => by simp [maxL]
  | i :: j :: is, _ => by
    obtain ⟨h1, h2⟩ := maxL_ok (ns := j :: is) (by simp)
    unfold maxL
    split
    · refine ⟨List.mem_cons_of_mem _ h1, fun y hy => ?_⟩
      rcases List.mem_cons.mp hy with rfl | hy
      · omega
      · exact h2 y hy
    · refine ⟨by simp, fun y hy => ?_⟩
      rcases List.mem_cons.mp hy with rfl | hy
      · omega
      · have := h2 y hy; omega
theorem minL_ok : ∀ {ns : List Int}, 0 < ns.length → minL ns ∈ ns ∧ ∀ y ∈ ns, minL ns ≤ y
  | [], h => by simp at h
  | [i], _ => by simp [minL]
  | i :: j :: is, _ => by
    obtain ⟨h1, h2⟩ := minL_ok (ns := j :: is) (by simp)
    unfold minL
    split
    · refine ⟨List.mem_cons_of_mem _ h1, fun y hy => ?_⟩
      rcases List.mem_cons.mp hy with rfl | hy
      · omega
      · exact h2 y hy
    · refine ⟨by simp, fun y hy => ?_⟩
      rcases List.mem_cons.mp hy with rfl | hy
      · omega
      · have := h2 y hy; omega
def fMax (ts : List T) : Sh T := fun μ => match ts with
  | [.dat (.int i), .dat (.int j)] => .ok (.int (if j > i then j else i)) μ
  | [x] => (match (seeL x μ).bind intsOf with
    | some ns => if 0 < ns.length then .ok (.int (maxL ns)) μ else .no
    | none => .no)
  | _ => .no
def fMin (ts : List T) : Sh T := fun μ => match ts with
  | [.dat (.int i), .dat (.int j)] => .ok (.int (if j < i then j else i)) μ
  | [x] => (match (seeL x μ).bind intsOf with
    | some ns => if 0 < ns.length then .ok (.int (minL ns)) μ else .no
    | none => .no)
  | _ => .no
def fInt : List T → Sh T
  | [.dat (.bl k)] => ret (.int (if k then 1 else 0))
  | [.dat (.int i)] => ret (.int i)
  | _ => stop
def fStr : List T → Sh T
  | [.dat (.int i)] => fun μ => if i.natAbs.log2 < 1920 then .ok (.str (toString i)) μ else .no
  | [.dat (.str z)] => ret (.str z)
  | _ => stop
/-- a new list, read only -/
def fList : List T → Sh T
  | [x] => fun μ => match seeS x μ with
    | some ds => .ok (.dat (.lst ds)) μ
    | none => .no
  | _ => stop
/-- a new list, one's own -/
def fListO : List T → Sh T
  | [x] => fun μ => match seeS x μ with
    | some ds => .ok (.own μ.length) (μ ++ [.lst (dats ds)])
    | none => (match x with
      | .own i => (match μ[i]? with
        | some (.lst ts) => .ok (.own μ.length) (μ ++ [.lst ts])
        | _ => .no)
      | _ => .no)
  | _ => stop
def fTup : List T → Sh T
  | [x] => fun μ => match seeL x μ with
    | some ds => .ok (.dat (.tup ds)) μ
    | none => .no
  | _ => stop
section
variable {c : EN.Ctx} {a b e o x : Expr} {es : List Expr} {Γ : List (Option T)} {pos p : Pos} {u v : T} {m ma mb mc mo : Sh T} {mt nt : Sh Bool} {d : D} {n : Sh (List T)} {ts us : List T} {tb : Tab}
theorem sv_bi {x : Str} {id : String} {f : List T → Sh T} (ha : AsS c (e :: es) Γ n) (hf : ∀ ts, C1S c (.builtin id) ts (f ts)) (hg : gloB c.sc x = true) (hm : c.mg x = none) (hv : bootBuiltins x = some (.builtin id))
    (hs : (e :: es).all (fun e => !isStar e) = true) (hn : x ≠ "__name__" := by decide +kernel) : EvS c (.Call (.Name x p) (e :: es) [] pos) Γ (bnd n f) := .mk fun μ t μ' h => by
  obtain ⟨us, μ1, h1, h⟩ := bnd_inv h
  exact ev_callB (ha _ _ _ h1) (hf _ _ _ _ h) (gloB_ok hg).1 hm hv hs hn (gloB_ok hg).2
theorem sv_ty {x : Str} {id : String} {f : List T → Sh T} (ha : AsS c (e :: es) Γ n) (hf : ∀ ts, C1S c (.type id) ts (f ts)) (hg : gloB c.sc x = true) (hm : c.mg x = none) (hv : bootBuiltins x = some (.type id))
    (hs : (e :: es).all (fun e => !isStar e) = true) (hn : x ≠ "__name__" := by decide +kernel) : EvS c (.Call (.Name x p) (e :: es) [] pos) Γ (bnd n f) := .mk fun μ t μ' h => by
  obtain ⟨us, μ1, h1, h⟩ := bnd_inv h
  exact ev_callTy (ha _ _ _ h1) (hf _ _ _ _ h) (gloB_ok hg).1 hm hv hs hn (gloB_ok hg).2
theorem call_lenR {X : L2.Cx} : CallR X (.builtin "len") (fun xs H Q => ∃ a kvs, xs = [V.ref a] ∧ Rd H a (.dK kvs) ∧ Q (.int kvs.length) H) := by
  intro pins s σ H xs us Q I r h
  obtain ⟨a, kvs, rfl, ha, q⟩ := h
  obtain ⟨u, rfl, ru⟩ := vals1 r
  cases ru
  exact d_len I ha fun t s' I' => ⟨.int kvs.length, H, I', ⟨t, rfl⟩, q⟩
theorem DtK.lenK {K : PySem.W.Frag} {H : Hp} : ∀ {d : List (Key × D)} {v : List (Key × V)}, DtK K H d v → d.length = v.length
  | _, _, .nil => rfl
  | _, _, .cons _ t => by simp [t.lenK]
theorem fLen_ok : C1S c (.builtin "len") ts (fLen ts) := fun μ t μ' h => by
  unfold fLen at h
  split at h
  · split at h
    · cases h; exact c_lenS (by assumption)
    · cases h
  · split at h
    · rename_i q
      cases h
      exact fun X gX => ⟨_, call_len_seq, fun φ π H vs s0 h Q qq => by
        obtain ⟨v, rfl, kk⟩ := h.one
        obtain ⟨a, vs, rfl, s1, l1⟩ := seeS_ok s0 kk q
        exact ⟨_, _, rfl, s1, qq _ π H (Nxt.refl s0) (by rw [← l1.len]; exact .int _)⟩⟩
    · split at h
      · split at h
        · cases h; exact c_lenO (by assumption)
        · rename_i q
          cases h
          exact fun X gX => ⟨_, call_lenD, fun φ π H vs s0 h Q qq => by
            obtain ⟨v, rfl, kk⟩ := h.one
            obtain ⟨p1, hp, rfl⟩ := kk
            obtain ⟨vs, hv, hts⟩ := s0.obj _ p1 _ hp q
            exact ⟨_, _, rfl, hv, qq _ π H (Nxt.refl s0) (by rw [hts.len]; exact .int _)⟩⟩
        · rename_i q
          cases h
          exact fun X gX => ⟨_, call_lenR, fun φ π H vs s0 h Q qq => by
            obtain ⟨v, rfl, kk⟩ := h.one
            obtain ⟨p1, hp, rfl⟩ := kk
            cases (s0.obj _ p1 _ hp q).2 with
            | dic s l => exact ⟨_, _, rfl, (hd_le _ _ _ _ : Ex _ _).rd s, qq _ π H (Nxt.refl s0) (by rw [← l.lenK]; exact .int _)⟩⟩
        · cases h
      · cases h
        exact fun X gX => ⟨_, call_lenR, fun φ π H vs s0 h Q qq => by
          obtain ⟨v, rfl, kk⟩ := h.one
          cases kk with
          | dic s l => exact ⟨_, _, rfl, (hd_le _ _ _ _ : Ex _ _).rd s, qq _ π H (Nxt.refl s0) (by rw [← l.lenK]; exact .int _)⟩⟩
      · cases h
  · cases h
theorem fAll_ok : C1S c (.builtin "all") ts (fAll ts) := fun μ t μ' h => by
  unfold fAll at h
  split at h
  · split at h
    · rename_i bs q
      cases h
      obtain ⟨ds, q1, q2⟩ := Option.bind_eq_some_iff.mp q
      exact fun X gX => ⟨_, cr_all gX.calm, fun φ π H vs s0 h Q qq => by
        obtain ⟨v, rfl, kk⟩ := h.one
        obtain ⟨a, vs, rfl, s1, l1⟩ := seeL_ok s0 kk q1
        rw [boolsOf_some q2] at l1
        rw [dtBl l1] at s1
        exact ⟨_, bs, rfl, s1, qq _ π H (Nxt.refl s0) (.bl _)⟩⟩
    · cases h
  · cases h
theorem fAny_ok : C1S c (.builtin "any") ts (fAny ts) := fun μ t μ' h => by
  unfold fAny at h
  split at h
  · split at h
    · rename_i bs q
      cases h
      obtain ⟨ds, q1, q2⟩ := Option.bind_eq_some_iff.mp q
      exact fun X gX => ⟨_, cr_any gX.calm, fun φ π H vs s0 h Q qq => by
        obtain ⟨v, rfl, kk⟩ := h.one
        obtain ⟨a, vs, rfl, s1, l1⟩ := seeL_ok s0 kk q1
        rw [boolsOf_some q2] at l1
        rw [dtBl l1] at s1
        exact ⟨_, bs, rfl, s1, qq _ π H (Nxt.refl s0) (.bl _)⟩⟩
    · cases h
  · cases h
theorem fSum_ok : C1S c (.builtin "sum") ts (fSum ts) := fun μ t μ' h => by
  unfold fSum at h
  split at h
  · split at h
    · rename_i bs q
      cases h
      obtain ⟨ds, q1, q2⟩ := Option.bind_eq_some_iff.mp q
      exact fun X gX => ⟨_, cr_sum gX.calm, fun φ π H vs s0 h Q qq => by
        obtain ⟨v, rfl, kk⟩ := h.one
        obtain ⟨a, vs, rfl, s1, l1⟩ := seeL_ok s0 kk q1
        rw [intsOf_some q2] at l1
        rw [dtInt l1] at s1
        exact ⟨_, bs, rfl, s1, qq _ π H (Nxt.refl s0) (.int _)⟩⟩
    · cases h
  · cases h
theorem fMax_ok : C1S c (.builtin "max") ts (fMax ts) := fun μ t μ' h => by
  unfold fMax at h
  split at h
  · cases h; exact c_max2
  · split at h
    · rename_i ns q
      split at h
      · rename_i hp
        cases h
        obtain ⟨ds, q1, q2⟩ := Option.bind_eq_some_iff.mp q
        exact fun X gX => ⟨_, cr_max gX.calm, fun φ π H vs s0 h Q qq => by
          obtain ⟨v, rfl, kk⟩ := h.one
          obtain ⟨a, vs, rfl, s1, l1⟩ := seeL_ok s0 kk q1
          rw [intsOf_some q2] at l1
          rw [dtInt l1] at s1
          refine ⟨_, ns, rfl, s1, hp, fun mm h1 h2 => ?_⟩
          have hm := maxL_ok hp
          have e : mm = maxL ns := Int.le_antisymm (hm.2 _ h1) (h2 _ hm.1)
          rw [e]
          exact qq _ π H (Nxt.refl s0) (.int _)⟩
      · cases h
    · cases h
  · cases h
theorem fMin_ok : C1S c (.builtin "min") ts (fMin ts) := fun μ t μ' h => by
  unfold fMin at h
  split at h
  · cases h; exact c_min2
  · split at h
    · rename_i ns q
      split at h
      · rename_i hp
        cases h
        obtain ⟨ds, q1, q2⟩ := Option.bind_eq_some_iff.mp q
        exact fun X gX => ⟨_, cr_min gX.calm, fun φ π H vs s0 h Q qq => by
          obtain ⟨v, rfl, kk⟩ := h.one
          obtain ⟨a, vs, rfl, s1, l1⟩ := seeL_ok s0 kk q1
          rw [intsOf_some q2] at l1
          rw [dtInt l1] at s1
          refine ⟨_, ns, rfl, s1, hp, fun mm h1 h2 => ?_⟩
          have hm := minL_ok hp
          have e : mm = minL ns := Int.le_antisymm (h2 _ hm.1) (hm.2 _ h1)
          rw [e]
          exact qq _ π H (Nxt.refl s0) (.int _)⟩
      · cases h
    · cases h
  · cases h
theorem fInt_ok : C1S c (.type "int") ts (fInt ts) := fun μ t μ' h => by
  unfold fInt at h
  split at h
  · cases h; exact c_intB
  · cases h
    exact fun X gX => ⟨_, call_int1, fun φ π H vs s0 h Q q => by
      obtain ⟨v, rfl, kk⟩ := h.one
      cases kk
      exact .inl ⟨_, rfl, q _ π H (Nxt.refl s0) (.int _)⟩⟩
  · cases h
theorem fList_ok : C1S c (.type "list") ts (fList ts) := fun μ t μ' h => by
  unfold fList at h
  split at h
  · split at h
    · rename_i q
      cases h
      exact fun X gX => ⟨_, call_list_of, fun φ π H vs s0 h Q qq => by
        obtain ⟨v, rfl, kk⟩ := h.one
        obtain ⟨a, vs, rfl, s1, l1⟩ := seeS_ok s0 kk q
        refine ⟨_, _, rfl, s1, fun p np => ?_⟩
        obtain ⟨n1, at1⟩ := s0.newData np
        exact qq _ π _ n1 (.lst (SqL.of at1) (DtL.mono n1.le l1))⟩
    · cases h
  · cases h
theorem newOwnL {K : PySem.W.Frag} {φ π : List Addr} {H : Hp} {μ : List M} {p : Addr} {ts : List T} {vs : List V} {Q : VK} (s0 : SOk K φ π H μ) (l : TL K π (hd φ π μ H) ts vs) (q : Pst K φ π H μ (.own μ.length) (μ ++ [.lst ts]) Q) (np : H p = none) : Q (.ref p) (upd H p (.lst vs)) := by
  have n2 := s0.newOwn (o := .lst vs) (m := .lst ts) np rfl ⟨vs, upd_same, l.mono ⟨[p], rfl⟩ Ex.rfl'⟩
  exact q _ (π ++ [p]) _ n2 ⟨p, by rw [← s0.len]; simp, rfl⟩
theorem fListO_ok : C1S c (.type "list") ts (fListO ts) := fun μ t μ' h => by
  unfold fListO at h
  split at h
  · split at h
    · rename_i q
      cases h
      exact fun X gX => ⟨_, call_list_of, fun φ π H vs s0 h Q qq => by
        obtain ⟨v, rfl, kk⟩ := h.one
        obtain ⟨a, vs, rfl, s1, l1⟩ := seeS_ok s0 kk q
        exact ⟨_, _, rfl, s1, fun p np => newOwnL s0 l1.tl qq np⟩⟩
    · split at h
      · split at h
        · rename_i q
          cases h
          exact fun X gX => ⟨_, call_list_of, fun φ π H vs s0 h Q qq => by
            obtain ⟨v, rfl, kk⟩ := h.one
            obtain ⟨p1, hp, rfl⟩ := kk
            obtain ⟨vs, hv, hts⟩ := s0.obj _ p1 _ hp q
            exact ⟨_, _, rfl, .inl (SqL.of hv), fun p np => newOwnL s0 hts qq np⟩⟩
        · cases h
      · cases h
  · cases h
theorem fTup_ok : C1S c (.type "tuple") ts (fTup ts) := fun μ t μ' h => by
  unfold fTup at h
  split at h
  · split at h
    · rename_i q
      cases h
      exact fun X gX => ⟨_, call_tuple_of, fun φ π H vs s0 h Q qq => by
        obtain ⟨v, rfl, kk⟩ := h.one
        obtain ⟨a, vs, rfl, s1, l1⟩ := seeL_ok s0 kk q
        refine ⟨_, _, rfl, .inl ⟨s1, fun p np => ?_⟩⟩
        obtain ⟨n1, at1⟩ := s0.newData np
        exact qq _ π _ n1 (.tup (SqT.of at1) (DtL.mono n1.le l1))⟩
    · cases h
  · cases h
end
end EN
/-! isinstance, methods of lists and texts, what is walked, comprehensions. -/
namespace EN
open PySem PySem.Spec PyProof.Rows L2

/-! ### isinstance -/
def tyT (x : T) (μ : List M) : Option String := match x with
  | .dat d => tyD d
  | .own i => (match μ[i]? with
    | some (.lst _) => some "list"
    | some (.frz d) => tyD d
    | _ => none)
  | .vls _ _ => none
def opIsTy (n : String) (x : T) : Sh T := fun μ => match tyT x μ with
  | some m => (match kitB m n with
    | some r => .ok (.bl r) μ
    | none => .no)
  | none => .no
def clsT (x : T) (μ : List M) : Option Str := match x with
  | .dat (.ins C _) => some C
  | .own i => (match μ[i]? with
    | some (.ins C _) => some C
    | some (.frz (.ins C _)) => some C
    | _ => none)
  | _ => none
def Tab.isb (tb : Tab) (C D : Str) : Option Bool := if tb.cls C && tb.isk.contains C then (tb.isi.find? fun e => e.1 == C && e.2.1 == D).map (·.2.2) else none
def opIsC (tb : Tab) (D : Str) (x : T) : Sh T := fun μ => match clsT x μ with
  | some C => (match tb.isb C D with
    | some r => .ok (.bl r) μ
    | none => .no)
  | none => .no

section
variable {c : EN.Ctx} {a b e o x : Expr} {es : List Expr} {Γ : List (Option T)} {pos p : Pos} {u v : T} {m ma mb mc mo : Sh T} {mt nt : Sh Bool} {d : D} {n : Sh (List T)} {ts us : List T} {tb : Tab}
theorem TabOk.isb {G : Gc} (E : TabOk G tb) {C D : Str} {r : Bool} (h : tb.isb C D = some r) : ClsG G C ∧ insB G.K C = true ∧ PySem.W.kitOne G.K (.ref (He.ga G.K C)) (.ref (He.ga G.K D)) = some r := by
  unfold Tab.isb at h
  split at h
  · rename_i q
    simp only [Bool.and_eq_true] at q
    obtain ⟨e, he, h2⟩ := Option.map_eq_some_iff.mp h
    have hm := List.mem_of_find?_eq_some he
    have hp := List.find?_some he
    simp only [Bool.and_eq_true] at hp
    have := E.isi e hm
    rw [eq_of_beq hp.1, eq_of_beq hp.2, h2] at this
    exact ⟨E.cls q.1, E.isk C (by simpa using q.2), eqOB_ok this⟩
  · cases h
/-- the type of a value, own things too -/
theorem ev_isiX {μ μ1 : List M} {x : Str} {w : Value} {vt : Value} {r : Bool} (ha : EvJ c a Γ μ u μ1) (hb : EvC c b w) (ht : ∀ X, EN.Good c X → ∀ φ π H y, SOk X.K φ π H μ1 → TOk X.K π (hd φ π μ1 H) u y → TyX X.K H y vt) (hk : PySem.W.kitOne c.K vt w = some r) (hx : x = "isinstance") (hg : c.sc.names.lookup x = some .globalImplicit) (hm : c.mg x = none)
    (hs : isStar a = false) (hs2 : isStar b = false) : EvJ c (.Call (.Name x p) [a, b] [] pos) Γ μ (.bl r) μ1 := by
  subst hx
  intro X g φ π σ H s0 g0 Q q
  obtain ⟨cv, hw, hpe⟩ := hb
  refine toE (pe_callB call_isi (show X.env.scope.names.lookup ("isinstance" : Str) = _ by rw [g.sc]; exact hg) (by rw [g.mg]; exact hm) (by decide +kernel) (pa_cons pe_sem (pa_cons (hpe X g) pa_nil (star_cons hs2 _)) (star_cons hs _)) (by decide) (by decide) (star_cons hs _) (no_star (by simp [hs2]) _ _)) ?_
  refine ha X g φ π σ H s0 g0 _ fun vv π1 H1 n1 k1 => ?_
  exact ⟨vv, cv, vt, w, r, rfl, hw, ht X g φ π1 H1 vv n1.ok k1, by rw [g.K]; exact hk, q _ π1 H1 n1 (.bl _)⟩
theorem tyT_ok {μ : List M} {mm : String} (h : tyT u μ = some mm) {K : PySem.W.Frag} {φ π : List Addr} {H : Hp} {y : V} (s : SOk K φ π H μ) (k : TOk K π (hd φ π μ H) u y) : TyX K H y (.type mm) := by
  unfold tyT at h
  split at h
  · exact tyx_of (Dt.mono (hd_le _ _ _ _) k) (tyD_ok h)
  · obtain ⟨q, hq, rfl⟩ := k
    split at h
    · rename_i e
      cases h
      obtain ⟨vs, hv, _⟩ := s.obj _ q _ hq e
      exact .base (.lst hv)
    · rename_i e
      exact tyx_of (Dt.mono (hd_le _ _ _ _) (s.obj _ q _ hq e).2) (tyD_ok h)
    · cases h
  · cases h
theorem sv_isTy {y : Str} {nn : String} {q : Pos} (ha : EvS c a Γ ma) (hv : bootBuiltins y = some (.type nn)) (hg : gloB c.sc "isinstance" = true) (hm : c.mg "isinstance" = none) (hg2 : gloB c.sc y = true) (hm2 : c.mg y = none)
    (hs : isStar a = false := by rfl) (hn : y ≠ "__name__" := by decide +kernel) : EvS c (.Call (.Name "isinstance" p) [a, .Name y q] [] pos) Γ (bnd ma (opIsTy nn)) := .mk fun μ t μ' h => by
  obtain ⟨u, μ1, h1, h⟩ := bnd_inv h
  unfold opIsTy at h
  split at h
  · rename_i mm q1
    split at h
    · rename_i r q2
      cases h
      exact ev_isiX (ha _ _ _ h1) (evc_ty (gloB_ok hg2).1 hm2 hv hn (gloB_ok hg2).2) (fun X g φ π H y s k => tyT_ok q1 s k) (kit_ty q2) rfl (gloB_ok hg).1 hm hs rfl
    · cases h
  · cases h
theorem sv_isC {D : Str} {q : Pos} (E : TabOk c.toGc tb) (ha : EvS c a Γ ma) (hg : gloB c.sc "isinstance" = true) (hm : tb.free "isinstance" = true) (hg2 : gloB c.sc D = true) (hm2 : tb.glo D = true)
    (hs : isStar a = false := by rfl) : EvS c (.Call (.Name "isinstance" p) [a, .Name D q] [] pos) Γ (bnd ma (opIsC tb D)) := .mk fun μ t μ' h => by
  obtain ⟨u, μ1, h1, h⟩ := bnd_inv h
  unfold opIsC at h
  split at h
  · rename_i C q1
    split at h
    · rename_i r q2
      cases h
      obtain ⟨hc, hi, hk⟩ := E.isb q2
      simp only [insB, Bool.and_eq_true] at hi
      obtain ⟨i1, i2, i3, i4⟩ := hi
      refine ev_isiX (vt := .ref (He.ga c.K C)) (ha _ _ _ h1) (evc_own (gloB_ok hg2).1 (E.glo hm2) (gloB_ok hg2).2) (fun X g φ π H y s k => ?_) hk rfl (gloB_ok hg).1 (E.free hm) hs rfl
      have hI : ∃ aa dx vs, y = .ref aa ∧ H aa = some (.ins (He.ga X.K C) dx vs) := by
        unfold clsT at q1
        split at q1
        · cases q1
          cases k with
          | ins hh l => exact ⟨_, _, _, rfl, hd_le _ _ _ _ _ _ hh⟩
        · obtain ⟨p1, hp, rfl⟩ := k
          split at q1
          · rename_i q3
            cases q1
            obtain ⟨dx, vs, hv, hts⟩ := s.obj _ p1 _ hp q3
            exact ⟨p1, dx, vs, rfl, hv⟩
          · rename_i q3
            cases q1
            have := (s.obj _ p1 _ hp q3).2
            cases this with
            | ins hh l => exact ⟨_, _, _, rfl, hd_le _ _ _ _ _ _ hh⟩
          · cases q1
        · cases q1
      obtain ⟨aa, dx, vs, rfl, hH⟩ := hI
      have gK : c.K = X.K := g.K.symm
      rw [gK]
      exact .base (.ins hH (by rw [g.K]; exact hc) (by rw [g.K]; exact He.eqO_ok i1) (by rw [g.K]; exact He.eqO_ok i2) (by rw [g.K]; exact eqOB_ok i3) (by rw [g.K]; exact eqOB_ok i4))
    · cases h
  · cases h

/-! ### methods of texts and lists -/
def opJoin (x y : T) : Sh T := fun μ => match x with
  | .dat (.str sep) => (match (seeL y μ).bind strsOf with
    | some ys => if (ys.map (·.length)).sum + ys.length * sep.length ≤ 16777216 then .ok (.str (Txt.join sep ys)) μ else .no
    | none => .no)
  | _ => .no
theorem sv_join {apos : Pos} (ho : EvS c a Γ ma) (he : EvS c b Γ mb) (hb : isSuper a = false := by rfl) (hs : isStar b = false := by rfl) (hl : (apos.endLine == pos.line) = true := by rfl) :
    EvS c (.Call (.Attribute a "join" apos) [b] [] pos) Γ (bnd ma fun u => bnd mb fun v => opJoin u v) := .mk fun μ t μ' h => by
  obtain ⟨u, μ1, h1, z⟩ := bnd_inv h
  clear h
  obtain ⟨v, μ2, h2, h⟩ := bnd_inv z
  clear z
  unfold opJoin at h
  split at h
  · rename_i sep
    split at h
    · rename_i ys q
      split at h
      · rename_i hz
        cases h
        obtain ⟨ds, q1, q2⟩ := Option.bind_eq_some_iff.mp q
        intro X g φ π σ H s0 g0 Q qq
        refine toE (pe_join pe_sem pe_sem (star_cons hs _) (base_ok2 hb _ _) hl) ?_
        refine ho _ _ _ h1 X g φ π σ H s0 g0 _ fun v π1 H1 n1 k1 => ?_
        cases k1
        refine ⟨⟨_, rfl⟩, ?_⟩
        refine he _ _ _ h2 X g φ π1 σ H1 n1.ok (g0.nx n1) _ fun w π2 H2 n2 k2 => ?_
        obtain ⟨aa, vs, rfl, s1, l1⟩ := seeL_ok n2.ok k2 q1
        rw [strsOf_some q2] at l1
        rw [dtStr l1] at s1
        exact ⟨_, _, ys, rfl, rfl, .inl s1, hz, qq _ π2 H2 (n1.trans n2) (.str _)⟩
      · cases h
    · cases h
  · cases h
def lowS (x : T) : Sh T := fun μ => match x with
  | .dat (.str z) => if z.length ≤ 5592405 then .ok (.str (Txt.lower z)) μ else .no
  | _ => .no
def uppS (x : T) : Sh T := fun μ => match x with
  | .dat (.str z) => if z.length ≤ 5592405 then .ok (.str (Txt.upper z)) μ else .no
  | _ => .no
theorem sv_lower {apos : Pos} (ho : EvS c a Γ ma) (hb : isSuper a = false := by rfl) (hl : (apos.endLine == pos.line) = true := by rfl) : EvS c (.Call (.Attribute a "lower" apos) [] [] pos) Γ (bnd ma lowS) := .mk fun μ t μ' h => by
  obtain ⟨u, μ1, h1, h⟩ := bnd_inv h
  unfold lowS at h
  split at h
  · split at h
    · cases h; exact ev_lower (ho _ _ _ h1) (by assumption) hb hl
    · cases h
  · cases h
theorem sv_upper {apos : Pos} (ho : EvS c a Γ ma) (hb : isSuper a = false := by rfl) (hl : (apos.endLine == pos.line) = true := by rfl) : EvS c (.Call (.Attribute a "upper" apos) [] [] pos) Γ (bnd ma uppS) := .mk fun μ t μ' h => by
  obtain ⟨u, μ1, h1, h⟩ := bnd_inv h
  unfold uppS at h
  split at h
  · split at h
    · cases h; exact ev_upper (ho _ _ _ h1) (by assumption) hb hl
    · cases h
  · cases h
/-- is one's own list -/
def isL (x : T) : Sh Unit := fun μ => match x with
  | .own i => (match μ[i]? with
    | some (.lst _) => .ok () μ
    | _ => .no)
  | _ => .no
def opApp (x y : T) : Sh T := fun μ => match x with
  | .own i => (match μ[i]? with
    | some (.lst ts) => if ts.length < sizeLine then .ok .non (μ.set i (.lst (ts ++ [y]))) else .no
    | _ => .no)
  | _ => .no
theorem isL_inv {μ μ' : List M} (h : isL u μ = .ok () μ') : μ' = μ ∧ ∃ i ts, u = .own i ∧ μ[i]? = some (.lst ts) := by
  unfold isL at h
  split at h
  · split at h
    · cases h; exact ⟨rfl, _, _, rfl, by assumption⟩
    · cases h
  · cases h
theorem sv_append {apos : Pos} (ho : EvS c a Γ ma) (he : EvS c b Γ mb) (hb : isSuper a = false := by rfl) (hs : isStar b = false := by rfl) (hl : (apos.endLine == pos.line) = true := by rfl) :
    EvS c (.Call (.Attribute a "append" apos) [b] [] pos) Γ (bnd ma fun u => bnd (isL u) fun _ => bnd mb fun v => opApp u v) := .mk fun μ t μ' h => by
  obtain ⟨u, μ1, h1, z⟩ := bnd_inv h
  clear h
  obtain ⟨_, μ2, h2, y⟩ := bnd_inv z
  clear z
  obtain ⟨e2, i, ts0, rfl, q0⟩ := isL_inv h2
  clear h2
  subst e2
  obtain ⟨v, μ3, h3, h⟩ := bnd_inv y
  clear y
  unfold opApp at h
  simp only at h
  split at h
  · split at h
    · cases h; exact ev_append (ho _ _ _ h1) (he _ _ _ h3) q0 (by assumption) (by assumption) hb hs hl
    · cases h
  · cases h
theorem sv_appendP {apos : Pos} (ho : EvS c a Γ (ret u)) (he : EvS c b Γ (ret v)) (hb : isSuper a = false := by rfl) (hs : isStar b = false := by rfl) (hl : (apos.endLine == pos.line) = true := by rfl) :
    EvS c (.Call (.Attribute a "append" apos) [b] [] pos) Γ (opApp u v) := .mk fun μ t μ' h => by
  unfold opApp at h
  split at h
  · split at h
    · split at h
      · cases h; exact ev_append (ho _ _ _ rfl) (he _ _ _ rfl) (by assumption) (by assumption) (by assumption) hb hs hl
      · cases h
    · cases h
  · cases h
def opClear (x : T) : Sh T := fun μ => match x with
  | .own i => (match μ[i]? with
    | some (.lst ts) => .ok .non (μ.set i (.lst []))
    | _ => .no)
  | _ => .no
def opPop (x : T) : Sh T := fun μ => match x with
  | .own i => (match μ[i]? with
    | some (.lst ts) => (match ts.getLast? with
      | some t => .ok t (μ.set i (.lst ts.dropLast))
      | none => .no)
    | _ => .no)
  | _ => .no
theorem TL.dropLast {K : PySem.W.Frag} {π : List Addr} {Hd : Hp} {ts : List T} {vs : List V} (h : EN.TL K π Hd ts vs) : EN.TL K π Hd ts.dropLast vs.dropLast := by
  induction h with
  | nil => exact .nil
  | cons q r ih =>
    cases r with
    | nil => exact .nil
    | cons q' r' => exact .cons q ih
theorem sv_clear {apos : Pos} (ho : EvS c a Γ ma) (hb : isSuper a = false := by rfl) (hl : (apos.endLine == pos.line) = true := by rfl) :
    EvS c (.Call (.Attribute a "clear" apos) [] [] pos) Γ (bnd ma opClear) := .mk fun μ t μ' h => by
  obtain ⟨u, μ1, h1, h⟩ := bnd_inv h
  unfold opClear at h
  split at h
  · rename_i i
    split at h
    · rename_i ts q0
      cases h
      intro X g φ π σ H s0 g0 Q q
      refine toE (pe_bm0 PySem.F.plainAttrs_list PySem.F.slot_list_clear PySem.F.type_list_clear mt_clear pe_sem (base_ok2 hb _ _) hl) ?_
      refine ho _ _ _ h1 X g φ π σ H s0 g0 _ fun v π1 H1 n1 k1 => ?_
      obtain ⟨p, hp, rfl⟩ := k1
      obtain ⟨vs, hv, hts⟩ := n1.ok.obj i p _ hp q0
      refine ⟨.inl ⟨rfl, vs, SqL.of hv⟩, p, vs, rfl, rfl, hv, ?_⟩
      have n3 := n1.ok.write (o := .lst []) (m' := .lst []) hp q0 rfl rfl ⟨_, upd_same, .nil⟩
      exact q _ π1 _ (n1.trans n3) .non
    · cases h
  · cases h
theorem sv_pop {apos : Pos} (ho : EvS c a Γ ma) (hb : isSuper a = false := by rfl) (hl : (apos.endLine == pos.line) = true := by rfl) :
    EvS c (.Call (.Attribute a "pop" apos) [] [] pos) Γ (bnd ma opPop) := .mk fun μ t μ' h => by
  obtain ⟨u, μ1, h1, h⟩ := bnd_inv h
  unfold opPop at h
  split at h
  · rename_i i
    split at h
    · rename_i ts q0
      split at h
      · rename_i t1 q1
        cases h
        intro X g φ π σ H s0 g0 Q q
        refine toE (pe_bm0 PySem.F.plainAttrs_list PySem.F.slot_list_pop PySem.F.type_list_pop mt_pop pe_sem (base_ok2 hb _ _) hl) ?_
        refine ho _ _ _ h1 X g φ π σ H s0 g0 _ fun v π1 H1 n1 k1 => ?_
        obtain ⟨p, hp, rfl⟩ := k1
        obtain ⟨vs, hv, hts⟩ := n1.ok.obj i p _ hp q0
        have q2 : ts[ts.length - 1]? = some t := by rw [← List.getLast?_eq_getElem?]; exact q1
        obtain ⟨y, hy, ky⟩ := hts.getT q2
        refine ⟨.inl ⟨rfl, vs, SqL.of hv⟩, p, vs, y, rfl, rfl, hv, by rw [← hts.len]; exact hy, ?_⟩
        have n3 := n1.ok.write (o := .lst vs.dropLast) (m' := .lst ts.dropLast) hp q0 rfl rfl ⟨_, upd_same, TL.dropLast hts⟩
        exact q _ π1 _ (n1.trans n3) (ky.nx n3)
      · cases h
    · cases h
  · cases h
end
end EN
/-! What is walked, comprehensions, statements, defs. -/
namespace EN
open PySem PySem.Spec PyProof.Rows L2

structure IterS (c : EN.Ctx) (tg iter : Expr) (Γ : List (Option T)) (m : Sh (List T)) : Prop where
  run : ∀ μ its μ1, m μ = .ok its μ1 → IterJ c tg iter Γ μ its μ1
instance {c : EN.Ctx} {tg iter : Expr} {Γ : List (Option T)} {m : Sh (List T)} : CoeFun (IterS c tg iter Γ m) fun _ => ∀ μ its μ1, m μ = .ok its μ1 → IterJ c tg iter Γ μ its μ1 := ⟨IterS.run⟩
def itT (x : T) : Sh (List T) := fun μ => match x with
  | .dat (.lst ds) => .ok (dats ds) μ
  | .dat (.tup ds) => .ok (dats ds) μ
  | .dat (.str z) => .ok (chD z) μ
  | .own i => (match μ[i]? with
    | some (.frz (.lst ds)) => .ok (dats ds) μ
    | some (.frz (.tup ds)) => .ok (dats ds) μ
    | _ => .no)
  | _ => .no
def rg1 (x : T) : Sh (List T) := fun μ => match x with
  | .dat (.int n) => if -(2 ^ 62) ≤ n ∧ n < 2 ^ 62 then .ok (rgD 0 n.toNat) μ else .no
  | _ => .no
def rg2 (x y : T) : Sh (List T) := fun μ => match x, y with
  | .dat (.int lo), .dat (.int n) => if (-(2 ^ 62) ≤ lo ∧ lo < 2 ^ 62) ∧ (-(2 ^ 62) ≤ n ∧ n < 2 ^ 62) then .ok (rgD lo (n - lo).toNat) μ else .no
  | _, _ => .no
def itEn (x : T) : Sh (List T) := fun μ => match x with
  | .dat (.lst ds) => .ok (enD ds) μ
  | .dat (.tup ds) => .ok (enD ds) μ
  | _ => .no
def itZip (x y : T) : Sh (List T) := fun μ => match x, y with
  | .dat (.lst ds), .dat (.lst es) => .ok (zpD ds es) μ
  | _, _ => .no

inductive Lo (α β : Type) where
  | nx (a : α) | rt (t : T) | bk (b : β) | ct (b : β)
def forN {α : Type} (F : T → α → Sh α) : List T → α → Sh α
  | [], a => ret a
  | t :: ts, a => bnd (F t a) (forN F ts)
def forL {α : Type} (F : T → α → Sh (Lo α α)) : List T → α → Sh (Lo α Empty)
  | [], a => ret (.nx a)
  | t :: ts, a => bnd (F t a) fun o => match o with
    | .nx b => forL F ts b
    | .ct b => forL F ts b
    | .bk b => ret (.nx b)
    | .rt u => ret (.rt u)
def whN {α : Type} (C : α → Sh Bool) (F : α → Sh α) : Nat → α → Sh α
  | 0, _ => stop
  | n + 1, a => bnd (C a) fun b => match b with
    | true => bnd (F a) (whN C F n)
    | false => ret a
def whL {α : Type} (C : α → Sh Bool) (F : α → Sh (Lo α α)) : Nat → α → Sh (Lo α Empty)
  | 0, _ => stop
  | n + 1, a => bnd (C a) fun b => match b with
    | true => bnd (F a) fun o => match o with
      | .nx b => whL C F n b
      | .ct b => whL C F n b
      | .bk b => ret (.nx b)
      | .rt u => ret (.rt u)
    | false => ret (.nx a)
def unp2 {α : Type} (t : T) (k : T → T → Sh α) : Sh α := fun μ => match datOf t μ with
  | some (.tup [x, y]) => k (.dat x) (.dat y) μ
  | _ => .no
def unp3 {α : Type} (t : T) (k : T → T → T → Sh α) : Sh α := fun μ => match datOf t μ with
  | some (.tup [x, y, z]) => k (.dat x) (.dat y) (.dat z) μ
  | _ => .no
def toD (m : Sh T) : Sh (Option D) := bnd m fun t μ => match datOf t μ with
  | some d => .ok (some d) μ
  | none => .no
def cmpS (F : T → Sh (Option D)) : List T → Sh (List D)
  | [] => ret []
  | t :: ts => bnd (F t) fun o => bnd (cmpS F ts) fun ds => ret (match o with
    | some d => d :: ds
    | none => ds)
def compS (its : Sh (List T)) (F : T → Sh (Option D)) : Sh T := bnd its fun ts => if Nat.ble ts.length 1000000 then bnd (cmpS F ts) fun ds => ret (.dat (.lst ds)) else stop

/-- what is known less -/
def LeG : List (Option T) → List (Option T) → Prop
  | [], [] => True
  | none :: a, _ :: b => LeG a b
  | some t :: a, x :: b => x = some t ∧ LeG a b
  | _, _ => False
theorem LeG.fok {K : PySem.W.Frag} {π : List Addr} {Hd : Hp} : ∀ {Γ Γ' : List (Option T)} {σ : L2.St}, LeG Γ' Γ → FOk K π Hd Γ σ → FOk K π Hd Γ' σ := by
  have key : ∀ {Γ Γ' : List (Option T)}, LeG Γ' Γ → Γ'.length = Γ.length ∧ ∀ (i : Nat) (t : T), Γ'[i]? = some (some t) → Γ[i]? = some (some t) := by
    intro Γ
    induction Γ with
    | nil =>
      intro Γ' h
      cases Γ' with
      | nil => exact ⟨rfl, fun _ _ h => h⟩
      | cons a b => cases a <;> cases h
    | cons x b ih =>
      intro Γ' h
      cases Γ' with
      | nil => cases h
      | cons a b' =>
        have h2 : LeG b' b ∧ ∀ t, a = some t → x = some t := by
          cases a with
          | none => exact ⟨h, fun t e => by cases e⟩
          | some t => exact ⟨h.2, fun u e => by rw [h.1]; exact e⟩
        obtain ⟨l, r⟩ := ih h2.1
        refine ⟨by simp [l], fun i t e => ?_⟩
        cases i with
        | zero =>
          simp at e ⊢
          exact h2.2 t e
        | succ i =>
          simp at e ⊢
          exact r i t e
  intro Γ Γ' σ h f
  obtain ⟨l, r⟩ := key h
  exact ⟨l.trans f.len, fun i t e => f.at_ i t (r i t e)⟩
theorem LeG.refl : ∀ Γ : List (Option T), LeG Γ Γ
  | [] => trivial
  | none :: a => LeG.refl a
  | some t :: a => ⟨rfl, LeG.refl a⟩
def wkO (g : List (Option T)) : Out → Out
  | .nx _ μ => .nx g μ
  | o => o

section
variable {c : EN.Ctx} {a b e o x tg iter : Expr} {es : List Expr} {Γ Γ' : List (Option T)} {pos p : Pos} {u v : T} {m ma mb mc mo : Sh T} {mt nt : Sh Bool} {d : D} {n : Sh (List T)} {ts us : List T} {tb : Tab} {st : Stmt} {sts A B rest body : List Stmt}
theorem SJ.wk {μ μ' : List M} (h : SJ c sts Γ μ (.nx Γ' μ')) {Γ2 : List (Option T)} (hl : LeG Γ2 Γ') : SJ c sts Γ μ (.nx Γ2 μ') := fun X g φ π σ H s0 g0 D q =>
  h X g φ π σ H s0 g0 D fun σ' π' H' n f => q σ' π' H' n (hl.fok f)
theorem SJ.wkl {μ : List M} {o : Out} (h : SJ c sts Γ' μ o) (hl : LeG Γ' Γ) : SJ c sts Γ μ o := fun X g φ π σ H s0 g0 D q => h X g φ π σ H s0 (hl.fok g0) D q
theorem StJ.wkl {μ : List M} {o : Out} (h : StJ c st Γ' μ o) (hl : LeG Γ' Γ) : StJ c st Γ μ o := fun X g φ π σ H s0 g0 D q => h X g φ π σ H s0 (hl.fok g0) D q
/-! ### what is walked -/
theorem it_seq (h : EvS c e Γ m) : IterS c tg e Γ (bnd m itT) := .mk fun μ its μ1 q => by
  obtain ⟨u, μ2, h1, q⟩ := bnd_inv q
  unfold itT at q
  split at q
  · cases q; exact it_lst (h _ _ _ h1)
  · cases q; exact it_tup (h _ _ _ h1)
  · cases q; exact it_str (h _ _ _ h1)
  · split at q
    · cases q; exact it_lst ((h _ _ _ h1).was (by assumption))
    · cases q; exact it_tup ((h _ _ _ h1).was (by assumption))
    · cases q
  · cases q
theorem it_rg1 (h : EvS c a Γ m) (hg : gloB c.sc "range" = true) (hm : c.mg "range" = none) (hs : isStar a = false := by rfl) : IterS c tg (.Call (.Name "range" p) [a] [] pos) Γ (bnd m rg1) := .mk fun μ its μ1 q => by
  obtain ⟨u, μ2, h1, q⟩ := bnd_inv q
  unfold rg1 at q
  split at q
  · split at q
    · rename_i hh; cases q; exact it_range1 (h _ _ _ h1) hh.2 (gloB_ok hg).1 hm hh.1 hs
    · cases q
  · cases q
theorem it_rg2 (h : EvS c a Γ ma) (h' : EvS c b Γ mb) (hg : gloB c.sc "range" = true) (hm : c.mg "range" = none) (hs : isStar a = false := by rfl) (hs' : isStar b = false := by rfl) : IterS c tg (.Call (.Name "range" p) [a, b] [] pos) Γ (bnd ma fun u => bnd mb fun v => rg2 u v) := .mk fun μ its μ1 q => by
  obtain ⟨u, μ2, h1, q⟩ := bnd_inv q
  obtain ⟨v, μ3, h2, q⟩ := bnd_inv q
  unfold rg2 at q
  split at q
  · split at q
    · rename_i hh; cases q; exact it_range2 (h _ _ _ h1) (h' _ _ _ h2) hh.1 hh.2 (gloB_ok hg).1 hm hs hs'
    · cases q
  · cases q
theorem it_en {elts : List Expr} {kk : Nat} {tpos : Pos} (h : EvS c a Γ m) (hg : gloB c.sc "enumerate" = true) (hm : c.mg "enumerate" = none) (hs : isStar a = false := by rfl) : IterS c (.Tuple elts kk tpos) (.Call (.Name "enumerate" p) [a] [] pos) Γ (bnd m itEn) := .mk fun μ its μ1 q => by
  obtain ⟨u, μ2, h1, q⟩ := bnd_inv q
  unfold itEn at q
  split at q
  · cases q; exact it_enum (h _ _ _ h1) (gloB_ok hg).1 hm hs
  · cases q; exact it_enumT (h _ _ _ h1) (gloB_ok hg).1 hm hs
  · cases q
theorem it_zp {elts : List Expr} {kk : Nat} {tpos : Pos} (h : EvS c a Γ ma) (h' : EvS c b Γ mb) (hg : gloB c.sc "zip" = true) (hm : c.mg "zip" = none) (hs : isStar a = false := by rfl) (hs' : isStar b = false := by rfl) : IterS c (.Tuple elts kk tpos) (.Call (.Name "zip" p) [a, b] [] pos) Γ (bnd ma fun u => bnd mb fun v => itZip u v) := .mk fun μ its μ1 q => by
  obtain ⟨u, μ2, h1, q⟩ := bnd_inv q
  obtain ⟨v, μ3, h2, q⟩ := bnd_inv q
  unfold itZip at q
  split at q
  · cases q; exact it_zip (h _ _ _ h1) (h' _ _ _ h2) (gloB_ok hg).1 hm hs hs'
  · cases q
/-! ### targets -/
/-- what a turn's shallow form has to do: the target takes t, the body follows -/
structure TurnS {α : Type} (c : EN.Ctx) (gt : TG) (Γ : List (Option T)) (vs : Option (List Nat)) (t : T) (m : Sh α) (K : List (Option T) → List M → α → List M → Prop) : Prop where
  run : ∀ μ r μ', m μ = .ok r μ' → ∃ Γ1 js, GvJ c gt t Γ μ Γ1 js ∧ (∀ ws, vs = some ws → ∀ j ∈ js, j ∈ ws) ∧ K Γ1 μ r μ'
instance {α : Type} {c : EN.Ctx} {gt : TG} {Γ : List (Option T)} {vs : Option (List Nat)} {t : T} {m : Sh α} {K : List (Option T) → List M → α → List M → Prop} : CoeFun (TurnS c gt Γ vs t m K) fun _ => ∀ μ r μ', m μ = .ok r μ' → ∃ Γ1 js, GvJ c gt t Γ μ Γ1 js ∧ (∀ ws, vs = some ws → ∀ j ∈ js, j ∈ ws) ∧ K Γ1 μ r μ' := ⟨TurnS.run⟩
theorem turn_nm {α : Type} {i : Nat} {Γ1 : List (Option T)} {vs : Option (List Nat)} {t : T} {m : Sh α} {K : List (Option T) → List M → α → List M → Prop} (he : Γ.set i (some t) = Γ1) (hv : ∀ ws, vs = some ws → i ∈ ws) (h : ∀ μ r μ', m μ = .ok r μ' → K Γ1 μ r μ') : TurnS c (gName i) Γ vs t m K := .mk fun μ r μ' q =>
  ⟨_, [i], gv_name, fun ws e j hj => by simp at hj; subst hj; exact hv ws e, by rw [he]; exact h _ _ _ q⟩
theorem gv_dat {gt : TG} {d : D} {μ : List M} {t : T} {Γ1 : List (Option T)} {js : List Nat} (e : datOf t μ = some d) (h : GvJ c gt (.dat d) Γ μ Γ1 js) : GvJ c gt t Γ μ Γ1 js := fun φ π σ H v s0 g0 k Q q =>
  h φ π σ H v s0 g0 (datOf_ok s0 k e) Q q
theorem turn_2 {α : Type} {i j : Nat} {Γ1 : T → T → List (Option T)} {vs : Option (List Nat)} {t : T} {f : T → T → Sh α} {K : List (Option T) → List M → α → List M → Prop} (he : ∀ x y, (Γ.set i (some x)).set j (some y) = Γ1 x y) (hv : ∀ ws, vs = some ws → i ∈ ws ∧ j ∈ ws) (h : ∀ x y μ r μ', f x y μ = .ok r μ' → K (Γ1 x y) μ r μ') : TurnS c (gTup c.K 2 (gCons (gName i) (gCons (gName j) gNil))) Γ vs t (unp2 t f) K := .mk fun μ r μ' q => by
  unfold unp2 at q
  split at q
  · rename_i x y e
    refine ⟨_, _, gv_dat e (gv_tup (gs_cons gv_name (gs_cons gv_name gs_nil))), fun ws e j' hj => ?_, by rw [he]; exact h _ _ _ _ _ q⟩
    obtain ⟨h1, h2⟩ := hv ws e
    simp at hj
    rcases hj with rfl | rfl
    · exact h1
    · exact h2
  · cases q
theorem turn_3 {α : Type} {i j k : Nat} {Γ1 : T → T → T → List (Option T)} {vs : Option (List Nat)} {t : T} {f : T → T → T → Sh α} {K : List (Option T) → List M → α → List M → Prop} (he : ∀ x y z, ((Γ.set i (some x)).set j (some y)).set k (some z) = Γ1 x y z) (hv : ∀ ws, vs = some ws → i ∈ ws ∧ j ∈ ws ∧ k ∈ ws) (h : ∀ x y z μ r μ', f x y z μ = .ok r μ' → K (Γ1 x y z) μ r μ') : TurnS c (gTup c.K 3 (gCons (gName i) (gCons (gName j) (gCons (gName k) gNil)))) Γ vs t (unp3 t f) K := .mk fun μ r μ' q => by
  unfold unp3 at q
  split at q
  · rename_i x y z e
    refine ⟨_, _, gv_dat e (gv_tup (gs_cons gv_name (gs_cons gv_name (gs_cons gv_name gs_nil)))), fun ws e j' hj => ?_, by rw [he]; exact h _ _ _ _ _ _ q⟩
    obtain ⟨h1, h2, h3⟩ := hv ws e
    simp at hj
    rcases hj with rfl | rfl | rfl
    · exact h1
    · exact h2
    · exact h3
  · cases q
/-! ### comprehensions -/
/-- a turn of a comprehension -/
def CtS (c : EN.Ctx) (elt : Expr) (ifs : List Expr) (Γ1 : List (Option T)) (μ : List M) (r : Option D) (μ' : List M) : Prop :=
  ∃ bb μ2, IfsJ c ifs Γ1 μ bb μ2 ∧ (bb = true → ∃ d, r = some d ∧ EvJ c elt Γ1 μ2 (.dat d) μ') ∧ (bb = false → r = none ∧ μ' = μ2)
theorem toD_inv {μ μ' : List M} {r : Option D} (h : toD m μ = .ok r μ') : ∃ t d, r = some d ∧ m μ = .ok t μ' ∧ datOf t μ' = some d := by
  obtain ⟨u, μ1, h1, h⟩ := bnd_inv h
  split at h
  · cases h; exact ⟨_, _, rfl, h1, by assumption⟩
  · cases h
theorem EvJ.datOf {μ μ1 : List M} {t : T} {d : D} (h : EvJ c e Γ μ t μ1) (q : EN.datOf t μ1 = some d) : EvJ c e Γ μ (.dat d) μ1 := by
  intro X g φ π σ H s0 g0 Q qq
  exact h X g φ π σ H s0 g0 _ fun v π1 H1 n1 k1 => qq _ π1 H1 n1 (datOf_ok n1.ok k1 q)
theorem ct_el (he : EvS c e Γ m) : ∀ μ r μ', toD m μ = .ok r μ' → CtS c e [] Γ μ r μ' := fun μ r μ' h => by
  obtain ⟨t, d, rfl, h1, h2⟩ := toD_inv h
  exact ⟨true, μ, ⟨rfl, rfl⟩, fun _ => ⟨d, rfl, (he _ _ _ h1).datOf h2⟩, fun z => nomatch z⟩
theorem ct_if {x : Expr} (hx : TsS c x Γ mt) (he : EvS c e Γ m) : ∀ μ r μ', iff mt (toD m) (ret none) μ = .ok r μ' → CtS c e [x] Γ μ r μ' := fun μ r μ' h => by
  obtain ⟨bb, μ1, h1, h⟩ := bnd_inv h
  cases bb with
  | true =>
    obtain ⟨t, d, rfl, h3, h2⟩ := toD_inv h
    exact ⟨true, μ1, hx _ _ _ h1, fun _ => ⟨d, rfl, (he _ _ _ h3).datOf h2⟩, fun z => nomatch z⟩
  | false =>
    cases h
    exact ⟨false, _, hx _ _ _ h1, (fun z => nomatch z), fun _ => ⟨rfl, rfl⟩⟩
theorem cmp_ok {gt : TG} {elt : Expr} {ifs : List Expr} {vs : List Nat} {F : T → Sh (Option D)} (h : ∀ t, TurnS c gt Γ (some vs) t (F t) (CtS c elt ifs)) : ∀ (its : List T) (μ : List M) (ds : List D) (μ' : List M), cmpS F its μ = .ok ds μ' → CmpJ c gt elt ifs Γ vs its μ ds μ'
  | [], μ, ds, μ', q => by cases q; exact ⟨rfl, rfl⟩
  | t :: ts, μ, ds, μ', q => by
    obtain ⟨r, μ1, h1, q⟩ := bnd_inv q
    obtain ⟨ds', μ2, h2, q⟩ := bnd_inv q
    cases q
    obtain ⟨Γ1, js, hv, hj, bb, μ3, hi, ht, hf⟩ := h t _ _ _ h1
    have ih := cmp_ok h ts _ _ _ h2
    refine ⟨Γ1, js, bb, μ3, hv, hj vs rfl, hi, fun e => ?_, fun e => ?_⟩
    · obtain ⟨d, rfl, k⟩ := ht e
      exact ⟨d, μ1, ds', k, ih, rfl⟩
    · obtain ⟨rfl, rfl⟩ := hf e
      exact ih
theorem sv_comp {elt : Expr} {ifs : List Expr} {scope : Scope} {own : List (Str × Nat)} {gt : TG} {mi : Sh (List T)} {F : T → Sh (Option D)} {Γ1 : List (Option T)} (hi : IterS c tg iter Γ mi) (hb : blkC c.N c.sc scope own = true) (hg : TgJ (c.blk scope) tg gt)
    (hw : wipeG Γ (own.map (·.2)) = Γ1) (hF : ∀ t, TurnS (c.blk scope) gt Γ1 (some (own.map (·.2))) t (F t) (CtS (c.blk scope) elt ifs)) (hs : ∀ env x, foldedSetIterable iter env x = pure x := by intro _ _; rfl) :
    EvS c (.ListComp elt [⟨tg, iter, ifs, 0⟩] scope pos) Γ (compS mi F) := .mk fun μ t μ' h => by
  obtain ⟨its, μ1, h1, h⟩ := bnd_inv h
  split at h
  · rename_i hz
    obtain ⟨ds, μ2, h2, h⟩ := bnd_inv h
    cases h
    subst hw
    exact ev_comp (hi _ _ _ h1) hb hg (cmp_ok hF _ _ _ _ h2) (Nat.le_of_ble_eq_true hz) hs
  · cases h

/-! ### statements -/
def outOf {α β : Type} (g : α → List (Option T)) (gl : β → List (Option T)) (o : Lo α β) (μ : List M) : Out := match o with
  | .nx a => .nx (g a) μ
  | .rt t => .rt t μ
  | .bk b => .bk (gl b) μ
  | .ct b => .ct (gl b) μ
/-- a statement that goes on -/
structure NSt {α : Type} (c : EN.Ctx) (st : Stmt) (Γ : List (Option T)) (g : α → List (Option T)) (m : Sh α) : Prop where
  run : ∀ μ a μ', m μ = .ok a μ' → StJ c st Γ μ (.nx (g a) μ')
instance {α : Type} {c : EN.Ctx} {st : Stmt} {Γ : List (Option T)} {g : α → List (Option T)} {m : Sh α} : CoeFun (NSt c st Γ g m) fun _ => ∀ μ a μ', m μ = .ok a μ' → StJ c st Γ μ (.nx (g a) μ') := ⟨NSt.run⟩
/-- a statement that may end what it stands in -/
structure LSt {α β : Type} (c : EN.Ctx) (st : Stmt) (Γ : List (Option T)) (g : α → List (Option T)) (gl : β → List (Option T)) (m : Sh (Lo α β)) : Prop where
  run : ∀ μ o μ', m μ = .ok o μ' → StJ c st Γ μ (outOf g gl o μ')
instance {α β : Type} {c : EN.Ctx} {st : Stmt} {Γ : List (Option T)} {g : α → List (Option T)} {gl : β → List (Option T)} {m : Sh (Lo α β)} : CoeFun (LSt c st Γ g gl m) fun _ => ∀ μ o μ', m μ = .ok o μ' → StJ c st Γ μ (outOf g gl o μ') := ⟨LSt.run⟩
structure RetS (c : EN.Ctx) (sts : List Stmt) (Γ : List (Option T)) (m : Sh T) : Prop where
  run : ∀ μ t μ', m μ = .ok t μ' → SJ c sts Γ μ (.rt t μ')
instance {c : EN.Ctx} {sts : List Stmt} {Γ : List (Option T)} {m : Sh T} : CoeFun (RetS c sts Γ m) fun _ => ∀ μ t μ', m μ = .ok t μ' → SJ c sts Γ μ (.rt t μ') := ⟨RetS.run⟩
structure NxS {α : Type} (c : EN.Ctx) (sts : List Stmt) (Γ : List (Option T)) (g : α → List (Option T)) (m : Sh α) : Prop where
  run : ∀ μ a μ', m μ = .ok a μ' → SJ c sts Γ μ (.nx (g a) μ')
instance {α : Type} {c : EN.Ctx} {sts : List Stmt} {Γ : List (Option T)} {g : α → List (Option T)} {m : Sh α} : CoeFun (NxS c sts Γ g m) fun _ => ∀ μ a μ', m μ = .ok a μ' → SJ c sts Γ μ (.nx (g a) μ') := ⟨NxS.run⟩
structure BlkS {α β : Type} (c : EN.Ctx) (sts : List Stmt) (Γ : List (Option T)) (g : α → List (Option T)) (gl : β → List (Option T)) (m : Sh (Lo α β)) : Prop where
  run : ∀ μ o μ', m μ = .ok o μ' → SJ c sts Γ μ (outOf g gl o μ')
instance {α β : Type} {c : EN.Ctx} {sts : List Stmt} {Γ : List (Option T)} {g : α → List (Option T)} {gl : β → List (Option T)} {m : Sh (Lo α β)} : CoeFun (BlkS c sts Γ g gl m) fun _ => ∀ μ o μ', m μ = .ok o μ' → SJ c sts Γ μ (outOf g gl o μ') := ⟨BlkS.run⟩
def onR {α β : Type} (f : α → Sh T) (o : Lo α β) : Sh T := match o with
  | .nx a => f a
  | .rt t => ret t
  | _ => stop
def onL {α α' β : Type} (f : α → Sh (Lo α' β)) (o : Lo α β) : Sh (Lo α' β) := match o with
  | .nx a => f a
  | .rt t => ret (.rt t)
  | .bk b => ret (.bk b)
  | .ct b => ret (.ct b)
/-- what a block that never goes on comes to -/
def offL {α α' β : Type} (o : Lo α β) : Sh (Lo α' β) := match o with
  | .nx _ => stop
  | .rt t => ret (.rt t)
  | .bk b => ret (.bk b)
  | .ct b => ret (.ct b)
/-- an own list, an instance: data from here on -/
def frz (x : T) : Sh T := fun μ => match x with
  | .dat d => .ok (.dat d) μ
  | .own i => (match μ[i]? with
    | some (.lst ts) => (match undat ts with
      | some ds => .ok (.dat (.lst ds)) (μ.set i (.frz (.lst ds)))
      | none => .no)
    | some (.frz d) => .ok (.dat d) μ
    | _ => .no)
  | .vls _ _ => .no
section
variable {α β α' : Type} {g : α → List (Option T)} {gl : β → List (Option T)} {g' : α' → List (Option T)}
theorem sv_frz (h : EvS c e Γ m) : EvS c e Γ (bnd m frz) := .mk fun μ t μ' q => by
  obtain ⟨u, μ1, h1, q⟩ := bnd_inv q
  unfold frz at q
  split at q
  · cases q; exact h _ _ _ h1
  · split at q
    · rename_i ts q1
      split at q
      · rename_i ds q2
        cases q
        exact (h _ _ _ h1).frz (by rw [q1, undat_some q2])
      · cases q
    · cases q; exact (h _ _ _ h1).was (by assumption)
    · cases q
  · cases q
theorem rs_stop : RetS c sts Γ stop := .mk fun μ t μ' h => by cases h
theorem ns_stop : NxS c sts Γ g stop := .mk fun μ t μ' h => by cases h
theorem ls_stop : BlkS c sts Γ g gl stop := .mk fun μ t μ' h => by cases h
/-! one statement -/
theorem st_asgS {i : Nat} {x : Str} (h : EvS c e Γ m) (hi : c.N[i]? = some x) (hx : locB c.sc x = true) (hs : isComp e = false := by rfl) (hf : c.sto x = true := by rfl) : NSt c (.Assign [.Name x p] e pos) Γ (fun t => Γ.set i (some t)) m := .mk fun μ t μ' q => st_nm (h _ _ _ q) hi hx hs hf
theorem st_lcS {elt : Expr} {ifs : List Expr} {scope : Scope} {own : List (Str × Nat)} {gt : TG} {mi : Sh (List T)} {F : T → Sh (Option D)} {Γ1 : List (Option T)} {i : Nat} {y : Str} {py spos : Pos} (hi : IterS c tg iter Γ mi) (hy : c.N[i]? = some y) (hyl : c.sc.names.lookup y = some .local) (hb : blkC c.N c.sc scope own = true) (hg : TgJ (c.blk scope) tg gt)
    (hw : wipeG Γ (own.map (·.2)) = Γ1) (hF : ∀ t, TurnS (c.blk scope) gt Γ1 (some (own.map (·.2))) t (F t) (CtS (c.blk scope) elt ifs)) (hll : (py.line == pos.line) = true) (ha : (scope.names.any fun (n, k) => n == y && (k == .local || k == .cell)) = false) (hk : c.sc.kind = .function := by rfl) (hs : ∀ env x, foldedSetIterable iter env x = pure x := by intro _ _; rfl) :
    NSt c (.Assign [.Name y py] (.ListComp elt [⟨tg, iter, ifs, 0⟩] scope pos) spos) Γ (fun t => Γ.set i (some t)) (compS mi F) := .mk fun μ t μ' h => by
  obtain ⟨its, μ1, h1, h⟩ := bnd_inv h
  split at h
  · rename_i hz
    obtain ⟨ds, μ2, h2, h⟩ := bnd_inv h
    cases h
    subst hw
    exact st_setLc (hi _ _ _ h1) hy hyl hk hb hg (cmp_ok hF _ _ _ _ h2) (Nat.le_of_ble_eq_true hz) hll ha hs
  · cases h
theorem st_expS (h : EvS c e Γ m) (hs : isComp e = false := by rfl) : NSt c (.Expr e pos) Γ (fun _ => Γ) m := .mk fun μ t μ' q => st_expr (h _ _ _ q) hs
theorem st_docS {z : Str} {j : Nat} : NSt c (.Expr (.Constant (.str z) j p) pos) Γ (fun _ : Unit => Γ) (ret ()) := .mk fun μ t μ' q => by cases q; exact st_doc
theorem st_passS : NSt c (.Pass pos) Γ (fun _ : Unit => Γ) (ret ()) := .mk fun μ t μ' q => by cases q; exact st_pass
/-! blocks -/
theorem rs_n {f : α → Sh T} {m' : Sh α} (h : NSt c st Γ g m') (h' : ∀ a, RetS c rest (g a) (f a)) : RetS c (st :: rest) Γ (bnd m' f) := .mk fun μ t μ' q => by
  obtain ⟨a, μ1, h1, q⟩ := bnd_inv q
  exact sj_cons (h _ _ _ h1) (h' a _ _ _ q)
theorem ns_n {f : α → Sh α'} {m' : Sh α} (h : NSt c st Γ g m') (h' : ∀ a, NxS c rest (g a) g' (f a)) : NxS c (st :: rest) Γ g' (bnd m' f) := .mk fun μ t μ' q => by
  obtain ⟨a, μ1, h1, q⟩ := bnd_inv q
  exact sj_cons (h _ _ _ h1) (h' a _ _ _ q)
theorem ls_n {f : α → Sh (Lo α' β)} {m' : Sh α} (h : NSt c st Γ g m') (h' : ∀ a, BlkS c rest (g a) g' gl (f a)) : BlkS c (st :: rest) Γ g' gl (bnd m' f) := .mk fun μ t μ' q => by
  obtain ⟨a, μ1, h1, q⟩ := bnd_inv q
  exact sj_cons (h _ _ _ h1) (h' a _ _ _ q)
theorem rs_l {f : α → Sh T} {m' : Sh (Lo α β)} (h : LSt c st Γ g gl m') (h' : ∀ a, RetS c rest (g a) (f a)) : RetS c (st :: rest) Γ (bnd m' (onR f)) := .mk fun μ t μ' q => by
  obtain ⟨o, μ1, h1, q⟩ := bnd_inv q
  cases o with
  | nx a => exact sj_cons (h _ _ _ h1) (h' a _ _ _ q)
  | rt u => cases q; exact sj_stop (h _ _ _ h1)
  | bk b => cases q
  | ct b => cases q
theorem ls_l {f : α → Sh (Lo α' β)} {m' : Sh (Lo α β)} (h : LSt c st Γ g gl m') (h' : ∀ a, BlkS c rest (g a) g' gl (f a)) : BlkS c (st :: rest) Γ g' gl (bnd m' (onL f)) := .mk fun μ t μ' q => by
  obtain ⟨o, μ1, h1, q⟩ := bnd_inv q
  cases o with
  | nx a => exact sj_cons (h _ _ _ h1) (h' a _ _ _ q)
  | rt u => cases q; exact sj_stop (h _ _ _ h1)
  | bk b => cases q; exact sj_stop (h _ _ _ h1)
  | ct b => cases q; exact sj_stop (h _ _ _ h1)
theorem ns_nil {a : α} (hl : LeG (g a) Γ) : NxS c [] Γ g (ret a) := .mk fun μ t μ' q => by
  cases q; exact sj_nil.wk hl
theorem ls_nil {a : α} (hl : LeG (g a) Γ) : BlkS c [] Γ g gl (ret (.nx a)) := .mk fun μ t μ' q => by
  cases q; exact sj_nil.wk hl
theorem rs_ret (h : EvS c e Γ m) : RetS c (.Return (some e) pos :: rest) Γ m := .mk fun μ t μ' q => sj_stop (st_ret (h _ _ _ q))
theorem rs_retN : RetS c (.Return none pos :: rest) Γ (ret .non) := .mk fun μ t μ' q => by cases q; exact sj_stop st_retN
theorem ls_ofR (h : RetS c sts Γ m) : BlkS c sts Γ g gl (bnd m fun t => ret (.rt t)) := .mk fun μ t μ' q => by
  obtain ⟨a, μ1, h1, q⟩ := bnd_inv q
  cases q; exact h _ _ _ h1
theorem ls_ofN {m : Sh α} (h : NxS c sts Γ g m) : BlkS c sts Γ g gl (bnd m fun a => ret (.nx a)) := .mk fun μ t μ' q => by
  obtain ⟨a, μ1, h1, q⟩ := bnd_inv q
  cases q; exact h _ _ _ h1
theorem ls_ct {b : β} (hl : LeG (gl b) Γ) : BlkS c (.Continue pos :: rest) Γ g gl (ret (.ct b)) := .mk fun μ t μ' q => by
  cases q; exact SJ.wkl (sj_stop st_continue) hl
theorem ls_bk {b : β} (hl : LeG (gl b) Γ) : BlkS c (.Break pos :: rest) Γ g gl (ret (.bk b)) := .mk fun μ t μ' q => by
  cases q; exact SJ.wkl (sj_stop st_break) hl
/-! if -/
theorem rs_if (hx : TsS c x Γ mt) (hA : RetS c A Γ ma) (hr : RetS c rest Γ mb) : RetS c (.If x A [] pos :: rest) Γ (iff mt ma mb) := .mk fun μ t μ' q => by
  obtain ⟨r, μ1, h1, q⟩ := bnd_inv q
  cases r with
  | true => exact sj_stop (st_if_t (hx _ _ _ h1) (hA _ _ _ q))
  | false => exact sj_cons (st_if_f (hx _ _ _ h1) sj_nil) (hr _ _ _ q)
theorem rs_ifE (hx : TsS c x Γ mt) (hA : RetS c A Γ ma) (hB : RetS c B Γ mb) : RetS c (.If x A B pos :: rest) Γ (iff mt ma mb) := .mk fun μ t μ' q => by
  obtain ⟨r, μ1, h1, q⟩ := bnd_inv q
  cases r with
  | true => exact sj_stop (st_if_t (hx _ _ _ h1) (hA _ _ _ q))
  | false => exact sj_stop (st_if_f (hx _ _ _ h1) (hB _ _ _ q))
theorem ls_if {mA : Sh (Lo α' β)} {mr : Sh (Lo α β)} (hx : TsS c x Γ mt) (hA : BlkS c A Γ g' gl mA) (hr : BlkS c rest Γ g gl mr) : BlkS c (.If x A [] pos :: rest) Γ g gl (iff mt (bnd mA offL) mr) := .mk fun μ t μ' q => by
  obtain ⟨r, μ1, h1, q⟩ := bnd_inv q
  cases r with
  | true =>
    obtain ⟨o, μ2, h2, q⟩ := bnd_inv q
    have := hA _ _ _ h2
    cases o with
    | nx a => cases q
    | rt u => cases q; exact sj_stop (st_if_t (hx _ _ _ h1) this)
    | bk b => cases q; exact sj_stop (st_if_t (hx _ _ _ h1) this)
    | ct b => cases q; exact sj_stop (st_if_t (hx _ _ _ h1) this)
  | false => exact sj_cons (st_if_f (hx _ _ _ h1) sj_nil) (hr _ _ _ q)
theorem ls_ifR {mr : Sh (Lo α β)} (hx : TsS c x Γ mt) (hA : RetS c A Γ ma) (hr : BlkS c rest Γ g gl mr) : BlkS c (.If x A [] pos :: rest) Γ g gl (iff mt (bnd ma fun t => ret (.rt t)) mr) := .mk fun μ t μ' q => by
  obtain ⟨r, μ1, h1, q⟩ := bnd_inv q
  cases r with
  | true =>
    obtain ⟨o, μ2, h2, q⟩ := bnd_inv q
    cases q
    exact sj_stop (st_if_t (hx _ _ _ h1) (hA _ _ _ h2))
  | false => exact sj_cons (st_if_f (hx _ _ _ h1) sj_nil) (hr _ _ _ q)
theorem nst_if {mA mB : Sh α} (hx : TsS c x Γ mt) (hA : NxS c A Γ g mA) (hB : NxS c B Γ g mB) : NSt c (.If x A B pos) Γ g (iff mt mA mB) := .mk fun μ t μ' q => by
  obtain ⟨r, μ1, h1, q⟩ := bnd_inv q
  cases r with
  | true => exact st_if_t (hx _ _ _ h1) (hA _ _ _ q)
  | false => exact st_if_f (hx _ _ _ h1) (hB _ _ _ q)
theorem lst_if {mA mB : Sh (Lo α β)} (hx : TsS c x Γ mt) (hA : BlkS c A Γ g gl mA) (hB : BlkS c B Γ g gl mB) : LSt c (.If x A B pos) Γ g gl (iff mt mA mB) := .mk fun μ t μ' q => by
  obtain ⟨r, μ1, h1, q⟩ := bnd_inv q
  cases r with
  | true => exact st_if_t (hx _ _ _ h1) (hA _ _ _ q)
  | false => exact st_if_f (hx _ _ _ h1) (hB _ _ _ q)
/-! for -/
abbrev KN (c : EN.Ctx) (body : List Stmt) (g : α → List (Option T)) (Γ1 : List (Option T)) (μ : List M) (a : α) (μ' : List M) : Prop := SJ c body Γ1 μ (.nx (g a) μ')
abbrev KL (c : EN.Ctx) (body : List Stmt) (g : α → List (Option T)) (Γ1 : List (Option T)) (μ : List M) (o : Lo α α) (μ' : List M) : Prop := SJ c body Γ1 μ (outOf g g o μ')
theorem forN_loop {gt : TG} {F : T → α → Sh α} (h : ∀ t a, TurnS c gt (g a) none t (F t a) (KN c body g)) : ∀ (its : List T) (a : α) (μ : List M) (r : α) (μ' : List M), forN F its a μ = .ok r μ' → LoopJ c gt body its (g a) μ (.nx (g r) μ')
  | [], a, μ, r, μ', q => by cases q; rfl
  | t :: ts, a, μ, r, μ', q => by
    obtain ⟨b, μ1, h1, q⟩ := bnd_inv q
    obtain ⟨Γ1, js, hv, _, hb⟩ := h t a _ _ _ h1
    exact ⟨Γ1, js, hv, _, hb, forN_loop h ts b _ _ _ q⟩
theorem forL_loop {gt : TG} {F : T → α → Sh (Lo α α)} (h : ∀ t a, TurnS c gt (g a) none t (F t a) (KL c body g)) {gl : Empty → List (Option T)} : ∀ (its : List T) (a : α) (μ : List M) (r : Lo α Empty) (μ' : List M), forL F its a μ = .ok r μ' → LoopJ c gt body its (g a) μ (outOf g gl r μ')
  | [], a, μ, r, μ', q => by cases q; rfl
  | t :: ts, a, μ, r, μ', q => by
    obtain ⟨b, μ1, h1, q⟩ := bnd_inv q
    obtain ⟨Γ1, js, hv, _, hb⟩ := h t a _ _ _ h1
    refine ⟨Γ1, js, hv, _, hb, ?_⟩
    cases b with
    | nx b => exact forL_loop h ts b _ _ _ q
    | ct b => exact forL_loop h ts b _ _ _ q
    | bk b => cases q; rfl
    | rt u => cases q; rfl
theorem st_forW {gt : TG} {its : List T} {μ μ1 : List M} {o : Out} (hi : IterJ c tg iter Γ μ its μ1) (hg : TgJ c tg gt) (hl : LoopJ c gt body its Γ' μ1 o) (hw : LeG Γ' Γ) (hs : ∀ env x, foldedSetIterable iter env x = pure x := by intro _ _; rfl) : StJ c (.For tg iter body [] pos) Γ μ o := by
  intro X g φ π σ H s0 g0 D q
  obtain ⟨wi, hpi, oki⟩ := hi X g
  refine toS (ps_for g.pass g.calm hpi (hg X g) pss_sem (hs X.env)) ?_
  refine oki φ π σ H s0 g0 _ fun J π1 H1 n1 wk => ?_
  refine ⟨fun i m σ' H' => m = its.length - i ∧ i ≤ its.length ∧ ∃ π2 Γ2 μ2, Nxt X.K φ π1 H1 μ1 π2 H' μ2 ∧ FOk X.K π2 (hd φ π2 μ2 H') Γ2 σ' ∧ LoopJ c gt body (its.drop i) Γ2 μ2 o, ⟨its.length, by simp, by simp, π1, Γ', μ1, Nxt.refl n1.ok, hw.fok (g0.nx n1), hl⟩, ?_⟩
  rintro i m σ' H' ⟨rfl, hle, π2, Γ2, μ2, n2, f2, l2⟩
  obtain ⟨w1, w2⟩ := wk i φ π2 H' μ2 n2.ok n2.ext n2.le
  by_cases hlt : i < its.length
  · have hd' : its.drop i = its[i] :: its.drop (i + 1) := List.drop_eq_getElem_cons hlt
    rw [hd'] at l2
    obtain ⟨Γ3, js, hv, o1, hb, l3⟩ := l2
    obtain ⟨go, yl⟩ := w1 its[i] (List.getElem?_eq_getElem hlt)
    refine .inr ⟨go, fun σ4 H4 => ∃ m', m' < its.length - i ∧ (m' = its.length - (i + 1) ∧ i + 1 ≤ its.length ∧ ∃ π2 Γ2 μ2, Nxt X.K φ π1 H1 μ1 π2 H4 μ2 ∧ FOk X.K π2 (hd φ π2 μ2 H4) Γ2 σ4 ∧ LoopJ c gt body (its.drop (i + 1)) Γ2 μ2 o), fun σ4 H4 h4 => h4, fun x H3 hx => ?_⟩
    obtain ⟨n3, k3⟩ := yl x H3 hx
    have f3 := f2.nx n3
    have s3 := n3.ok
    rw [g.K] at f3 s3 k3
    refine hv φ π2 σ' H3 x s3 f3 k3 _ fun σ5 f5 _ => ?_
    rw [← g.K] at f5 s3
    refine hb X g φ π2 σ5 H3 n3.ok f5 _ ?_
    cases o1 with
    | nx Γ4 μ4 => exact fun σ6 π6 H6 n6 f6 => ⟨_, by omega, rfl, hlt, π6, Γ4, μ4, (n2.trans n3).trans n6, f6, l3⟩
    | ct Γ4 μ4 => exact fun σ6 π6 H6 n6 f6 => ⟨_, by omega, rfl, hlt, π6, Γ4, μ4, (n2.trans n3).trans n6, f6, l3⟩
    | bk Γ4 μ4 =>
      have l3 : o = .nx Γ4 μ4 := l3
      subst l3
      exact fun σ6 π6 H6 n6 f6 => q σ6 π6 H6 (((n1.trans n2).trans n3).trans n6) f6
    | rt u μ4 =>
      have l3 : o = .rt u μ4 := l3
      subst l3
      exact fun v π6 H6 n6 f6 => q v π6 H6 (((n1.trans n2).trans n3).trans n6) f6
  · have e : i = its.length := by omega
    subst e
    rw [List.drop_length] at l2
    have l2 : o = .nx Γ2 μ2 := l2
    subst l2
    exact .inl ⟨w2 (Nat.le_refl _), q σ' π2 H' (n1.trans n2) f2⟩
theorem nst_for {gt : TG} {mi : Sh (List T)} {F : T → α → Sh α} {a0 : α} (hi : IterS c tg iter Γ mi) (hg : TgJ c tg gt) (hw : LeG (g a0) Γ) (h : ∀ t a, TurnS c gt (g a) none t (F t a) (KN c body g)) (hs : ∀ env x, foldedSetIterable iter env x = pure x := by intro _ _; rfl) :
    NSt c (.For tg iter body [] pos) Γ g (bnd mi fun its => forN F its a0) := .mk fun μ r μ' q => by
  obtain ⟨its, μ1, h1, q⟩ := bnd_inv q
  exact st_forW (hi _ _ _ h1) hg (forN_loop h _ _ _ _ _ q) hw hs
theorem lst_for {gt : TG} {mi : Sh (List T)} {F : T → α → Sh (Lo α α)} {a0 : α} {gl : Empty → List (Option T)} (hi : IterS c tg iter Γ mi) (hg : TgJ c tg gt) (hw : LeG (g a0) Γ) (h : ∀ t a, TurnS c gt (g a) none t (F t a) (KL c body g)) (hs : ∀ env x, foldedSetIterable iter env x = pure x := by intro _ _; rfl) :
    LSt c (.For tg iter body [] pos) Γ g gl (bnd mi fun its => forL F its a0) := .mk fun μ r μ' q => by
  obtain ⟨its, μ1, h1, q⟩ := bnd_inv q
  exact st_forW (hi _ _ _ h1) hg (forL_loop h _ _ _ _ _ q) hw hs
/-! while -/
theorem whN_loop {C : α → Sh Bool} {F : α → Sh α} (hC : ∀ a, TsS c x (g a) (C a)) (hF : ∀ a, NxS c body (g a) g (F a)) : ∀ (k : Nat) (a : α) (μ : List M) (r : α) (μ' : List M), whN C F k a μ = .ok r μ' → ∃ j, WhJ c x body j (g a) μ (.nx (g r) μ')
  | 0, a, μ, r, μ', q => by cases q
  | k + 1, a, μ, r, μ', q => by
    obtain ⟨b, μ1, h1, q⟩ := bnd_inv q
    cases b with
    | true =>
      obtain ⟨a2, μ2, h2, q⟩ := bnd_inv q
      obtain ⟨j, w⟩ := whN_loop hC hF k a2 μ2 r μ' q
      exact ⟨_, .more (hC a _ _ _ h1) (hF a _ _ _ h2) w⟩
    | false => cases q; exact ⟨_, .done (hC a _ _ _ h1)⟩
theorem whL_loop {C : α → Sh Bool} {F : α → Sh (Lo α α)} {gl : Empty → List (Option T)} (hC : ∀ a, TsS c x (g a) (C a)) (hF : ∀ a, BlkS c body (g a) g g (F a)) : ∀ (k : Nat) (a : α) (μ : List M) (r : Lo α Empty) (μ' : List M), whL C F k a μ = .ok r μ' → ∃ j, WhJ c x body j (g a) μ (outOf g gl r μ')
  | 0, a, μ, r, μ', q => by cases q
  | k + 1, a, μ, r, μ', q => by
    obtain ⟨b, μ1, h1, q⟩ := bnd_inv q
    cases b with
    | true =>
      obtain ⟨o, μ2, h2, q⟩ := bnd_inv q
      have hb := hF a _ _ _ h2
      cases o with
      | nx a2 =>
        obtain ⟨j, w⟩ := whL_loop hC hF k a2 μ2 r μ' q
        exact ⟨_, .more (hC a _ _ _ h1) hb w⟩
      | ct a2 =>
        obtain ⟨j, w⟩ := whL_loop hC hF k a2 μ2 r μ' q
        exact ⟨_, .cont (hC a _ _ _ h1) hb w⟩
      | bk a2 => cases q; exact ⟨_, .brk (hC a _ _ _ h1) hb⟩
      | rt u => cases q; exact ⟨_, .ret (hC a _ _ _ h1) hb⟩
    | false => cases q; exact ⟨_, .done (hC a _ _ _ h1)⟩
theorem nst_wh {C : α → Sh Bool} {F : α → Sh α} {k : Nat} {a0 : α} (hw : LeG (g a0) Γ) (hC : ∀ a, TsS c x (g a) (C a)) (hF : ∀ a, NxS c body (g a) g (F a)) : NSt c (.While x body [] pos) Γ g (whN C F k a0) := .mk fun μ r μ' q => by
  exact StJ.wkl (st_while (whN_loop hC hF _ _ _ _ _ q)) hw
theorem lst_wh {C : α → Sh Bool} {F : α → Sh (Lo α α)} {k : Nat} {a0 : α} {gl : Empty → List (Option T)} (hw : LeG (g a0) Γ) (hC : ∀ a, TsS c x (g a) (C a)) (hF : ∀ a, BlkS c body (g a) g g (F a)) : LSt c (.While x body [] pos) Γ g gl (whL C F k a0) := .mk fun μ r μ' q => by
  exact StJ.wkl (st_while (whL_loop hC hF _ _ _ _ _ q)) hw
end
end
/-! ### defs -/
/-- nothing told at the end: None -/
def unitR {α : Type} (m : Sh α) : Sh T := bnd m fun _ => ret .non
def allDat : List T → Bool
  | [] => true
  | .dat _ :: ts => allDat ts
  | _ :: _ => false
@[simp] theorem allDat_nil : allDat [] = true := rfl
@[simp] theorem allDat_dat (d : D) (ts : List T) : allDat (.dat d :: ts) = allDat ts := rfl
@[simp] theorem allDat_own (d : Nat) (ts : List T) : allDat (.own d :: ts) = false := rfl
theorem allDat_some : ∀ {ts : List T}, allDat ts = true → ∃ ds, ts = dats ds
  | [], _ => ⟨[], rfl⟩
  | .dat d :: ts, h => by
    obtain ⟨ds, rfl⟩ := allDat_some (ts := ts) h
    exact ⟨d :: ds, rfl⟩
  | .own _ :: _, h => by cases h
  | .vls _ _ :: _, h => by cases h
open Classical in
/-- a call: with data alone it is looked at by itself -/
noncomputable def atCall (ts : List T) (m : Sh T) : Sh T := fun μ => if allDat ts then (match m [] with
    | .ok (.dat d) _ => .ok (.dat d) μ
    | .ok (.own i) μ' => (match μ'[i]? with
      | some (.lst us) => (match undat us with
        | some ds => .ok (.own μ.length) (μ ++ [.lst (dats ds)])
        | none => .no)
      | _ => .no)
    | _ => .no)
  else (match m μ with
    | .ok (.dat d) μ' => if μ'.length ≤ μ.length then .ok (.dat d) μ' else if Inb μ → Inb (μ'.take μ.length) then .ok (.dat d) (μ'.take μ.length) else .no
    | r => r)
/-- what was shown over no store holds over each -/
theorem CallJ.frame {G : Gc} {k : Nat} {at_ : Str × Option Str} {es : List D} {dts : List D} {d : D} (h : CallJ G k at_ (dats es) dts [] (.dat d) []) (μ : List M) : CallJ G k at_ (dats es) dts μ (.dat d) μ := by
  obtain ⟨fd, ps, dvs, ds, h1, h2, h3, h4, h5⟩ := h
  refine ⟨fd, ps, dvs, ds, h1, h2, h3, h4, ?_⟩
  have key : ∀ vs H Q E, spJ G.K (dats es ++ dats dts) μ (.dat d) μ vs H Q E → spJ G.K (dats es ++ dats dts) [] (.dat d) [] vs H Q E := by
    rintro vs H Q E ⟨φ, π, s, l, q⟩
    have e0 : ∀ H', hd (φ ++ hds π μ) [] [] H' = hd φ π μ H' := fun H' => by
      funext b
      simp [hd, hds]
    refine ⟨φ ++ hds π μ, [], ⟨fun a ha => ⟨by simp, ?_⟩, rfl, List.nodup_nil, fun i a m hh => by cases hh⟩, ?_, fun v π' H' n kk => ?_⟩
    · rcases List.mem_append.mp ha with ha | ha
      · exact (s.fr a ha).2
      · exact s.hdAt ha
    · rw [e0]
      have hl : (dats es ++ dats dts) = dats (es ++ dts) := by simp [dats]
      rw [hl] at l ⊢
      exact l.dt.tl
    · have hl : π' = [] := List.length_eq_zero_iff.mp n.ok.len
      subst hl
      have le := n.le
      have sm := n.same
      rw [e0, e0] at le
      refine q v π H' ⟨⟨[], by simp⟩, ⟨fun a ha => ⟨(s.fr a ha).1, by rw [sm a (List.mem_append_left _ ha)]; exact (s.fr a ha).2⟩, s.len, s.nd, fun i a m q1 q2 => ?_⟩, fun a ha => sm a (List.mem_append_left _ ha), le⟩ ?_
      · exact (s.obj i a m q1 q2).mono ⟨[], by simp⟩ le fun hf => sm a (List.mem_append_right _ (hds_mem q1 q2 hf))
      · show Dt G.K _ d v
        rw [← e0]
        exact kk
  exact h5.imp key
/-- .. and a list of its own that it told -/
theorem CallJ.frameO {G : Gc} {k : Nat} {at_ : Str × Option Str} {es : List D} {dts : List D} {i : Nat} {μ' : List M} {ds : List D} (h : CallJ G k at_ (dats es) dts [] (.own i) μ') (hi : μ'[i]? = some (.lst (dats ds))) (μ : List M) : CallJ G k at_ (dats es) dts μ (.own μ.length) (μ ++ [.lst (dats ds)]) := by
  obtain ⟨fd, ps, dvs, dds, h1, h2, h3, h4, h5⟩ := h
  refine ⟨fd, ps, dvs, dds, h1, h2, h3, h4, ?_⟩
  have key : ∀ vs H Q E, spJ G.K (dats es ++ dats dts) μ (.own μ.length) (μ ++ [.lst (dats ds)]) vs H Q E → spJ G.K (dats es ++ dats dts) [] (.own i) μ' vs H Q E := by
    rintro vs H Q E ⟨φ, π, s, l, q⟩
    have e0 : ∀ H', hd (φ ++ hds π μ) [] [] H' = hd φ π μ H' := fun H' => by
      funext b
      simp [hd, hds]
    refine ⟨φ ++ hds π μ, [], ⟨fun a ha => ⟨by simp, ?_⟩, rfl, List.nodup_nil, fun i a m hh => by cases hh⟩, ?_, fun v π' H' n kk => ?_⟩
    · rcases List.mem_append.mp ha with ha | ha
      · exact (s.fr a ha).2
      · exact s.hdAt ha
    · rw [e0]
      have hl : (dats es ++ dats dts) = dats (es ++ dts) := by simp [dats]
      rw [hl] at l ⊢
      exact l.dt.tl
    · obtain ⟨a, ha, rfl⟩ := kk
      have s' := n.ok
      have le := n.le
      have sm := n.same
      rw [e0] at le
      obtain ⟨ws, hw, htl⟩ := s'.obj i a _ ha hi
      have amem : a ∈ hds π' μ' := hds_mem ha hi rfl
      have aπ : a ∉ π := fun z => by
        obtain ⟨j, hj⟩ := List.getElem?_of_mem z
        have hjl : j < μ.length := by rw [← s.len]; exact (List.getElem?_eq_some_iff.mp hj).1
        have hm : μ[j]? = some μ[j] := List.getElem?_eq_getElem hjl
        cases hf : (μ[j]).isFrz with
        | false => exact (s'.fr a (List.mem_append_right _ (hds_mem hj hm hf))).1 (List.mem_of_getElem? ha)
        | true =>
          have ho := s.obj j a _ hj hm
          cases hmj : μ[j] with
          | frz d =>
            rw [hmj] at ho
            obtain ⟨o, ho⟩ := ho.1
            have := le a o ho
            unfold hd at this
            rw [if_pos (List.mem_append_right _ amem)] at this
            cases this
          | lst _ => rw [hmj] at hf; cases hf
          | dic _ => rw [hmj] at hf; cases hf
          | ins _ _ => rw [hmj] at hf; cases hf
      have eh : hds (π ++ [a]) (μ ++ [M.lst (dats ds)]) = hds π μ ++ [a] := by rw [hds_append s.len]; rfl
      have le2 : Ex (hd (φ ++ hds π μ) π' μ' H') (hd φ (π ++ [a]) (μ ++ [.lst (dats ds)]) H') := fun b o e => by
        unfold hd at e ⊢
        split at e
        · cases e
        · rename_i hn
          rw [eh, if_neg fun z => hn ?_]
          · exact e
          · rcases List.mem_append.mp z with z | z
            · exact List.mem_append_left _ (List.mem_append_left _ z)
            · rcases List.mem_append.mp z with z | z
              · exact List.mem_append_left _ (List.mem_append_right _ z)
              · rw [List.mem_singleton.mp z]; exact List.mem_append_right _ amem
      refine q _ (π ++ [a]) H' ⟨⟨[a], rfl⟩, ⟨fun b hb => ⟨?_, (s'.fr b (List.mem_append_left _ hb)).2⟩, by simp [s.len], ?_, fun j b m q1 q2 => ?_⟩, fun b hb => sm b (List.mem_append_left _ hb), le.tr le2⟩ ⟨a, by rw [← s.len]; simp, rfl⟩
      · intro z
        rcases List.mem_append.mp z with z | z
        · exact (s.fr b hb).1 z
        · rw [List.mem_singleton.mp z] at hb
          exact (s'.fr a (List.mem_append_left _ hb)).1 (List.mem_of_getElem? ha)
      · rw [List.nodup_append]
        exact ⟨s.nd, by simp, fun x hx y hy => by rw [List.mem_singleton.mp hy]; intro z; exact aπ (z ▸ hx)⟩
      · by_cases hj : j < π.length
        · rw [List.getElem?_append_left hj] at q1
          rw [List.getElem?_append_left (by rw [← s.len]; exact hj)] at q2
          exact (s.obj j b m q1 q2).mono ⟨[a], rfl⟩ (le.tr le2) fun hf => sm b (List.mem_append_right _ (hds_mem q1 q2 hf))
        · have hl : j = π.length := by
            have := (List.getElem?_eq_some_iff.mp q1).1
            simp at this; omega
          subst hl
          rw [List.getElem?_concat_length] at q1
          rw [s.len, List.getElem?_concat_length] at q2
          cases q1; cases q2
          exact ⟨ws, hw, (DtL.mono le2 htl.dt).tl⟩
  exact h5.imp key
/-- a def's shallow form -/
def DefS (G : Gc) (k : Nat) (d : He.DefD) (ps : List Str) (us : List T) (m : Sh T) : Prop := ∀ (ts : List T) (dts : List D), ts ++ dats dts = us → DefBinds G d ps dts → ∀ μ t μ', m μ = .ok t μ' → CallJ G k d.at_ ts dts μ t μ'
theorem defS_ret {G : Gc} {k : Nat} {d : He.DefD} {N ps : List Str} {us : List T} {m : Sh T} {Γ : List (Option T)} (hD : HasDef G d) (S : FnScope N ps d.scope) (hl : us.length = ps.length) (hg : g0 N us = Γ) (h : RetS (bodyC G N d k) d.body Γ m) : DefS G (k + 1) d ps us m := fun ts dts e hb μ t μ' q => by
  subst e
  subst hg
  exact call_body hD S hb hl (o := .rt _ _) (h _ _ _ q) ⟨rfl, rfl⟩
theorem defS_nx {G : Gc} {k : Nat} {d : He.DefD} {N ps : List Str} {us : List T} {α : Type} {m : Sh α} {g : α → List (Option T)} {Γ : List (Option T)} (hD : HasDef G d) (S : FnScope N ps d.scope) (hl : us.length = ps.length) (hg : g0 N us = Γ) (h : NxS (bodyC G N d k) d.body Γ g m) : DefS G (k + 1) d ps us (unitR m) := fun ts dts e hb μ t μ' q => by
  subst e
  subst hg
  obtain ⟨a, μ1, h1, q⟩ := bnd_inv q
  cases q
  exact call_body hD S hb hl (o := .nx _ _) (h _ _ _ h1) ⟨rfl, rfl⟩
theorem defS_l {G : Gc} {k : Nat} {d : He.DefD} {N ps : List Str} {us : List T} {α β : Type} {m : Sh (Lo α β)} {g : α → List (Option T)} {gl : β → List (Option T)} {Γ : List (Option T)} (hD : HasDef G d) (S : FnScope N ps d.scope) (hl : us.length = ps.length) (hg : g0 N us = Γ) (h : BlkS (bodyC G N d k) d.body Γ g gl m) : DefS G (k + 1) d ps us (bnd m (onR fun _ => ret .non)) := fun ts dts e hb μ t μ' q => by
  subst e
  subst hg
  obtain ⟨o, μ1, h1, q⟩ := bnd_inv q
  cases o with
  | nx a => cases q; exact call_body hD S hb hl (o := .nx _ _) (h _ _ _ h1) ⟨rfl, rfl⟩
  | rt u => cases q; exact call_body hD S hb hl (o := .rt _ _) (h _ _ _ h1) ⟨rfl, rfl⟩
  | bk b => cases q
  | ct b => cases q
theorem DefS.at {G : Gc} {k : Nat} {d : He.DefD} {ps : List Str} {us : List T} {m : Sh T} (h : DefS G k d ps us m) : DefS G k d ps us (atCall us m) := fun ts dts e hb μ t μ' q => by
  unfold atCall at q
  split at q
  · rename_i ha
    obtain ⟨ds, hds⟩ := allDat_some ha
    split at q
    · rename_i d' μ1 h1
      cases q
      have h2 := h ts dts e hb _ _ _ h1
      have h3 := h2.drop (μ2 := μ1) (μ1 := []) trivial (fun _ m hm => nomatch hm) (Nat.le_refl _)
      have : ∃ es, ts = dats es := by
        rw [← e] at hds
        exact ⟨ds.take ts.length, by
          have := congrArg (List.take ts.length) hds
          simp [dats] at this ⊢
          exact this⟩
      obtain ⟨es, rfl⟩ := this
      exact h3.frame μ
    · rename_i i μ1 h1
      split at q
      · rename_i us hus
        split at q
        · rename_i ds2 hu
          cases q
          have h2 := h ts dts e hb _ _ _ h1
          rw [undat_some hu] at hus
          have : ∃ es, ts = dats es := by
            rw [← e] at hds
            exact ⟨ds.take ts.length, by
              have := congrArg (List.take ts.length) hds
              simp [dats] at this ⊢
              exact this⟩
          obtain ⟨es, rfl⟩ := this
          exact h2.frameO hus μ
        · cases q
      · cases q
    · cases q
  · split at q
    · rename_i d' μ1 h1
      have h2 := h ts dts e hb _ _ _ h1
      split at q
      · cases q; exact h2
      · rename_i hlen
        split at q
        · rename_i hI
          cases q
          refine CallJ.drop (μ2 := μ1.drop μ.length) ?_ trivial hI ?_
          · rw [List.take_append_drop]; exact h2
          · rw [List.length_take]; omega
        · cases q
    · exact h ts dts e hb _ _ _ q
end EN
/-! The table of defs, the law's end. -/
namespace EN
open PySem PySem.Spec PyProof.Rows L2

inductive F2 {α β : Type} (P : α → β → Prop) : List α → List β → Prop
  | nil : F2 P [] []
  | cons {x : α} {y : β} {xs : List α} {ys : List β} (h : P x y) (t : F2 P xs ys) : F2 P (x :: xs) (y :: ys)
theorem F2.get {α β : Type} {P : α → β → Prop} {xs : List α} {ys : List β} (h : F2 P xs ys) : ∀ {i : Nat} {x : α} {y : β}, xs[i]? = some x → ys[i]? = some y → P x y := by
  induction h with
  | nil => intro i x y e; simp at e
  | cons q _ ih =>
    intro i x y e1 e2
    cases i with
    | zero => simp at e1 e2; subst e1; subst e2; exact q
    | succ i => exact ih (i := i) (by simpa using e1) (by simpa using e2)
noncomputable def ar0 (f : Sh T) (us : List T) : Sh T := match us with
  | [] => atCall [] f
  | _ => stop
noncomputable def ar1 (f : T → Sh T) (us : List T) : Sh T := match us with
  | [a] => atCall [a] (f a)
  | _ => stop
noncomputable def ar2 (f : T → T → Sh T) (us : List T) : Sh T := match us with
  | [a, b] => atCall [a, b] (f a b)
  | _ => stop
noncomputable def ar3 (f : T → T → T → Sh T) (us : List T) : Sh T := match us with
  | [a, b, c] => atCall [a, b, c] (f a b c)
  | _ => stop
noncomputable def ar4 (f : T → T → T → T → Sh T) (us : List T) : Sh T := match us with
  | [a, b, c, d] => atCall [a, b, c, d] (f a b c d)
  | _ => stop
noncomputable def ar5 (f : T → T → T → T → T → Sh T) (us : List T) : Sh T := match us with
  | [a, b, c, d, e] => atCall [a, b, c, d, e] (f a b c d e)
  | _ => stop
noncomputable def ar6 (f : T → T → T → T → T → T → Sh T) (us : List T) : Sh T := match us with
  | [a, b, c, d, e, g] => atCall [a, b, c, d, e, g] (f a b c d e g)
  | _ => stop
noncomputable def ar7 (f : T → T → T → T → T → T → T → Sh T) (us : List T) : Sh T := match us with
  | [a, b, c, d, e, g, h] => atCall [a, b, c, d, e, g, h] (f a b c d e g h)
  | _ => stop
section
variable {G : Gc} {k : Nat} {d : He.DefD} {ps : List Str}
theorem DefS.stop {us : List T} : DefS G k d ps us stop := fun ts dts e hb μ t μ' q => by cases q
abbrev RowOk (G : Gc) (k : Nat) (f : List T → Sh T) (dp : He.DefD × List Str) : Prop := ∀ us, DefS G k dp.1 dp.2 us (f us)
theorem row0 {f : Sh T} (h : DefS G k d ps [] f) : RowOk G k (ar0 f) (d, ps) := fun us => by
  unfold ar0; split
  · exact h.at
  · exact DefS.stop
theorem row1 {f : T → Sh T} (h : ∀ a, DefS G k d ps [a] (f a)) : RowOk G k (ar1 f) (d, ps) := fun us => by
  unfold ar1; split
  · exact (h _).at
  · exact DefS.stop
theorem row2 {f : T → T → Sh T} (h : ∀ a b, DefS G k d ps [a, b] (f a b)) : RowOk G k (ar2 f) (d, ps) := fun us => by
  unfold ar2; split
  · exact (h _ _).at
  · exact DefS.stop
theorem row3 {f : T → T → T → Sh T} (h : ∀ a b c, DefS G k d ps [a, b, c] (f a b c)) : RowOk G k (ar3 f) (d, ps) := fun us => by
  unfold ar3; split
  · exact (h _ _ _).at
  · exact DefS.stop
theorem row4 {f : T → T → T → T → Sh T} (h : ∀ a b c e, DefS G k d ps [a, b, c, e] (f a b c e)) : RowOk G k (ar4 f) (d, ps) := fun us => by
  unfold ar4; split
  · exact (h _ _ _ _).at
  · exact DefS.stop
theorem row5 {f : T → T → T → T → T → Sh T} (h : ∀ a b c e g, DefS G k d ps [a, b, c, e, g] (f a b c e g)) : RowOk G k (ar5 f) (d, ps) := fun us => by
  unfold ar5; split
  · exact (h _ _ _ _ _).at
  · exact DefS.stop
theorem row6 {f : T → T → T → T → T → T → Sh T} (h : ∀ a b c e g i, DefS G k d ps [a, b, c, e, g, i] (f a b c e g i)) : RowOk G k (ar6 f) (d, ps) := fun us => by
  unfold ar6; split
  · exact (h _ _ _ _ _ _).at
  · exact DefS.stop
theorem row7 {f : T → T → T → T → T → T → T → Sh T} (h : ∀ a b c e g i j, DefS G k d ps [a, b, c, e, g, i, j] (f a b c e g i j)) : RowOk G k (ar7 f) (d, ps) := fun us => by
  unfold ar7; split
  · exact (h _ _ _ _ _ _ _).at
  · exact DefS.stop
end
inductive FA {α : Type} (P : α → Prop) : List α → Prop
  | nil : FA P []
  | cons {x : α} {xs : List α} (h : P x) (t : FA P xs) : FA P (x :: xs)
theorem FA.get {α : Type} {P : α → Prop} {xs : List α} (h : FA P xs) : ∀ {i : Nat} {x : α}, xs[i]? = some x → P x := by
  induction h with
  | nil => intro i x e; simp at e
  | cons q _ ih =>
    intro i x e1
    cases i with
    | zero => simp at e1; subst e1; exact q
    | succ i => exact ih (i := i) (by simpa using e1)
theorem tab_of {G : Gc} {tb : Tab} {h : Heap} (X : G.K.In h) (M : h.Ns mainGlobals G.mg) (hf : (tb.fa.all fun f => f.ok G.K) = true) (h1 : (tb.isi.all fun e => eqOB (PySem.W.kitOne G.K (.ref (He.ga G.K e.1)) (.ref (He.ga G.K e.2.1))) (some e.2.2)) = true) (h2 : (tb.isk.all fun x => insB G.K x) = true)
    (h3 : FA (fun dp => DefBinds G dp.1 dp.2 []) tb.fn) : TabOk G tb where
  in_ := ⟨h, X, M⟩
  fa := fun f hm => List.all_eq_true.mp hf f hm
  isi := fun e hm => List.all_eq_true.mp h1 e hm
  isk := fun e hm => List.all_eq_true.mp h2 e hm
  bn := fun i d ps e => h3.get e
theorem hk0 {n : Nat} : Nat.ble n (n + 1) = true := Nat.ble_eq_true_of_le (Nat.le_succ n)
theorem hk1 {n : Nat} : Nat.ble (n + 1) (n + 1) = true := Nat.ble_eq_true_of_le (Nat.le_refl _)
/-- the oracle of a table, to a depth -/
noncomputable def callOf (tbl : Orc → List (List T → Sh T)) : Nat → Orc
  | 0 => fun _ _ => stop
  | n + 1 => fun i us => match (tbl (callOf tbl n))[i]? with
    | some f => f us
    | none => stop
theorem callOf_ok {G : Gc} {tb : Tab} {tbl : Orc → List (List T → Sh T)} (h : ∀ n call, OrcOk G n tb call → F2 (RowOk G (n + 2)) (tbl call) tb.fn) : ∀ n, OrcOk G (2 * n) tb (callOf tbl n)
  | 0 => fun i d ps hi ts dts hb μ t μ' q => by cases q
  | n + 1 => fun i d ps hi ts dts hb μ t μ' q => by
    have ih := h (2 * n) _ (callOf_ok h n)
    have q2 : (match (tbl (callOf tbl n))[i]? with
      | some f => f (ts ++ dats dts)
      | none => stop) μ = .ok t μ' := q
    cases hf : (tbl (callOf tbl n))[i]? with
    | some f =>
      rw [hf] at q2
      exact ih.get hf hi (ts ++ dats dts) ts dts rfl hb _ _ _ q2
    | none => rw [hf] at q2; cases q2
/-- assignments with the frame told -/
theorem st_asgG {c : EN.Ctx} {e : Expr} {Γ : List (Option T)} {m : Sh T} {p pos : Pos} {i : Nat} {x : Str} {g : T → List (Option T)} (h : EvS c e Γ m) (hi : c.N[i]? = some x) (hx : locB c.sc x = true) (he : ∀ t, Γ.set i (some t) = g t) (hs : isComp e = false := by rfl) (hf : c.sto x = true := by rfl) : NSt c (.Assign [.Name x p] e pos) Γ g m := .mk fun μ t μ' q => by
  have := st_asgS (p := p) (pos := pos) h hi hx hs hf μ t μ' q
  exact he t ▸ this
theorem st_lcG {c : EN.Ctx} {tg iter elt : Expr} {Γ : List (Option T)} {pos : Pos} {ifs : List Expr} {scope : Scope} {own : List (Str × Nat)} {gt : TG} {mi : Sh (List T)} {F : T → Sh (Option D)} {Γ1 : List (Option T)} {g : T → List (Option T)} {i : Nat} {y : Str} {py spos : Pos} (hi : IterS c tg iter Γ mi) (hy : c.N[i]? = some y) (hyl : c.sc.names.lookup y = some .local) (hb : blkC c.N c.sc scope own = true) (hg : TgJ (c.blk scope) tg gt)
    (hw : wipeG Γ (own.map (·.2)) = Γ1) (hF : ∀ t, TurnS (c.blk scope) gt Γ1 (some (own.map (·.2))) t (F t) (CtS (c.blk scope) elt ifs)) (hll : (py.line == pos.line) = true) (ha : (scope.names.any fun (n, k) => n == y && (k == .local || k == .cell)) = false) (he : ∀ t, Γ.set i (some t) = g t) (hk : c.sc.kind = .function := by rfl) (hs : ∀ env x, foldedSetIterable iter env x = pure x := by intro _ _; rfl) :
    NSt c (.Assign [.Name y py] (.ListComp elt [⟨tg, iter, ifs, 0⟩] scope pos) spos) Γ g (compS mi F) := .mk fun μ t μ' q => by
  have := st_lcS (spos := spos) hi hy hyl hb hg hw hF hll ha hk hs μ t μ' q
  exact he t ▸ this
theorem vsin {i : Nat} {l : List Nat} (h : i ∈ l) : ∀ ws, some l = some ws → i ∈ ws := fun ws e => by cases e; exact h
theorem vsin2 {i j : Nat} {l : List Nat} (h : i ∈ l ∧ j ∈ l) : ∀ ws, some l = some ws → i ∈ ws ∧ j ∈ ws := fun ws e => by cases e; exact h
theorem vsin3 {i j k : Nat} {l : List Nat} (h : i ∈ l ∧ j ∈ l ∧ k ∈ l) : ∀ ws, some l = some ws → i ∈ ws ∧ j ∈ ws ∧ k ∈ ws := fun ws e => by cases e; exact h

/-! ### the law's end -/
/-- the law's def, told for the end -/
theorem law_endB {G0 : Heap → Gc} {P : Program} {w : World} {K : PySem.W.Frag} {mg : Str → Option Value} {d : He.DefD} {N : List Str} {x : Str} {k : Nat} (hG : ∀ b, G0 b = ⟨P, w, K, mg, b⟩) (hd : d.dfl = []) (hk : d.kwd = [])
    (hD : ∃ fd, FunD K d.name d.qual d.params d.body d.scope (d.dvs K) (d.kws K) (He.fAd K d.at_) fd) (S : FnScope N [x] d.scope)
    (hbind : ∀ (kV doc pm : Value) (an : Option Addr) (cdv ct : Value) (us : List Value), us.length = 1 → bindArgs (PySem.W.fnOf d.name d.qual d.params d.body d.scope .none kV doc pm an cdv ct) ⟨us, []⟩ = pure ([x].zip us))
    (body : ∀ base : Heap, K.In base → base.Ns mainGlobals mg → ∀ ns : List Int, ns.length ≤ 63 → (∀ z ∈ ns, Builtin.Int.intBits z ≤ 1048576) → ∃ μ', SJ (bodyC (G0 base) N d k) d.body (g0 N [.dat (.lst (ns.map D.int))]) [] (.rt (.bl true) μ')) :
    ∃ (fd : FuncData) (sp : Sp), (∀ (s : Shared) (u : Value), BindsTo s fd ⟨[u], []⟩ [(x, u)]) ∧
      (∀ (H : Hp) (a : Addr) (ns : List Int), ns.length ≤ 63 → (∀ z ∈ ns, Builtin.Int.intBits z ≤ 1048576) → Only H → SqL K H a (ns.map V.int) → sp [.ref a] H (fun v _ => v = .bl true) fun _ _ _ => False) ∧
      ∀ base : Heap, K.In base → base.Ns mainGlobals mg → FnOk P w K mg base L2.CX0 (k + 1) (He.fAd K d.at_) fd [x] sp := by
  obtain ⟨fd, F⟩ := hD
  have e : d.dvs K = [] := by unfold He.DefD.dvs; rw [hd]; rfl
  have e2 : d.kws K = [] := by unfold He.DefD.kws; rw [hk]; rfl
  rw [e, e2] at F
  refine ⟨fd, fun vs H Q _ => ∃ ns : List Int, (ns.length ≤ 63 ∧ (∀ z ∈ ns, Builtin.Int.intBits z ≤ 1048576)) ∧ spJ K [.dat (.lst (ns.map D.int))] [] (.dat (.bl true)) [] vs H Q fun _ _ _ => False, fun s v => F.bindsA (ps := [x]) hbind s [v] rfl, fun H a ns hl hb _ hS => ⟨ns, ⟨hl, hb⟩, law_sp hS⟩, fun base kin ns' => ?_⟩
  have key : ∀ ns : List Int, (ns.length ≤ 63 ∧ (∀ z ∈ ns, Builtin.Int.intBits z ≤ 1048576)) → FnOk P w K mg base (L2.CX P w) (k + 1) (He.fAd K d.at_) fd [x] (spJ K [.dat (.lst (ns.map D.int))] [] (.dat (.bl true)) []) := fun ns hns => by
    obtain ⟨μ', h⟩ := body base kin ns' ns hns.1 hns.2
    refine F.ok S (fun vs H Q E hsp => ?_) fun cdv A outer s H vs Q E hr hsp => ⟨_, pss_sem, ?_⟩
    · obtain ⟨φ, π, _, hts, _⟩ := hsp
      rw [← hts.len]; rfl
    · obtain ⟨φ, π, s0, hts, q⟩ := hsp
      have g : Good (bodyC (G0 base) N d k) (cxOf (L2.CX P w) P w K mg base N d.qual d.scope (He.fAd K d.at_) cdv A outer s H E) := by
        rw [hG]
        exact ⟨rfl, rfl, rfl, rfl, rfl, rfl, rfl, S.nd, hr, rfl, passes_of rfl, fun _ _ => .inl rfl⟩
      exact h _ g φ π _ H s0 (start_ok hts) _ (Pst.drop (μ2 := μ') s0 q trivial (fun _ m hm => nomatch hm) (Nat.le_refl _))
  refine ⟨fun vs H Q E ⟨ns, hl, hsp⟩ => (key ns hl).len vs H Q _ hsp, fun A outer s H args us vs Q E hr e0 hb hv ⟨ns, hl, hsp⟩ => ?_⟩
  refine codeAny_mono ((key ns hl).run A outer s H args us vs Q _ hr e0 hb hv hsp) fun r s' h => ?_
  cases r with
  | ok f => cases f <;> exact h
  | error e => obtain ⟨_, _, _, _, _, _, _, _, _, _, _, _, z⟩ := h; exact z
theorem walk_ofEB {l : PySem.W.OpenLaw} {n k : Nat} {q : Program} {loose : List Str} {XP : (Str → Option Value) → Heap → Prop} {YP : World → Heap → Prop} {d : DefRec} {CX : CXT} {x : Str}
    (hn : l.most = some n) (hn2 : n ≤ sizeLine) (hdf : d.params.defaults = []) (hr : Room k callerA)
    (F : ∀ (w : World) (mg : Str → Option Value) (fa : Addr) (h : Heap), YP w h → h.Ns mainGlobals mg → mg d.name = some (.ref fa) →
      ∃ (K : PySem.W.Frag) (fd : FuncData) (sp : Sp), K.In h ∧ (∀ (s : Shared) (u : Value), BindsTo s fd ⟨[u], []⟩ [(x, u)]) ∧
        (∀ (H : Hp) (a : Addr) (ns : List Int), ns.length ≤ n → (∀ z ∈ ns, Builtin.Int.intBits z ≤ 1048576) → Only H → SqL K H a (ns.map V.int) → sp [.ref a] H (fun v _ => v = .bl true) fun _ _ _ => False) ∧
        ∀ base : Heap, K.In base → base.Ns mainGlobals mg → FnOk l.prog w K mg base CX k fa fd [x] sp)
    (hCX : ∀ (H : Hp) (s : Shared) (e : Value) (s' : Shared), CX [] H s (fun _ _ _ => False) e s' → False) :
    PySem.W.WalkO q loose XP YP l.row.toRowW d [] (fun f vs => PySem.call f vs) := by
  refine Att.attach_callB hn hdf fun w s₀ s₁ mg mb fa o pm cd doc a vs ns G Y ho hd hcd hmg hobj hints hlen hbits hg => ?_
  obtain ⟨K, fd, sp, KX, hb, hsp, hF⟩ := F w mg fa _ Y G.T.g hmg
  exact law_call KX G.T.g G.T.b G.T.builtins G.T.nolimit hg hobj hints (Nat.le_trans hlen hn2) hr hF hb (fun H hO hS => hsp H a ns hlen hbits hO hS) fun H e s' => hCX H s₁ e s'
end EN
/-! Stores to fields and places; unpacking; own comprehensions. -/
namespace EN
open PySem PySem.Spec PyProof.Rows L2

theorem bb_len : bootBuiltins "len" = some (.builtin "len") := by decide +kernel
theorem bb_all : bootBuiltins "all" = some (.builtin "all") := by decide +kernel
theorem bb_any : bootBuiltins "any" = some (.builtin "any") := by decide +kernel
theorem bb_sum : bootBuiltins "sum" = some (.builtin "sum") := by decide +kernel
theorem bb_max : bootBuiltins "max" = some (.builtin "max") := by decide +kernel
theorem bb_min : bootBuiltins "min" = some (.builtin "min") := by decide +kernel
theorem bb_sorted : bootBuiltins "sorted" = some (.builtin "sorted") := by decide +kernel
theorem bb_isinstance : bootBuiltins "isinstance" = some (.builtin "isinstance") := by decide +kernel
theorem bb_abs : bootBuiltins "abs" = some (.builtin "abs") := by decide +kernel
theorem bb_ord : bootBuiltins "ord" = some (.builtin "ord") := by decide +kernel
theorem bb_repr : bootBuiltins "repr" = some (.builtin "repr") := by decide +kernel
theorem bb_int : bootBuiltins "int" = some (.type "int") := by decide +kernel
theorem bb_str : bootBuiltins "str" = some (.type "str") := by decide +kernel
theorem bb_list : bootBuiltins "list" = some (.type "list") := by decide +kernel
theorem bb_tuple : bootBuiltins "tuple" = some (.type "tuple") := by decide +kernel
theorem bb_dict : bootBuiltins "dict" = some (.type "dict") := by decide +kernel
theorem bb_set : bootBuiltins "set" = some (.type "set") := by decide +kernel
theorem bb_bool : bootBuiltins "bool" = some (.type "bool") := by decide +kernel
theorem nn_len : ("len" : Str) ≠ "__name__" := by decide +kernel
theorem nn_all : ("all" : Str) ≠ "__name__" := by decide +kernel
theorem nn_any : ("any" : Str) ≠ "__name__" := by decide +kernel
theorem nn_sum : ("sum" : Str) ≠ "__name__" := by decide +kernel
theorem nn_max : ("max" : Str) ≠ "__name__" := by decide +kernel
theorem nn_min : ("min" : Str) ≠ "__name__" := by decide +kernel
theorem nn_sorted : ("sorted" : Str) ≠ "__name__" := by decide +kernel
theorem nn_isinstance : ("isinstance" : Str) ≠ "__name__" := by decide +kernel
theorem nn_enumerate : ("enumerate" : Str) ≠ "__name__" := by decide +kernel
theorem nn_zip : ("zip" : Str) ≠ "__name__" := by decide +kernel
theorem nn_range : ("range" : Str) ≠ "__name__" := by decide +kernel
theorem nn_reversed : ("reversed" : Str) ≠ "__name__" := by decide +kernel
theorem nn_abs : ("abs" : Str) ≠ "__name__" := by decide +kernel
theorem nn_ord : ("ord" : Str) ≠ "__name__" := by decide +kernel
theorem nn_repr : ("repr" : Str) ≠ "__name__" := by decide +kernel
theorem nn_int : ("int" : Str) ≠ "__name__" := by decide +kernel
theorem nn_str : ("str" : Str) ≠ "__name__" := by decide +kernel
theorem nn_list : ("list" : Str) ≠ "__name__" := by decide +kernel
theorem nn_tuple : ("tuple" : Str) ≠ "__name__" := by decide +kernel
theorem nn_dict : ("dict" : Str) ≠ "__name__" := by decide +kernel
theorem nn_set : ("set" : Str) ≠ "__name__" := by decide +kernel
theorem nn_bool : ("bool" : Str) ≠ "__name__" := by decide +kernel
def setFld (tb : Tab) (f : Str) (u v : T) : Sh Unit := fun μ => match u with
  | .own i => (match μ[i]? with
    | some (.ins C gs) => if tb.fld C f && decide (gs.length < 1000) then .ok () (μ.set i (.ins C (putT f v gs))) else .no
    | _ => .no)
  | _ => .no
def setIx (u k v : T) : Sh Unit := fun μ => match u, k with
  | .own i, .dat (.int j) => (match μ[i]? with
    | some (.lst ts) => (match ixN ts.length j with
      | some n => .ok () (μ.set i (.lst (ts.set n v)))
      | none => .no)
    | _ => .no)
  | _, _ => .no
section
variable {c : EN.Ctx} {a b e o x tg iter : Expr} {es : List Expr} {Γ Γ' : List (Option T)} {pos p : Pos} {u v : T} {m ma mb mc me mo : Sh T} {mt nt : Sh Bool} {d : D} {n : Sh (List T)} {ts us : List T} {tb : Tab} {st : Stmt} {sts A B rest body : List Stmt}
theorem nst_fld {f : Str} {pos' : Pos} (E : TabOk c.toGc tb) (he : EvS c e Γ me) (ho : EvS c o Γ mo) (hs : isComp e = false := by rfl) : NSt c (.Assign [.Attribute o f pos'] e pos) Γ (fun _ : Unit => Γ) (bnd me fun v => bnd mo fun u => setFld tb f u v) := .mk fun μ r μ' h => by
  obtain ⟨v, μ1, h1, z⟩ := bnd_inv h
  clear h
  obtain ⟨u, μ2, h2, h⟩ := bnd_inv z
  clear z
  unfold setFld at h
  split at h
  · split at h
    · split at h
      · rename_i q
        cases h
        simp only [Tab.fld, Bool.and_eq_true] at q
        exact st_fld (he _ _ _ h1) (ho _ _ _ h2) (by assumption) rfl (of_decide_eq_true q.2) (E.cls q.1.1) (E.noat q.1.2) hs
      · cases h
    · cases h
  · cases h
theorem st_setIx3 {μ μ1 μ2 μ3 : List M} {t : T} {ix : Expr} {apos : Pos} {i k : Nat} {kI : Int} (he : EvJ c e Γ μ t μ1) (ho : EvJ c a Γ μ1 (.own i) μ2) (hx : EvJ c ix Γ μ2 (.int kI) μ3) (hi : μ3[i]? = some (.lst ts)) (hk : ixN ts.length kI = some k) (hs : isComp e = false) (ht : isTup e = false)
    (ha : ∀ env v, assign (.Subscript a ix apos) env v = (do
      let ov ← holding [v] (eval a env)
      let iv ← holding [v, ov] (eval ix env)
      standAt apos
      holding [v, ov, iv] (setItem ov iv v)
      release [v, ov, iv] [])) : StJ c (.Assign [.Subscript a ix apos] e pos) Γ μ (.nx Γ (μ3.set i (.lst (ts.set k t)))) := by
  intro X g φ π σ H s0 g0 D q
  refine toS (ps_asg pe_sem (pg_sub pe_sem pe_sem set_list (ha X.env)) (no_swapS hs _ _ _) (no_stores ht _) rfl) ?_
  refine he X g φ π σ H s0 g0 _ fun w π1 H1 n1 k1 => ?_
  refine ho X g φ π1 σ H1 n1.ok (g0.nx n1) _ fun v π2 H2 n2 k2 => ?_
  refine hx X g φ π2 σ H2 n2.ok ((g0.nx n1).nx n2) _ fun u π3 H3 n3 k3 => ?_
  cases k3
  obtain ⟨p, hp, rfl⟩ := k2
  have hp3 : π3[i]? = some p := by
    obtain ⟨p2, rfl⟩ := n3.ext
    rw [List.getElem?_append_left (List.getElem?_eq_some_iff.mp hp).1]; exact hp
  obtain ⟨vs, hv, hts⟩ := n3.ok.obj i p _ hp3 hi
  refine ⟨p, vs, kI, k, rfl, rfl, hv, by rw [← hts.len]; exact hk, ?_⟩
  have hset : EN.TL X.K π3 (hd φ π3 μ3 H3) (ts.set k t) (vs.set k w) := by
    have key : ∀ {ts : List T} {vs : List V} (k : Nat), EN.TL X.K π3 (hd φ π3 μ3 H3) ts vs → EN.TL X.K π3 (hd φ π3 μ3 H3) (ts.set k t) (vs.set k w) := by
      intro ts vs k h
      induction h generalizing k with
      | nil => exact .nil
      | cons q r ih =>
        cases k with
        | zero => exact .cons ((k1.nx n2).nx n3) r
        | succ k => exact .cons q (ih k)
    exact key k hts
  have n4 := n3.ok.write (o := .lst (vs.set k w)) (m' := .lst (ts.set k t)) hp3 hi rfl rfl ⟨_, upd_same, hset⟩
  exact q σ π3 _ (((n1.trans n2).trans n3).trans n4) (((g0.nx n1).nx n2).nx n3 |>.nx n4)
theorem nst_ix {ix : Expr} {apos : Pos} {mk : Sh T} (he : EvS c e Γ me) (ho : EvS c a Γ mo) (hk : EvS c ix Γ mk) (hs : isComp e = false := by rfl) (ht : isTup e = false := by rfl)
    (ha : ∀ env v, assign (.Subscript a ix apos) env v = (do
      let ov ← holding [v] (eval a env)
      let iv ← holding [v, ov] (eval ix env)
      standAt apos
      holding [v, ov, iv] (setItem ov iv v)
      release [v, ov, iv] []) := by intro _ _; rfl) : NSt c (.Assign [.Subscript a ix apos] e pos) Γ (fun _ : Unit => Γ) (bnd me fun v => bnd mo fun u => bnd mk fun k => setIx u k v) := .mk fun μ r μ' h => by
  obtain ⟨v, μ1, h1, z⟩ := bnd_inv h
  clear h
  obtain ⟨u, μ2, h2, y⟩ := bnd_inv z
  clear z
  obtain ⟨k, μ3, h3, h⟩ := bnd_inv y
  clear y
  unfold setIx at h
  split at h
  · split at h
    · split at h
      · cases h; exact st_setIx3 (he _ _ _ h1) (ho _ _ _ h2) (hk _ _ _ h3) (by assumption) (by assumption) hs ht ha
      · cases h
    · cases h
  · cases h
/-! a, b = e -/
theorem nst_un2 {i j kk : Nat} {x y : Str} {px py pt : Pos} {g : T × T → List (Option T)} (he : EvS c e Γ me) (hi : c.N[i]? = some x) (hx : locB c.sc x = true) (hj : c.N[j]? = some y) (hy : locB c.sc y = true) (hg : ∀ a b, (Γ.set i (some a)).set j (some b) = g (a, b)) (hs : isComp e = false := by rfl) (ht : isTup e = false := by rfl) (hf : c.sto x = true := by rfl) (hf2 : c.sto y = true := by rfl) :
    NSt c (.Assign [.Tuple [.Name x px, .Name y py] kk pt] e pos) Γ g (bnd me fun t => unp2 t fun a b => ret (a, b)) := .mk fun μ r μ' h => by
  obtain ⟨t, μ1, h1, h⟩ := bnd_inv h
  obtain ⟨Γ1, js, hv, _, hr⟩ := turn_2 (c := c) (vs := none) (i := i) (j := j) (K := fun Γ1 μ r μ' => g r = Γ1 ∧ μ' = μ) hg (fun _ e => nomatch e) (fun a b μ r μ' q => by cases q; exact ⟨rfl, rfl⟩) μ1 r μ' h
  obtain ⟨rfl, rfl⟩ := hr
  exact st_asg (he _ _ _ h1) (tg_tup (tgs_cons (tg_nm hi hx hf) (tgs_cons (tg_nm hj hy hf2) tgs_nil))) hv hs ht rfl
theorem sv_biP {x : Str} {id : String} {f : List T → Sh T} (ha : AsS c (e :: es) Γ (ret ts)) (hf : ∀ ts, C1S c (.builtin id) ts (f ts)) (hg : gloB c.sc x = true) (hm : c.mg x = none) (hv : bootBuiltins x = some (.builtin id))
    (hs : (e :: es).all (fun e => !isStar e) = true) (hn : x ≠ "__name__" := by decide +kernel) : EvS c (.Call (.Name x p) (e :: es) [] pos) Γ (f ts) := sv_bi ha hf hg hm hv hs hn
theorem sv_tyP {x : Str} {id : String} {f : List T → Sh T} (ha : AsS c (e :: es) Γ (ret ts)) (hf : ∀ ts, C1S c (.type id) ts (f ts)) (hg : gloB c.sc x = true) (hm : c.mg x = none) (hv : bootBuiltins x = some (.type id))
    (hs : (e :: es).all (fun e => !isStar e) = true) (hn : x ≠ "__name__" := by decide +kernel) : EvS c (.Call (.Name x p) (e :: es) [] pos) Γ (f ts) := sv_ty ha hf hg hm hv hs hn
end
end EN
/-! Parallel assignments, unpacked lists, a list and its copy. -/
namespace EN
open PySem PySem.Spec PyProof.Rows L2

def unl2 (ts : List T) : Sh (T × T) := match ts with
  | [a, b] => ret (a, b)
  | _ => stop
def unl3 (ts : List T) : Sh (T × T × T) := match ts with
  | [a, b, c] => ret (a, b, c)
  | _ => stop
def unq2 (t : T) : Sh (T × T) := fun μ => match datOf t μ with
  | some (.lst [a, b]) => .ok (.dat a, .dat b) μ
  | _ => .no
def unq3 (t : T) : Sh (T × T × T) := fun μ => match datOf t μ with
  | some (.lst [a, b, c]) => .ok (.dat a, .dat b, .dat c) μ
  | _ => .no
def unq4 (t : T) : Sh (T × T × T × T) := fun μ => match datOf t μ with
  | some (.lst [a, b, c, d]) => .ok (.dat a, .dat b, .dat c, .dat d) μ
  | _ => .no
def uns3 (t : T) : Sh (T × T × T) := unp3 t fun a b c => ret (a, b, c)
open Classical in
/-- a list and its copy: their items are the same -/
noncomputable def twin (u : T) (f : T → Sh T) : Sh T := fun μ => match u with
  | .dat (.lst ds) => if h : ∃ r : T × List M, ∀ vs : List V, vs.length = ds.length → f (.vls ds vs) μ = .ok r.1 r.2 then .ok h.choose.1 h.choose.2 else .no
  | _ => .no
open Classical in
noncomputable def eqW (x y : T) : Sh T := fun μ => match x, y with
  | .vls _ vs, .vls _ ws => if vs = ws then .ok (.bl true) μ else .no
  | _, _ => .no
open Classical in
noncomputable def neW (x y : T) : Sh T := fun μ => match x, y with
  | .vls _ vs, .vls _ ws => if vs = ws then .ok (.bl false) μ else .no
  | _, _ => .no
/-- such a list, as data -/
def unW (x : T) : T := match x with
  | .vls ds _ => .dat (.lst ds)
  | x => x
@[simp] theorem unW_vls (ds : List D) (vs : List V) : unW (.vls ds vs) = .dat (.lst ds) := rfl
@[simp] theorem eqW_same (ds es : List D) (vs : List V) (μ : List M) : eqW (.vls ds vs) (.vls es vs) μ = .ok (.bl true) μ := by simp [eqW]
@[simp] theorem neW_same (ds es : List D) (vs : List V) (μ : List M) : neW (.vls ds vs) (.vls es vs) μ = .ok (.bl false) μ := by simp [neW]
theorem twin_ok {ds : List D} {f : T → Sh T} {μ μ' : List M} {t : T} (h : ∀ vs : List V, vs.length = ds.length → f (.vls ds vs) μ = .ok t μ') : twin (.dat (.lst ds)) f μ = .ok t μ' := by
  have hh : ∃ r : T × List M, ∀ vs : List V, vs.length = ds.length → f (.vls ds vs) μ = .ok r.1 r.2 := ⟨(t, μ'), h⟩
  unfold twin
  simp only
  rw [dif_pos hh]
  have h1 := hh.choose_spec (List.replicate ds.length .non) (by simp)
  rw [h _ (by simp)] at h1
  cases h1
  rfl
theorem twin_inv {u : T} {f : T → Sh T} {μ μ' : List M} {t : T} (h : twin u f μ = .ok t μ') : ∃ ds, u = .dat (.lst ds) ∧ ∀ vs : List V, vs.length = ds.length → f (.vls ds vs) μ = .ok t μ' := by
  unfold twin at h
  split at h
  · rename_i ds
    split at h
    · rename_i hh
      cases h
      exact ⟨ds, rfl, hh.choose_spec⟩
    · cases h
  · cases h
section
variable {K : PySem.W.Frag} {H : Hp}
theorem dt_flat {d : D} {v : V} (h : Dt K H d v) : flatB v = true ∨ ∃ a, v = .ref a := by
  cases h <;> first | exact .inl rfl | exact .inr ⟨_, rfl⟩
theorem dtl_same {n : Nat} : ∀ {ds : List D} {vs : List V}, DtL K H ds vs → Paired (EqV K H (n + 1)) vs vs
  | _, _, .nil => .nil
  | _, _, .cons q t => by
    refine .cons ?_ (dtl_same t)
    rcases dt_flat q with h | ⟨a, rfl⟩
    · exact .inl ⟨rfl, h⟩
    · exact .inr (.inl ⟨a, rfl, rfl⟩)
def rNeV (K : PySem.W.Frag) : R2 := fun x y H Q => ∃ a b xs, x = .ref a ∧ y = .ref b ∧ SqL K H a xs ∧ SqL K H b xs ∧ Paired (EqV K H 1) xs xs ∧ Q (.bl false) H
theorem op_neV {X : Cx} (hu : X.A.units + 64 < cLine) : OpR X (compareOp .NotEq) (rNeV X.K) := by
  intro pins s σ H x y v u Q I rx ry h
  obtain ⟨a, b, xs, rfl, rfl, ha, hb, hp, q⟩ := h
  cases (show v = Value.ref a from rx)
  cases (show u = Value.ref b from ry)
  obtain ⟨us, r1, p1, _⟩ := I.list ha
  obtain ⟨ws, r2, p2, _⟩ := I.list hb
  have hsz : us.toArray.size = ws.toArray.size := by
    rw [List.size_toArray, List.size_toArray, ← r1.length, ← r2.length]
  have key : ∀ {xs : List V} {us ws : List Value}, Paired (EqV X.K H 1) xs xs → Vals xs us → Vals xs ws → ∀ j (h1 : j < us.length) (h2 : j < ws.length), SeqAt.EqAt X.A.in1 s us[j] ws[j] true := by
    intro xs
    induction xs with
    | nil => intro us ws _ r1 r2 j h1 h2; cases r1; exact absurd h1 (Nat.not_lt_zero j)
    | cons z zs ih =>
      intro us ws hp r1 r2 j h1 h2
      cases r1 with
      | cons a1 b1 =>
        cases r2 with
        | cons a2 b2 =>
          cases hp with
          | cons e t =>
            cases j with
            | zero =>
              rcases e with ⟨_, f⟩ | ⟨a, e1, _⟩ | e
              · exact eqAt_same a1 a2 f
              · subst e1
                cases a1; cases a2
                exact SeqAt.EqAt.same _
              · rcases e with ⟨_, _, _, _, e1, _⟩ | ⟨_, _, _, _, e1, _⟩
                · subst e1
                  cases a1; cases a2
                  exact SeqAt.EqAt.same _
                · subst e1
                  cases a1; cases a2
                  exact SeqAt.EqAt.same _
            | succ j => exact ih t b1 b2 j (Nat.lt_of_succ_lt_succ h1) (Nat.lt_of_succ_lt_succ h2)
  have := SeqAt.RcNeAt.lists (A := X.A) (e := fun _ => true) p1.isList p2.isList hsz (by omega) (fun j h1 h2 => by
    have := key hp r1 r2 j (by simpa using h1) (by simpa using h2)
    simpa using this)
  refine this _ _ _ _ ⟨.bl false, H, I, ?_, q⟩
  show Value.bool (!(List.range us.toArray.size).all fun _ => true) = Value.bool false
  rw [show ((List.range us.toArray.size).all fun _ => true) = true from List.all_eq_true.mpr fun _ _ => rfl]
  rfl
end
section
variable {c : EN.Ctx} {a b e o x tg iter : Expr} {es : List Expr} {Γ Γ' : List (Option T)} {pos p : Pos} {u v : T} {m ma mb mc me mo : Sh T} {mt nt : Sh Bool} {d : D} {n : Sh (List T)} {ts us : List T} {tb : Tab} {st : Stmt} {sts A B rest body : List Stmt}
theorem eqW_ok : R2S c (compareOp .Eq) u v (eqW u v) := by
  intro μ t μ' h
  unfold eqW at h
  split at h
  · split at h
    · rename_i e
      cases h
      subst e
      exact fun X gX => ⟨_, op_eqV gX.room.units, fun φ π H x y s0 h1 h2 Q q => by
        obtain ⟨a1, rfl, s1, l1⟩ := h1
        obtain ⟨a2, rfl, s2, l2⟩ := h2
        exact ⟨1, by decide, .inl ⟨a1, a2, _, _, rfl, rfl, (hd_le _ _ _ _ : Ex _ _).sqL s1, (hd_le _ _ _ _ : Ex _ _).sqL s2, dtl_same (DtL.mono (hd_le _ _ _ _) l1)⟩, q _ π H (Nxt.refl s0) (Dt.bl true)⟩⟩
    · cases h
  · cases h
theorem neW_ok : R2S c (compareOp .NotEq) u v (neW u v) := by
  intro μ t μ' h
  unfold neW at h
  split at h
  · split at h
    · rename_i e
      cases h
      subst e
      exact fun X gX => ⟨_, op_neV gX.room.units, fun φ π H x y s0 h1 h2 Q q => by
        obtain ⟨a1, rfl, s1, l1⟩ := h1
        obtain ⟨a2, rfl, s2, l2⟩ := h2
        exact ⟨a1, a2, _, rfl, rfl, (hd_le _ _ _ _ : Ex _ _).sqL s1, (hd_le _ _ _ _ : Ex _ _).sqL s2, dtl_same (DtL.mono (hd_le _ _ _ _) l1), q _ π H (Nxt.refl s0) (Dt.bl false)⟩⟩
    · cases h
  · cases h
/-- a name that stands for a list with its items, read as data -/
theorem sv_nmW {i : Nat} {x : Str} (hN : c.N[i]? = some x) (hv : visB c.sc x = true) (hΓ : Γ[i]? = some (some u)) : EvS c (.Name x pos) Γ (ret (unW u)) := .mk fun μ t μ' h => by
  cases h
  have h0 := ev_nm (pos := pos) (μ := μ) hN hv hΓ
  cases u with
  | dat d => exact h0
  | own i => exact h0
  | vls ds vs =>
    intro X g φ π σ H s0 g0 Q q
    refine h0 X g φ π σ H s0 g0 _ fun v π1 H1 n1 k1 => ?_
    obtain ⟨a1, rfl, s1, l1⟩ := k1
    exact q _ π1 H1 n1 (.lst s1 l1)
/-- x = list(y) -/
theorem rs_twin {i j : Nat} {x y : Str} {px py pl pc : Pos} {f : T → Sh T} {g : T → List (Option T)} (hi : c.N[i]? = some x) (hx : locB c.sc x = true) (hj : c.N[j]? = some y) (hv : visB c.sc y = true) (hij : i ≠ j) (hΓ : Γ[j]? = some (some u)) (hg : gloB c.sc "list" = true) (hm : c.mg "list" = none)
    (he : ∀ t, (Γ.set j (some t)).set i (some t) = g t) (h : ∀ t, RetS c rest (g t) (f t)) (hf : c.sto x = true := by rfl) :
    RetS c (.Assign [.Name x px] (.Call (.Name "list" pl) [.Name y py] [] pc) pos :: rest) Γ (twin u f) := .mk fun μ t μ' hh => by
  obtain ⟨ds, rfl, hvs⟩ := twin_inv hh
  intro X gd φ π σ H s0 g0 D q
  have gg := gloB_ok hg
  have vv := visB_ok hv
  obtain ⟨vj, hσ, kk⟩ := g0.at_ j _ hΓ
  refine toSs (pss_cons ps_sem pss_sem) ?_
  refine toS (ps_set (i := i) (by rw [gd.N]; exact gd.nd) (by rw [gd.N]; exact hi) (by rw [gd.sc]; exact locB_ok hx) (pe_callTy call_list_of (show X.env.scope.names.lookup ("list" : Str) = _ by rw [gd.sc]; exact gg.1) (by rw [gd.mg]; exact hm) bb_list (pa_cons (pe_var (i := j) (by rw [gd.N]; exact hj) (by rw [gd.sc]; exact vv.1) vv.2.1 vv.2.2) pa_nil (star_cons rfl _)) nn_list gg.2) (no_swap rfl _ _ _) (gd.sto x hf)) ?_
  refine ⟨vj, hσ, ?_⟩
  cases kk with
  | lst s l =>
    rename_i a1 vs
    refine ⟨a1, vs, rfl, .inl ((hd_le _ _ _ _ : Ex _ _).sqL s), fun p0 np => ?_⟩
    obtain ⟨n2, at2⟩ := s0.newData (o := .lst vs) np
    have r := h (.vls ds vs) _ _ _ (hvs vs l.len.symm)
    have F1 : FOk X.K π (hd φ π μ (upd H p0 (.lst vs))) Γ σ := g0.nx n2
    have F2 : FOk X.K π (hd φ π μ (upd H p0 (.lst vs))) ((Γ.set j (some (.vls ds vs))).set i (some (.vls ds vs))) (σ.set i (some (.ref p0))) := by
      refine ⟨by simp [g0.len], fun k t e => ?_⟩
      by_cases hk : i = k
      · subst hk
        by_cases hl : i < Γ.length
        · rw [List.getElem?_set_self (by simpa using hl)] at e
          cases e
          exact ⟨_, by rw [List.getElem?_set_self (by rw [← g0.len]; exact hl)], p0, rfl, SqL.of at2, DtL.mono n2.le l⟩
        · rw [List.getElem?_eq_none (by simpa using hl)] at e; cases e
      · rw [List.getElem?_set_ne hk] at e
        by_cases hk2 : j = k
        · subst hk2
          have hl : j < Γ.length := (List.getElem?_eq_some_iff.mp hΓ).1
          rw [List.getElem?_set_self hl] at e
          cases e
          exact ⟨_, by rw [List.getElem?_set_ne hij]; exact hσ, a1, rfl, Ex.sqL n2.le s, DtL.mono n2.le l⟩
        · rw [List.getElem?_set_ne hk2] at e
          rw [List.getElem?_set_ne hk]
          exact F1.at_ k t e
    rw [he] at F2
    exact r X gd φ π _ _ n2.ok F2 D (q.nx n2)
/-! a, b = x, y -/
theorem nst_par2 {i j : Nat} {x y : Str} {px py pt : Pos} {kt k2 : Nat} {pt2 : Pos} {g : T × T → List (Option T)} (hi : c.N[i]? = some x) (hj : c.N[j]? = some y) (hij : i ≠ j) (hx : c.sc.names.lookup x = some .local) (hy : c.sc.names.lookup y = some .local) (ha : AsS c [a, b] Γ n)
    (hw : ∀ env : Env, env.scope = c.sc → swappedStores [.Tuple [.Name x px, .Name y py] kt pt] (.Tuple [a, b] k2 pt2) env = pure (some [x, y])) (he : ∀ u v, (Γ.set i (some u)).set j (some v) = g (u, v)) :
    NSt c (.Assign [.Tuple [.Name x px, .Name y py] kt pt] (.Tuple [a, b] k2 pt2) pos) Γ g (bnd n unl2) := .mk fun μ r μ' h => by
  obtain ⟨us, μ1, h1, h⟩ := bnd_inv h
  unfold unl2 at h
  split at h
  · rename_i u v
    cases h
    intro X gd φ π σ H s0 g0 D q
    refine toS (ps_par (i := i) (j := j) gd.calm (by rw [gd.N]; exact gd.nd) (by rw [gd.N]; exact hi) (by rw [gd.N]; exact hj) hij (by rw [gd.sc]; exact hx) (by rw [gd.sc]; exact hy) pa_sem (hw X.env gd.sc)) ?_
    refine ha _ _ _ h1 X gd φ π σ H s0 g0 _ fun vs π1 H1 n1 k1 => ?_
    obtain ⟨v1, v2, rfl, q1, q2⟩ := k1.two
    refine ⟨v1, v2, rfl, ?_⟩
    rw [← he] at q
    exact q _ π1 H1 n1 (((g0.nx n1).set q1).set q2)
  · cases h
theorem TL.three {K : PySem.W.Frag} {π : List Addr} {Hd : Hp} {t t' t'' : T} {vs : List V} (h : EN.TL K π Hd [t, t', t''] vs) : ∃ v v' v'', vs = [v, v', v''] ∧ TOk K π Hd t v ∧ TOk K π Hd t' v' ∧ TOk K π Hd t'' v'' := by
  cases h with
  | cons q r => obtain ⟨v', v'', rfl, q', q''⟩ := r.two; exact ⟨_, _, _, rfl, q, q', q''⟩
theorem nst_par3 {i j l : Nat} {x y z : Str} {e : Expr} {px py pz pt : Pos} {kt k2 : Nat} {pt2 : Pos} {g : T × T × T → List (Option T)} (hi : c.N[i]? = some x) (hj : c.N[j]? = some y) (hl : c.N[l]? = some z) (hij : i ≠ j ∧ i ≠ l ∧ j ≠ l) (hx : c.sc.names.lookup x = some .local) (hy : c.sc.names.lookup y = some .local) (hz : c.sc.names.lookup z = some .local) (ha : AsS c [a, b, e] Γ n)
    (hw : ∀ env : Env, env.scope = c.sc → swappedStores [.Tuple [.Name x px, .Name y py, .Name z pz] kt pt] (.Tuple [a, b, e] k2 pt2) env = pure (some [x, y, z])) (he : ∀ u v w, ((Γ.set i (some u)).set j (some v)).set l (some w) = g (u, v, w)) :
    NSt c (.Assign [.Tuple [.Name x px, .Name y py, .Name z pz] kt pt] (.Tuple [a, b, e] k2 pt2) pos) Γ g (bnd n unl3) := .mk fun μ r μ' h => by
  obtain ⟨us, μ1, h1, h⟩ := bnd_inv h
  unfold unl3 at h
  split at h
  · rename_i u v
    cases h
    intro X gd φ π σ H s0 g0 D q
    refine toS (ps_par3 (i := i) (j := j) (l := l) gd.calm (by rw [gd.N]; exact gd.nd) (by rw [gd.N]; exact hi) (by rw [gd.N]; exact hj) (by rw [gd.N]; exact hl) hij.1 hij.2.1 hij.2.2 (by rw [gd.sc]; exact hx) (by rw [gd.sc]; exact hy) (by rw [gd.sc]; exact hz) pa_sem (hw X.env gd.sc)) ?_
    refine ha _ _ _ h1 X gd φ π σ H s0 g0 _ fun vs π1 H1 n1 k1 => ?_
    obtain ⟨v1, v2, v3, rfl, q1, q2, q3⟩ := TL.three k1
    refine ⟨v1, v2, v3, rfl, ?_⟩
    rw [← he] at q
    exact q _ π1 H1 n1 ((((g0.nx n1).set q1).set q2).set q3)
  · cases h
/-! names from a list -/
theorem gv_lst {gts : TGs} {k : Nat} {ds : List D} {js : List Nat} {μ : List M} {Γ1 : List (Option T)} (h : GsJ c gts ds Γ μ Γ1 js) (hn : ds.length = k := by rfl) : GvJ c (gLst c.K k gts) (.dat (.lst ds)) Γ μ Γ1 js := fun φ π σ H v s0 g0 k Q q => by
  cases k with
  | lst s l => exact ⟨_, _, rfl, (hd_le _ _ _ _ : Ex _ _).sqL s, by rw [← l.len, hn], h φ π σ H _ s0 g0 l Q q⟩
theorem tg_lst {gts : TGs} {k0 k : Nat} (h : TgsJ c es gts) (hs : es.all (fun e => !isStar e) = true := by rfl) (hn : es.length = k := by rfl) : TgJ c (.Tuple es k0 pos) (gLst c.K k gts) := fun X g => by
  rw [← g.K]
  have q : ∀ es : List Expr, es.all (fun e => !isStar e) = true → (assignEach es X.env).length = es.length ∧ (assignEach es X.env).findIdx? (·.1) = none := by
    intro es
    induction es with
    | nil => exact fun _ => ⟨rfl, rfl⟩
    | cons e r ih =>
      intro h
      simp only [List.all_cons, Bool.and_eq_true, Bool.not_eq_true'] at h
      obtain ⟨h1, h2⟩ := ih h.2
      have e1 : assignEach (e :: r) X.env = (false, assign e X.env) :: assignEach r X.env := by
        cases e <;> first | rfl | cases h.1
      rw [e1]
      exact ⟨by simp [h1], by simp [List.findIdx?_cons, h2]⟩
  exact pg_lst g.calm (h X g) (by rw [(q es hs).1, hn]) (q es hs).2
theorem sw_of {sc : Scope} {r : Option (List Str)} {ts : List Expr} {e : Expr} (h : ∀ env : Env, swappedStores ts e { env with scope := sc } = pure r) : ∀ env : Env, env.scope = sc → swappedStores ts e env = pure r := fun env q => by
  subst q
  exact h env
theorem nst_unq4 {i j k l : Nat} {x y z w : Str} {px py pz pw pt : Pos} {kk : Nat} {g : T × T × T × T → List (Option T)} (he : EvS c e Γ me) (hi : c.N[i]? = some x) (hx : locB c.sc x = true) (hj : c.N[j]? = some y) (hy : locB c.sc y = true) (hk : c.N[k]? = some z) (hz : locB c.sc z = true) (hl : c.N[l]? = some w) (hw : locB c.sc w = true)
    (hg : ∀ a b d e, (((Γ.set i (some a)).set j (some b)).set k (some d)).set l (some e) = g (a, b, d, e)) (hs : ∀ env, swapsWithSole [.Tuple [.Name x px, .Name y py, .Name z pz, .Name w pw] kk pt] e pos.line env = pure false) (ht : isTup e = false := by rfl) (hf : c.sto x = true := by rfl) (hf2 : c.sto y = true := by rfl) (hf3 : c.sto z = true := by rfl) (hf4 : c.sto w = true := by rfl) :
    NSt c (.Assign [.Tuple [.Name x px, .Name y py, .Name z pz, .Name w pw] kk pt] e pos) Γ g (bnd me unq4) := .mk fun μ r μ' h => by
  obtain ⟨t, μ1, h1, h⟩ := bnd_inv h
  unfold unq4 at h
  split at h
  · rename_i d1 d2 d3 d4 q1
    cases h
    rw [← hg]
    intro X gd φ π σ H s0 g0 D q
    refine toS (ps_asg pe_sem ((tg_lst (tgs_cons (tg_nm hi hx hf) (tgs_cons (tg_nm hj hy hf2) (tgs_cons (tg_nm hk hz hf3) (tgs_cons (tg_nm hl hw hf4) tgs_nil)))) : TgJ c _ _) X gd) (hs X.env) (no_stores ht _) rfl) ?_
    refine he _ _ _ h1 X gd φ π σ H s0 g0 _ fun v π1 H1 n1 k1 => ?_
    have hv := gv_dat q1 (gv_lst (c := c) (Γ := Γ) (μ := μ') (k := 4) (gs_cons (gv_name (i := i)) (gs_cons (gv_name (i := j)) (gs_cons (gv_name (i := k)) (gs_cons (gv_name (i := l)) gs_nil)))))
    have k1' := k1; have g1 := g0.nx n1; have s1 := n1.ok
    rw [gd.K] at k1' g1 s1
    exact hv φ π1 σ H1 v s1 g1 k1' _ fun σ' f' _ => q σ' π1 H1 n1 (by rw [gd.K]; exact f')
  · cases h
/-! [..] * k -/
open Classical in
noncomputable def repL (ts : List T) (m : Sh T) : Sh T := fun μ => match undat ts with
  | some ds => (match m (μ ++ [.lst (dats ds)]) with
    | .ok (.dat (.int k)) μ' => if μ' = μ ++ [.lst (dats ds)] ∧ -(2 ^ 63) ≤ k ∧ k < 2 ^ 63 ∧ ds.length * k.toNat ≤ sizeLine ∧ ds.length ≤ 1000000 then .ok (.dat (.lst (List.replicate k.toNat ds).flatten)) μ else .no
    | _ => .no)
  | none => .no
theorem sv_repL {lpos : Pos} (h : AsS c es Γ (ret ts)) (hb : EvS c b Γ m) : EvS c (.BinOp (.List es lpos) .Mult b pos) Γ (repL ts m) := .mk fun μ t μ' q => by
  unfold repL at q
  split at q
  · rename_i ds q1
    have e := undat_some q1
    subst e
    split at q
    · rename_i k μ1 q2
      split at q
      · rename_i hh
        cases q
        obtain ⟨rfl, h1, h2, h3, h4⟩ := hh
        exact ev_repL (h _ _ _ rfl) (hb _ _ _ q2) h1 h2 h3 (Nat.ble_eq_true_of_le (by simpa [dats] using h4))
      · cases q
    · cases q
  · cases q
end
end EN
/-! Dicts. -/
namespace EN
open PySem PySem.Spec PyProof.Rows L2

def keyOf : T → Option Key
  | .dat (.int i) => some (.inl i)
  | .dat (.str x) => some (.inr x)
  | _ => none
def valT {α : Type} (kvs : List (Key × α)) (k : Key) : Option α := (kvs.find? fun kv => decide (kv.1 = k)).map (·.2)
def putD {α : Type} (kvs : List (Key × α)) (k : Key) (v : α) : List (Key × α) :=
  if (kvs.any fun kv => decide (kv.1 = k)) = true then kvs.map (fun kv => if kv.1 = k then (kv.1, v) else kv) else kvs ++ [(k, v)]
theorem keyOf_ok {K : PySem.W.Frag} {π : List Addr} {Hd : Hp} {t : T} {v : V} {k : Key} (h : keyOf t = some k) (q : TOk K π Hd t v) : v = kV k := by
  unfold keyOf at h
  split at h <;> cases h <;> cases q <;> rfl
theorem valT_dt {K : PySem.W.Frag} {H : Hp} {k : Key} : ∀ {ds : List (Key × D)} {vs : List (Key × V)} {d : D}, DtK K H ds vs → valT ds k = some d → ∃ v, valV vs k = some v ∧ Dt K H d v
  | _, _, d, .nil, h => by cases h
  | (j, e) :: ds, (_, v) :: vs, d, .cons q r, h => by
    by_cases hj : j = k
    · unfold valT at h
      rw [List.find?_cons, decide_eq_true hj] at h
      cases h
      exact ⟨v, valV_pos hj, q⟩
    · unfold valT at h
      rw [List.find?_cons, decide_eq_false hj] at h
      obtain ⟨w, h1, h2⟩ := valT_dt r h
      exact ⟨w, by rw [valV_neg hj]; exact h1, h2⟩
theorem valT_tk {K : PySem.W.Frag} {π : List Addr} {Hd : Hp} {k : Key} {ts : List (Key × T)} {vs : List (Key × V)} {t : T} (r : TK K π Hd ts vs) (h : valT ts k = some t) : ∃ v, valV vs k = some v ∧ TOk K π Hd t v := by
  induction r with
  | nil => cases h
  | @cons j u v ts vs q r ih =>
    by_cases hj : j = k
    · unfold valT at h
      rw [List.find?_cons, decide_eq_true hj] at h
      cases h
      exact ⟨v, valV_pos hj, q⟩
    · unfold valT at h
      rw [List.find?_cons, decide_eq_false hj] at h
      obtain ⟨w, h1, h2⟩ := ih h
      exact ⟨w, by rw [valV_neg hj]; exact h1, h2⟩
theorem any_tk {K : PySem.W.Frag} {π : List Addr} {Hd : Hp} {k : Key} {ts : List (Key × T)} {vs : List (Key × V)} (r : TK K π Hd ts vs) : (ts.any fun kv => decide (kv.1 = k)) = vs.any fun kv => decide (kv.1 = k) := by
  induction r with
  | nil => rfl
  | cons q r ih => simp only [List.any_cons, ih]
theorem any_dt {K : PySem.W.Frag} {H : Hp} {k : Key} : ∀ {ds : List (Key × D)} {vs : List (Key × V)}, DtK K H ds vs → (ds.any fun kv => decide (kv.1 = k)) = vs.any fun kv => decide (kv.1 = k)
  | _, _, .nil => rfl
  | _, _, .cons q r => by simp only [List.any_cons, any_dt r]
theorem put_tk {K : PySem.W.Frag} {π : List Addr} {Hd : Hp} {k : Key} {ts : List (Key × T)} {vs : List (Key × V)} {t : T} {v : V} (r : TK K π Hd ts vs) (q : TOk K π Hd t v) : TK K π Hd (putD ts k t) (putK vs k v) := by
  unfold putD putK
  rw [any_tk r]
  split
  · rename_i hh
    clear hh
    induction r with
    | nil => exact .nil
    | @cons j u w ts vs q' r ih =>
      simp only [List.map_cons]
      by_cases hj : j = k
      · rw [if_pos hj, if_pos hj]; exact .cons q ih
      · rw [if_neg hj, if_neg hj]; exact .cons q' ih
  · rename_i hh
    clear hh
    induction r with
    | nil => exact .cons q .nil
    | cons q' r ih => exact .cons q' ih
theorem len_tk {K : PySem.W.Frag} {π : List Addr} {Hd : Hp} {ts : List (Key × T)} {vs : List (Key × V)} (r : TK K π Hd ts vs) : ts.length = vs.length := by
  induction r with
  | nil => rfl
  | cons q r ih => simp [ih]
/-- d[k] -/
def opDG (x y : T) : Sh T := fun μ => match keyOf y with
  | none => .no
  | some k => match x with
    | .dat (.dic ds) => (match valT ds k with
      | some d => .ok (.dat d) μ
      | none => .no)
    | .own i => (match μ[i]? with
      | some (.dic ts) => (match valT ts k with
        | some t => .ok t μ
        | none => .no)
      | some (.frz (.dic ds)) => (match valT ds k with
        | some d => .ok (.dat d) μ
        | none => .no)
      | _ => .no)
    | _ => .no
/-- k in d -/
def opDI (y x : T) : Sh T := fun μ => match keyOf y with
  | none => .no
  | some k => match x with
    | .dat (.dic ds) => .ok (.bl (valT ds k).isSome) μ
    | .own i => (match μ[i]? with
      | some (.dic ts) => .ok (.bl (valT ts k).isSome) μ
      | some (.frz (.dic ds)) => .ok (.bl (valT ds k).isSome) μ
      | _ => .no)
    | _ => .no
def opDN (y x : T) : Sh T := fun μ => match opDI y x μ with
  | .ok (.dat (.bl b)) μ' => .ok (.bl (!b)) μ'
  | _ => .no
/-- d[k] = v -/
def setDx (u k v : T) : Sh Unit := fun μ => match u, keyOf k with
  | .own i, some k => (match μ[i]? with
    | some (.dic ts) => if ts.length < 1000000 then .ok () (μ.set i (.dic (putD ts k v))) else .no
    | _ => .no)
  | _, _ => .no
def newDic : Sh T := fun μ => .ok (.own μ.length) (μ ++ [.dic []])
section
variable {c : EN.Ctx} {a b e o x tg iter : Expr} {Γ : List (Option T)} {pos p : Pos} {u v : T} {m ma mb mc me mo mk : Sh T}
theorem room1 {k : Nat} {A : Around} (h : Room k A) : A.units + 1 < cLine := by
  have := h.units
  omega
theorem sv_dg (ha : EvS c a Γ ma) (hb : EvS c b Γ mb) (hs : NoSl b := by intro _ _; rfl) : EvS c (.Subscript a b pos) Γ (bnd ma fun u => bnd mb fun v => opDG u v) := .mk fun μ t μ' h => by
  obtain ⟨u, μ1, h1, h⟩ := bnd_inv h
  obtain ⟨v, μ2, h2, h⟩ := bnd_inv h
  intro X g φ π σ H s0 g0 Q q
  refine toE (pe_dget (room1 g.room) pe_sem pe_sem hs) ?_
  refine ha _ _ _ h1 X g φ π σ H s0 g0 _ fun x π1 H1 n1 k1 => ?_
  refine hb _ _ _ h2 X g φ π1 σ H1 n1.ok (g0.nx n1) _ fun y π2 H2 n2 k2 => ?_
  have k1' := k1.nx n2
  unfold opDG at h
  split at h
  · cases h
  · rename_i k hk
    have hy := keyOf_ok hk k2
    subst hy
    split at h
    · split at h
      · rename_i ds d hv
        cases h
        cases k1' with
        | dic s l =>
          obtain ⟨w, h3, h4⟩ := valT_dt l hv
          exact ⟨_, w, rfl, .inl ⟨_, k, (hd_le _ _ _ _ : Ex _ _).rd s, rfl, h3.symm⟩, q w π2 H2 (n1.trans n2) h4⟩
      · cases h
    · split at h
      · rename_i i ts hi
        split at h
        · rename_i t hv
          cases h
          obtain ⟨p, hp, rfl⟩ := k1'
          obtain ⟨vs, h3, h4⟩ := n2.ok.obj _ p _ hp hi
          obtain ⟨w, h5, h6⟩ := valT_tk h4 hv
          exact ⟨p, w, rfl, .inl ⟨_, k, .inl h3, rfl, h5.symm⟩, q w π2 H2 (n1.trans n2) h6⟩
        · cases h
      · rename_i i ds hi
        split at h
        · rename_i d hv
          cases h
          obtain ⟨p, hp, rfl⟩ := k1'
          cases (n2.ok.obj _ p _ hp hi).2 with
          | dic s l =>
            obtain ⟨w, h3, h4⟩ := valT_dt l hv
            exact ⟨_, w, rfl, .inl ⟨_, k, (hd_le _ _ _ _ : Ex _ _).rd s, rfl, h3.symm⟩, q w π2 H2 (n1.trans n2) h4⟩
        · cases h
      · cases h
    · cases h
theorem sv_dnew : EvS c (.Dict [] [] pos) Γ newDic := .mk fun μ t μ' h => by
  cases h
  intro X g φ π σ H s0 g0 Q q
  refine toE pe_dnewK ?_
  intro p np
  have n1 := s0.newOwn (o := .dK []) (m := .dic []) np rfl ⟨[], upd_same, .nil⟩
  exact q _ _ _ n1 ⟨p, by rw [← s0.len, List.getElem?_concat_length], rfl⟩
theorem nst_dput {ix : Expr} {apos : Pos} (he : EvS c e Γ me) (ho : EvS c a Γ mo) (hk : EvS c ix Γ mk) (hs : isComp e = false := by rfl) : NSt c (.Assign [.Subscript a ix apos] e pos) Γ (fun _ : Unit => Γ) (bnd me fun v => bnd mo fun u => bnd mk fun k => setDx u k v) := .mk fun μ r μ' h => by
  obtain ⟨v, μ1, h1, z⟩ := bnd_inv h
  clear h
  obtain ⟨u, μ2, h2, y⟩ := bnd_inv z
  clear z
  obtain ⟨kk, μ3, h3, h⟩ := bnd_inv y
  clear y
  unfold setDx at h
  split at h
  · rename_i i k hkey
    split at h
    · rename_i ts hi
      split at h
      · rename_i hl
        cases h
        intro X g φ π σ H s0 g0 D q
        refine toS (ps_dput (room1 g.room) pe_sem pe_sem pe_sem (no_swap hs _ _ _)) ?_
        refine he _ _ _ h1 X g φ π σ H s0 g0 _ fun w π1 H1 n1 k1 => ?_
        refine ho _ _ _ h2 X g φ π1 σ H1 n1.ok (g0.nx n1) _ fun v' π2 H2 n2 k2 => ?_
        refine hk _ _ _ h3 X g φ π2 σ H2 n2.ok ((g0.nx n1).nx n2) _ fun y π3 H3 n3 k3 => ?_
        have hy := keyOf_ok hkey k3
        subst hy
        obtain ⟨p, hp, rfl⟩ := k2.nx n3
        obtain ⟨vs, hv, hts⟩ := n3.ok.obj i p _ hp hi
        have n4 := n3.ok.write (o := .dK (putK vs k w)) (m' := .dic (putD ts k v)) hp hi rfl rfl ⟨_, upd_same, put_tk hts ((k1.nx n2).nx n3)⟩
        refine ⟨p, _, rfl, .inl ⟨vs, k, hv, rfl, by rw [← len_tk hts]; exact Nat.lt_trans hl (by decide), rfl⟩, ?_⟩
        exact q σ π3 _ (((n1.trans n2).trans n3).trans n4) (((g0.nx n1).nx n2).nx n3 |>.nx n4)
      · cases h
    · cases h
  · cases h
theorem any_valT {α : Type} (k : Key) : ∀ kvs : List (Key × α), (kvs.any fun kv => decide (kv.1 = k)) = (valT kvs k).isSome
  | [] => rfl
  | p :: r => by
    by_cases hp : p.1 = k
    · simp [valT, List.find?_cons, hp]
    · have := any_valT k r
      simp only [valT, List.find?_cons, decide_eq_false hp, List.any_cons, Bool.false_or] at this ⊢
      exact this
theorem din_at {X : Cx} {φ π : List Addr} {H : Hp} {μ μ' : List M} {x y : V} {b : T} (s0 : SOk X.K φ π H μ) (k1 : TOk X.K π (hd φ π μ H) u y) (k2 : TOk X.K π (hd φ π μ H) v x) (h : opDI u v μ = .ok b μ') : ∃ (a : Addr) (o : Option V), x = .ref a ∧ DGet H a y o ∧ b = .bl o.isSome ∧ μ' = μ := by
  unfold opDI at h
  split at h
  · cases h
  · rename_i k hk
    have hy := keyOf_ok hk k1
    subst hy
    split at h
    · cases h
      cases k2 with
      | dic s l => exact ⟨_, _, rfl, .inl ⟨_, k, (hd_le _ _ _ _ : Ex _ _).rd s, rfl, rfl⟩, by rw [← any_valT, any_dt l, valV_any], rfl⟩
    · split at h
      · rename_i i ts hi
        cases h
        obtain ⟨p, hp, rfl⟩ := k2
        obtain ⟨vs, h3, h4⟩ := s0.obj _ p _ hp hi
        exact ⟨p, _, rfl, .inl ⟨_, k, .inl h3, rfl, rfl⟩, by rw [← any_valT, any_tk h4, valV_any], rfl⟩
      · rename_i i ds hi
        cases h
        obtain ⟨p, hp, rfl⟩ := k2
        cases (s0.obj _ p _ hp hi).2 with
        | dic s l => exact ⟨_, _, rfl, .inl ⟨_, k, (hd_le _ _ _ _ : Ex _ _).rd s, rfl, rfl⟩, by rw [← any_valT, any_dt l, valV_any], rfl⟩
      · cases h
    · cases h
def rDI : R2 := fun x y H Q => ∃ (a : Addr) (o : Option V), y = .ref a ∧ DGet H a x o ∧ Q (.bl o.isSome) H
def rDN : R2 := fun x y H Q => ∃ (a : Addr) (o : Option V), y = .ref a ∧ DGet H a x o ∧ Q (.bl (!o.isSome)) H
theorem op_din {X : Cx} (hu : X.A.units + 1 < cLine) : OpR X (compareOp .In) rDI := by
  intro pins s σ H x y v u Q I rx ry h
  obtain ⟨a, o, rfl, g, q⟩ := h
  cases ry
  exact d_in hu I g rx fun s3 I3 => ⟨.bl o.isSome, H, I3, rfl, q⟩
theorem op_dnin {X : Cx} (hu : X.A.units + 1 < cLine) : OpR X (compareOp .NotIn) rDN := by
  intro pins s σ H x y v u Q I rx ry h
  obtain ⟨a, o, rfl, g, q⟩ := h
  cases ry
  exact d_notIn hu I g rx fun s3 I3 => ⟨.bl (!o.isSome), H, I3, rfl, q⟩
theorem din_ok : R2S c (compareOp .In) u v (opDI u v) := fun μ t μ' h X g => ⟨rDI, op_din (room1 g.room), fun φ π H x y s0 h1 h2 Q q => by
  obtain ⟨a, o, rfl, hd, rfl, rfl⟩ := din_at s0 h1 h2 h
  exact ⟨a, o, rfl, hd, q _ π H (Nxt.refl s0) (.bl _)⟩⟩
theorem dnin_ok : R2S c (compareOp .NotIn) u v (opDN u v) := fun μ t μ' h X g => ⟨rDN, op_dnin (room1 g.room), fun φ π H x y s0 h1 h2 Q q => by
  unfold opDN at h
  split at h
  · rename_i b μ1 hh
    cases h
    obtain ⟨a, o, rfl, hd, e, rfl⟩ := din_at s0 h1 h2 hh
    cases e
    exact ⟨a, o, rfl, hd, q _ π H (Nxt.refl s0) (.bl _)⟩
  · cases h⟩
end
end EN
/-! tuple[::-1]: the library's road for a cut tuple (HandS/List) and its frame for a list read backward (HandS/Style), turned to tuples. -/
namespace EN
open PySem PySem.Spec PyProof.Rows L2 HT
section
variable {prog : Program} {w : World} {A : Around} {E : Value → Shared → Prop} {s : Shared}
theorem slAdj (n : Nat) : Builtin.Slice.sliceAdjust none none (-1) (n : Int) = ((n : Int) - 1, -1) := rfl
theorem slPl (n : Nat) : Builtin.Slice.slicePlaces ((n : Int) - 1) (-1) (-1) = n := by
  unfold Builtin.Slice.slicePlaces
  rw [if_neg (by decide)]
  by_cases h : n = 0
  · subst h; rfl
  · rw [if_pos (by omega)]
    have : ((n : Int) - 1 - -1 - 1) / (- -1) = (n : Int) - 1 := by
      rw [show (- -1 : Int) = 1 by decide, Int.ediv_one]; omega
    rw [this]
    omega
theorem sliceApplied_rev {sl : Addr} {vl vu vs : Value} {n : Nat} {Q : Int × Int × Nat → Shared → Prop} (hs : s.heap.IsSliceOf sl vl vu vs) (pl : IsPart vl none) (pu : IsPart vu none) (ps : IsPart vs (some (-1)))
    (h : Q ((n : Int) - 1, -1, n) s) : wpAny (model prog w) A (Builtin.Slice.sliceApplied (.ref sl) (pure (n : Int))) Q E s := by
  obtain ⟨os, hos, hcs, hds⟩ := id hs
  unfold Builtin.Slice.sliceApplied Builtin.Slice.sliceFields
  refine wpAny_bind (wpAny_bind (wpAny_field hos hds (x := vl) rfl (wpAny_bind (wpAny_field hos hds (x := vu) rfl (wpAny_bind (wpAny_field hos hds (x := vs) rfl (wpAny_pure ?_)))))))
  refine wpAny_bind (slicePart_ ps ?_)
  show wpAny _ _ (if ((-1 : Int) == 0) = true then _ else _) _ _ s
  rw [if_neg (by decide)]
  refine wpAny_bind (slicePart_ pl (wpAny_bind (slicePart_ pu (wpAny_bind (wpAny_pure ?_)))))
  show wpAny _ _ (match Builtin.Slice.sliceAdjust none none (-1) (n : Int) with | (lo, hi) => pure (lo, (-1 : Int), Builtin.Slice.slicePlaces lo hi (-1))) _ _ s
  rw [slAdj n]
  show wpAny _ _ (pure ((n : Int) - 1, (-1 : Int), Builtin.Slice.slicePlaces ((n : Int) - 1) (-1) (-1))) _ _ s
  rw [slPl]
  exact wpAny_pure h
theorem pick_rev (xs : Array Value) : ((List.range xs.size).filterMap fun (m : Nat) => xs[((xs.size : Int) - 1 + (m : Int) * -1).toNat]?).toArray = xs.toList.reverse.toArray := by
  congr 1
  apply List.ext_getElem?
  intro i
  have e : (List.range xs.size).filterMap (fun (m : Nat) => xs[((xs.size : Int) - 1 + (m : Int) * -1).toNat]?) = (List.range xs.size).map (fun (m : Nat) => xs[xs.size - 1 - m]?.getD .none) := by
    have : ∀ l : List Nat, (∀ m ∈ l, m < xs.size) → l.filterMap (fun (m : Nat) => xs[((xs.size : Int) - 1 + (m : Int) * -1).toNat]?) = l.map (fun (m : Nat) => xs[xs.size - 1 - m]?.getD .none) := by
      intro l
      induction l with
      | nil => intro _; rfl
      | cons m l ih =>
        intro hm
        have h1 := hm m (by simp)
        have h2 : ((xs.size : Int) - 1 + (m : Int) * -1).toNat = xs.size - 1 - m := by omega
        rw [List.filterMap_cons, h2, List.map_cons, ih fun k hk => hm k (by simp [hk])]
        have h3 : xs.size - 1 - m < xs.size := by omega
        rw [Array.getElem?_eq_getElem h3]; rfl
    exact this _ fun m hm => List.mem_range.mp hm
  rw [e, List.getElem?_map]
  by_cases hi : i < xs.size
  · rw [List.getElem?_range hi, List.getElem?_reverse (by simpa using hi)]
    have h3 : xs.size - 1 - i < xs.size := by omega
    simp [Array.getElem?_eq_getElem h3, h3]
  · rw [List.getElem?_eq_none (by simpa using Nat.le_of_not_lt hi), List.getElem?_eq_none (by simpa using Nat.le_of_not_lt hi)]; rfl
theorem getItem_tuple_rev {t sl : Addr} {items : Array Value} {vl vu vs : Value} {Q : Value → Shared → Prop} (ht : IsTup s.heap t items) (hs : s.heap.IsSliceOf sl vl vu vs) (pl : IsPart vl none) (pu : IsPart vu none) (ps : IsPart vs (some (-1)))
    (h : Q (.ref s.heap.objs.size) { s with heap := s.heap.push { cls := .type "tuple", data := .seq items.toList.reverse.toArray } })
    (hsz : items.size ≤ sizeLine) : wpAny (model prog w) A (getItem (.ref t) (.ref sl)) Q E s := by
  have htake : sizeOk (.seq items.toList.reverse.toArray) := by
    show items.toList.reverse.toArray.size ≤ sizeLine
    simpa using hsz
  obtain ⟨os, hos, hcs, hds⟩ := id hs
  have hTs : s.TypeIs (.ref sl) "slice" := ⟨os, hos, hcs⟩
  unfold getItem
  try with_reducible refine wpAny_holding ?_
  first | refine wpAny_bind (wpAny_pure ?_) | skip
  refine wpAny_bind (wpAny_sequenceKey ht.typeIs (by decide) ?_)
  refine wpAny_bind (wpAny_callSpecial?_slot (name := Str.ofString "__getitem__") ht.typeIs PyProof.Rows.slot_tuple_getitem
    (wpAny_call_entry PyProof.Rows.slot_tuple_getitem ht.typeIs entry_tuple_getitem ?_ (args_tuple_getitem _ _)))
  show wpAny _ _ (Builtin.Tuple.tupleItemsOf (.ref t) >>= _) _ _ s
  refine wpAny_bind (tupleItemsOf_ ht ?_)
  refine wpAny_bind (wpAny_typeOf hTs ?_)
  rw [if_pos (by decide)]
  refine wpAny_bind (sliceApplied_rev hs pl pu ps ?_)
  have hno : ¬ ((((items.size : Int) - 1) == 0 && (-1 : Int) == 1 && items.size == items.size) = true) := by
    intro q
    rw [Bool.and_eq_true, Bool.and_eq_true] at q
    exact absurd q.1.2 (by decide)
  show wpAny _ _ (if (((items.size : Int) - 1) == 0 && (-1 : Int) == 1 && items.size == items.size) = true then _ else _) _ _ s
  rw [if_neg hno, pick_rev]
  first
    | exact wpAny_bind (m := Builtin.Tuple.tupleExact _) (wpAny_newObj_type (wpAny_pure ⟨_, rfl, wpAny_pure h⟩) htake)
    | exact wpAny_bind (m := Builtin.Tuple.tupleExact _) (wpAny_newObj_type (wpAny_bind (wpAny_pure (wpAny_pure ⟨_, rfl, wpAny_pure h⟩))) htake)
    | exact wpAny_bind (wpAny_bind (m := Builtin.Tuple.tupleExact _) (wpAny_newObj_type (wpAny_pure (wpAny_pure ⟨_, rfl, wpAny_pure h⟩)) htake))
    | exact wpAny_bind (wpAny_bind (m := Builtin.Tuple.tupleExact _) (wpAny_newObj_type (wpAny_pure ⟨_, rfl, wpAny_pure h⟩) htake))
end
def tRevT (K : PySem.W.Frag) (te : TE) : TE := fun σ H Q => te σ H fun x H1 => ∃ a xs, x = .ref a ∧ SqT K H1 a xs ∧ ∀ p, H1 p = none → Q (.ref p) (upd H1 p (.tup xs.reverse))
theorem pe_revT {X : Cx} {e : Expr} {te : TE} {k : Nat} {p1 p2 p3 pos : Pos} (he : PE X e te) : PE X (.Subscript e (.Slice none none (some (.UnaryOp .USub (.Constant (.int 1) k p1) p2)) p3) pos) (tRevT X.K te) := by
  refine ⟨fun pins s σ H Q I h => ?_⟩
  refine Subscript_ (thn (he.run pins s σ H _ I h) fun v s1 ⟨x, H1, I1, r1, q1⟩ => ?_)
  obtain ⟨a, xs, ex, hx, q⟩ := q1
  subst ex
  cases r1
  have hst : PO X (some (.UnaryOp .USub (.Constant (.int 1) k p1) p2)) (tPart (tUn (rU fun i => .int (-i)) (tC (.int 1)))) := po_some (pe_un un_neg pe_int)
  refine wpAny_Slice (thn (po_none.run pins s1 σ H1 (fun o H2 => o = none ∧ H2 = H1) I1 ⟨rfl, rfl⟩) fun vl s2 ⟨l, H2, I2, pl, el, e2⟩ => ?_)
  subst el e2
  refine thn (po_none.run pins s2 σ H2 (fun o H3 => o = none ∧ H3 = H2) I2 ⟨rfl, rfl⟩) fun vu s3 ⟨u, H3, I3, pu, eu, e3⟩ => ?_
  subst eu e3
  refine thn (hst.run pins s3 σ H3 (fun o H4 => o = some (-1) ∧ H4 = H3) I3 ⟨1, rfl, -1, rfl, rfl, rfl⟩) fun vs s4 ⟨o, H4, I4, ps, eo, e4⟩ => ?_
  subst eo e4
  have I5 : Inv X pins σ H4 { s4 with heap := s4.heap.push { cls := .type "slice", data := .fields #[vl, vu, vs] } } := I4.kept (t' := s4.toks) fun b ob q => Heap.get?_push_of_some _ q
  obtain ⟨its, r, ht, hz⟩ := I5.tuple hx
  have hlen := r.length
  show wpAny (model X.prog X.w) X.A (subscriptTail e (.Slice none none (some (.UnaryOp .USub (.Constant (.int 1) k p1) p2)) p3) (.ref a) (.ref s4.heap.objs.size)) (EP X pins σ Q) X.xe { s4 with heap := s4.heap.push { cls := .type "slice", data := .fields #[vl, vu, vs] } }
  refine tail_any (ops := [.ref a, .ref s4.heap.objs.size]) ht.typeIs (PyProof.Rows.slot_tuple_getitem.lookup) ?_ (by with_unfolding_all rfl)
  refine getItem_tuple_rev ht (Heap.IsSliceOf.new _ vl vu vs) pl pu ps ?_ (by rw [List.size_toArray]; omega)
  refine ⟨.ref _, _, I5.laid (t' := s4.toks) (o := .tup xs.reverse) (fun b ob q => Heap.get?_push_of_some _ q) (Nat.le_refl _) ?_, rfl, q _ (I5.hok.fresh (Nat.le_refl _))⟩
  exact ⟨by rw [List.length_reverse]; exact hz, _, r.reverse, IsTup.new _ _⟩
section
variable {c : EN.Ctx} {e : Expr} {Γ : List (Option T)} {μ μ1 : List M} {m : Sh T} {ds : List D} {pos : Pos}
theorem ev_revT {kk : Nat} {p1 p2 p3 : Pos} (h : EvJ c e Γ μ (.dat (.tup ds)) μ1) : EvJ c (.Subscript e (.Slice none none (some (.UnaryOp .USub (.Constant (.int 1) kk p1) p2)) p3) pos) Γ μ (.dat (.tup ds.reverse)) μ1 := by
  intro X g φ π σ H s0 g0 Q q
  refine toE (pe_revT pe_sem) ?_
  refine h X g φ π σ H s0 g0 _ fun v π1 H1 n1 k1 => ?_
  cases k1 with
  | tup s l =>
    refine ⟨_, _, rfl, (hd_le _ _ _ _ : Ex _ _).sqT s, fun p np => ?_⟩
    obtain ⟨n2, at1⟩ := n1.ok.newData np
    exact q _ π1 _ (n1.trans n2) (.tup (SqT.of at1) (DtL.mono n2.le l.rev))
def opRv (x : T) : Sh T := fun μ => match x with
  | .dat (.lst ds) => .ok (.dat (.lst ds.reverse)) μ
  | .dat (.tup ds) => .ok (.dat (.tup ds.reverse)) μ
  | _ => .no
theorem sv_rv {kk : Nat} {p1 p2 p3 : Pos} (h : EvS c e Γ m) : EvS c (.Subscript e (.Slice none none (some (.UnaryOp .USub (.Constant (.int 1) kk p1) p2)) p3) pos) Γ (bnd m opRv) := .mk fun μ t μ' q => by
  obtain ⟨u, μ1, q1, q⟩ := bnd_inv q
  unfold opRv at q
  split at q
  · cases q; exact ev_revL (h _ _ _ q1)
  · cases q; exact ev_revT (h _ _ _ q1)
  · cases q
end
end EN
/-! a comprehension's list for a name that inner scopes read -/
namespace EN
open PySem PySem.Spec PyProof.Rows L2
theorem no_swapC {e : Expr} {y : Str} {py : Pos} {l : Nat} {env : Env} (h : env.scope.names.lookup y = some .cell) : swapsWith e (some (.Name y py)) l env = pure false := by
  have ky : env.kindOf y = some .cell := h
  unfold swapsWith
  cases e <;> first | rfl | (simp only [ky]; simp only [Option.some_beq_some]; rw [show (NameKind.cell == NameKind.local) = false from rfl]; simp only [Bool.and_false, Bool.false_and]) | (simp [ky]; rw [show (NameKind.cell == NameKind.local) = false from rfl]; simp)
theorem st_cellG {c : EN.Ctx} {e : Expr} {Γ : List (Option T)} {m : Sh T} {p pos : Pos} {i : Nat} {x : Str} {g : T → List (Option T)} (h : EvS c e Γ m) (hi : c.N[i]? = some x) (hx : c.sc.names.lookup x = some .cell) (he : ∀ t, Γ.set i (some t) = g t) (hf : c.sto x = true := by rfl) : NSt c (.Assign [.Name x p] e pos) Γ g m := .mk fun μ t μ' q => by
  have : StJ c (.Assign [.Name x p] e pos) Γ μ (.nx (Γ.set i (some t)) μ') := by
    intro X gd φ π σ H s0 g0 D q'
    refine toS (ps_set (i := i) (by rw [gd.N]; exact gd.nd) (by rw [gd.N]; exact hi) (by rw [gd.sc]; exact .inr hx) pe_sem (no_swapC (by rw [gd.sc]; exact hx)) (gd.sto x hf)) ?_
    exact h _ _ _ q X gd φ π σ H s0 g0 _ fun v π1 H1 n1 k1 => q' _ π1 H1 n1 ((g0.nx n1).set k1)
  exact he t ▸ this
end EN
/-! dict displays -/
namespace EN
open PySem PySem.Spec PyProof.Rows L2
structure PrS (c : EN.Ctx) (ks : List (Option Expr)) (vs : List Expr) (Γ : List (Option T)) (n : Sh (List (Key × T))) : Prop where
  run : ∀ μ ps μ', n μ = .ok ps μ' → ∀ X, Good c X → ∃ trs : List (TE × TE), (∀ pos, PPs X pos ks vs trs) ∧ ∀ φ π σ H, SOk X.K φ π H μ → FOk X.K π (hd φ π μ H) Γ σ → ∀ Q : List (V × V) → Hp → Prop,
    (∀ (kvs : List (Key × V)) π' H', Nxt X.K φ π H μ π' H' μ' → TK X.K π' (hd φ π' μ' H') ps kvs → Q (kvs.map fun kv => (kV kv.1, kv.2)) H') → tPairs trs σ H Q
def mkPair (a b : T) (ps : List (Key × T)) : Sh (List (Key × T)) := match keyOf a with
  | some k => ret ((k, b) :: ps)
  | none => stop
def mergeD (kvs more : List (Key × T)) : List (Key × T) := more.foldl (fun acc kv => putD acc kv.1 kv.2) kvs
def dispD (d : T) (ps : List (Key × T)) : Sh T := fun μ => match d with
  | .own i => (match μ[i]? with
    | some (.dic []) => if ps.length ≤ 15 then .ok (.own i) (μ.set i (.dic (mergeD [] ps))) else .no
    | _ => .no)
  | _ => .no
theorem merge_tk {K : PySem.W.Frag} {π : List Addr} {Hd : Hp} : ∀ {ms : List (Key × T)} {ws : List (Key × V)} {ts : List (Key × T)} {vs : List (Key × V)}, TK K π Hd ms ws → TK K π Hd ts vs → TK K π Hd (mergeD ts ms) (mergeK vs ws) := by
  intro ms ws ts vs h
  induction h generalizing ts vs with
  | nil => intro q; exact q
  | cons q r ih => intro q2; exact ih (put_tk q2 q)
section
variable {c : EN.Ctx} {k v : Expr} {ks : List (Option Expr)} {vs : List Expr} {Γ : List (Option T)} {n : Sh (List (Key × T))} {mk mv : Sh T} {pos : Pos}
theorem pr_nil : PrS c [] [] Γ (ret []) := .mk fun μ ps μ' h X g => by
  cases h
  exact ⟨[], fun _ => pps_nil, fun φ π σ H s0 g0 Q q => q [] π H (Nxt.refl s0) .nil⟩
theorem pr_cons (hk : EvS c k Γ mk) (hv : EvS c v Γ mv) (r : PrS c ks vs Γ n) : PrS c (some k :: ks) (v :: vs) Γ (bnd mk fun a => bnd mv fun b => bnd n fun ps => mkPair a b ps) := .mk fun μ ps μ' h X g => by
  obtain ⟨a, μ1, h1, z⟩ := bnd_inv h
  clear h
  obtain ⟨b, μ2, h2, y⟩ := bnd_inv z
  clear z
  obtain ⟨qs, μ3, h3, h⟩ := bnd_inv y
  clear y
  obtain ⟨trs, hp, ok⟩ := r.run _ _ _ h3 X g
  cases hkey : keyOf a with
  | some kk =>
    simp only [mkPair, hkey] at h
    cases h
    refine ⟨(semE X k, semE X v) :: trs, fun pos => pps_cons pe_sem pe_sem (hp pos), fun φ π σ H s0 g0 Q q => ?_⟩
    refine hk _ _ _ h1 X g φ π σ H s0 g0 _ fun x π1 H1 n1 k1 => ?_
    refine hv _ _ _ h2 X g φ π1 σ H1 n1.ok (g0.nx n1) _ fun y π2 H2 n2 k2 => ?_
    refine ok φ π2 σ H2 n2.ok ((g0.nx n1).nx n2) _ fun kvs π3 H3 n3 k3 => ?_
    have hx := keyOf_ok hkey k1
    subst hx
    exact q ((kk, y) :: kvs) π3 H3 ((n1.trans n2).trans n3) (.cons (k2.nx n3) k3)
  | none => simp only [mkPair, hkey] at h; cases h
theorem sv_disp (h : PrS c ks vs Γ n) (hall : ks.all (·.isSome) = true := by rfl) (hl : ks.length = vs.length := by rfl) (h0 : ks ≠ [] := by exact List.cons_ne_nil _ _) (h15 : Nat.ble ks.length 15 = true := by rfl) : EvS c (.Dict ks vs pos) Γ (bnd newDic fun d => bnd n fun ps => dispD d ps) := .mk fun μ t μ' hh => by
  obtain ⟨d, μ1, e1, z⟩ := bnd_inv hh
  clear hh
  cases e1
  obtain ⟨ps, μ2, h2, hh⟩ := bnd_inv z
  clear z
  intro X g φ π σ H s0 g0 Q q
  obtain ⟨trs, hp, ok⟩ := h.run _ _ _ h2 X g
  refine toE (pe_disp (hp pos) hall hl h0 (Nat.le_of_ble_eq_true h15)) ?_
  intro p np
  have n1 := s0.newOwn (o := .dK []) (m := .dic []) np rfl ⟨[], upd_same, .nil⟩
  refine ok φ _ σ _ n1.ok (g0.nx n1) _ fun kvs π2 H2 n2 k2 => ?_
  unfold dispD at hh
  simp only at hh
  split at hh
  · rename_i hi
    split at hh
    · rename_i hlen
      cases hh
      have hp1 : (π ++ [p])[μ.length]? = some p := by rw [← s0.len, List.getElem?_concat_length]
      have hp2 : π2[μ.length]? = some p := by
        obtain ⟨π3, rfl⟩ := n2.ext
        rw [List.getElem?_append_left (List.getElem?_eq_some_iff.mp hp1).1]; exact hp1
      obtain ⟨ws, hw, hts⟩ := n2.ok.obj _ p _ hp2 hi
      cases hts
      have n4 := n2.ok.write (o := .dK (mergeK [] kvs)) (m' := .dic (mergeD [] ps)) hp2 hi rfl rfl ⟨_, upd_same, merge_tk k2 .nil⟩
      exact ⟨hw, kvs, rfl, by rw [← len_tk k2]; exact hlen, q _ π2 _ ((n1.trans n2).trans n4) ⟨p, hp2, rfl⟩⟩
    · cases hh
  · cases hh
end
end EN
/-! zip of a list with a tuple: the library's turn over two tuples (HandS/Zip), turned to a list and a tuple by its rules for any two walkers (KE/GoesZip). -/
namespace EN
open PySem PySem.Spec PyProof.Rows L2
open AutoSeq1 (wpAny_loadPart')
def ItzM (K : PySem.W.Frag) (a b : Addr) : It :=
  ⟨fun i H => ∃ (xs ys : List V) (x y : V), SqL K H a xs ∧ SqT K H b ys ∧ xs[i]? = some x ∧ ys[i]? = some y,
    fun i H v H' => ∃ T x y, v = .ref T ∧ H T = none ∧ H' = upd H T (.tup [x, y]) ∧ (∀ xs, SqL K H a xs → xs[i]? = some x) ∧ ∀ ys, SqT K H b ys → ys[i]? = some y,
    fun i H => ∃ xs ys : List V, SqL K H a xs ∧ SqT K H b ys ∧ (xs.length ≤ i ∨ ys.length ≤ i)⟩
theorem zsep {z TI TO i1 i2 a b : Addr} (D : ZipApart z TI TO i1 i2 a b) (h1 : i1 ≠ b) (h2 : i2 ≠ a) : ZipSep2 z TI TO i1 i2 [i1, a] [i2, b] where
  TIz := D.TIz
  TOz := D.TOz
  TITO := D.TITO
  TIi1 := D.TIi1
  mem1 := by simp
  zf1 := by simp [Ne.symm D.i1z, Ne.symm D.l1z]
  Tf1 := by simp [D.TOi1, Ne.symm D.l1TO]
  TIi2 := D.TIi2
  mem2 := by simp
  zf2 := by simp [Ne.symm D.i2z, Ne.symm D.l2z]
  Tf2 := by simp [D.TOi2, Ne.symm D.l2TO]
  sep1_2 := by simp [D.i12, h1]
  sep2_1 := by simp [Ne.symm D.i12, h2]
theorem draws_tupE {prog : Program} {w : World} {A : Around} {it t : Addr} {items : Array Value} {N : Nat} (hh : A.handled = none) (hN : items.size ≤ N) :
    Draws prog w A it [it, t] N (fun _ _ => False) (fun i h => i = N ∧ h.IsTupleIter it t i ∧ h.IsTuple t items) where
  live := fun i h st => by
    obtain ⟨_, ⟨o, ho, _⟩, _⟩ := st
    exact ⟨o, ho⟩
  frame := fun i h h' st k => ⟨st.1, st.2.1.at fun o q => k it (by simp) o q, st.2.2.at fun o q => k t (by simp) o q⟩
  item := fun i s Q E hi st hQ => absurd st.1 (by omega)
  done := fun s Q E st hE => wpAny_nextOf_tuple_end hh st.2.1 st.2.2 (by simp; omega) hE
theorem draws_lstE {prog : Program} {w : World} {A : Around} {it l : Addr} {items : Array Value} {N : Nat} (hh : A.handled = none) (hN : items.size ≤ N) :
    Draws prog w A it [it, l] N (fun _ _ => False) (fun i h => i = N ∧ h.IsListIter it l i ∧ h.IsList l items) where
  live := fun i h st => by
    obtain ⟨_, ⟨o, ho, _⟩, _⟩ := st
    exact ⟨o, ho⟩
  frame := fun i h h' st k => ⟨st.1, st.2.1.at fun o q => k it (by simp) o q, st.2.2.at fun o q => k l (by simp) o q⟩
  item := fun i s Q E hi st hQ => absurd st.1 (by omega)
  done := fun s Q E st hE => wpAny_nextOf_list_end hh st.2.1 st.2.2 (by simp; omega) hE
theorem turn_zipM {P : Program} {w : World} {K : PySem.W.Frag} {elts : List Expr} {kk : Nat} {tpos : Pos} {a b z TI TO i1 i2 : Addr} (D : ZipApart z TI TO i1 i2 a b) (d1 : i1 ≠ b) (d2 : i2 ≠ a) (d3 : a ≠ i1) (d4 : i2 ≠ b) :
    Turn P w K (.Tuple elts kk tpos) (ItzM K a b) [z, TI, TO, i1, i2] z (fun i h => IsZip h z TI TO .none ∧ IsPair h TI (.ref i1) (.ref i2) ∧ (∃ x y, IsPair h TO x y) ∧ h.IsListIter i1 a i ∧ h.IsTupleIter i2 b i) where
  mem := by simp
  obj := fun i h st c hc => by
    obtain ⟨hz, hTI, ⟨x, y, hTO⟩, ⟨o1, e1, _, d1⟩, ⟨o2, e2, _, d2⟩⟩ := st
    have e' : c = z ∨ c = TI ∨ c = TO ∨ c = i1 ∨ c = i2 := by simpa using hc
    rcases e' with q | q | q | q | q
    · rw [q]; exact ⟨_, hz, fun v q => nomatch q⟩
    · rw [q]; exact ⟨_, hTI, fun v q => nomatch q⟩
    · rw [q]; exact ⟨_, hTO, fun v q => nomatch q⟩
    · rw [q]; exact ⟨o1, e1, fun v q => by rw [d1] at q; cases q⟩
    · rw [q]; exact ⟨o2, e2, fun v q => by rw [d2] at q; cases q⟩
  keep := fun i h h' st k => by
    obtain ⟨hz, hTI, ⟨x, y, hTO⟩, h1, h2⟩ := st
    exact ⟨k z (by simp) _ hz, k TI (by simp) _ hTI, ⟨x, y, k TO (by simp) _ hTO⟩, h1.at fun o q => k i1 (by simp) o q, h2.at fun o q => k i2 (by simp) o q⟩
  item := by
    intro X hP hw hK hc i pins s σ H E I hf st hg
    subst hP hw hK
    obtain ⟨hz, hTI, ⟨x0, y0, hTO⟩, h1, h2⟩ := st
    obtain ⟨xs, ys, x, y, hqx, hqy, hx, hy⟩ := hg
    obtain ⟨its, rv, p, _⟩ := I.list hqx
    obtain ⟨its2, rv2, p2, _⟩ := I.tuple hqy
    obtain ⟨u, hu, ru⟩ := rv.get hx
    obtain ⟨u2, hu2, ru2⟩ := rv2.get hy
    have hzl : z < s.heap.objs.size := Heap.lt_size hz
    have hi1 : i < its.toArray.size := by simpa using (List.getElem?_eq_some_iff.mp hu).1
    have hi2 : i < its2.toArray.size := by simpa using (List.getElem?_eq_some_iff.mp hu2).1
    refine wpAny_pyNext_zipD2_item (zsep D d1 d2) (Draws.list (A := X.A.in1) (I.ok.hd hc) i1 a d3 its.toArray) (draws_tup (A := X.A.in1) (I.ok.hd hc) d4) hz hTI hTO ⟨h1, p.isList⟩ ⟨h2, p2⟩ hi1 hi2 fun x1 x2 h' tk q1 q2 z' TO' h1' h2' hT hsz hk => ?_
    have ex : x1 = u := by
      have : its.toArray[i]? = some u := by simpa using hu
      rw [this] at q1; exact (Option.some.inj q1).symm
    have ey : x2 = u2 := by
      have : its2.toArray[i]? = some u2 := by simpa using hu2
      rw [this] at q2; exact (Option.some.inj q2).symm
    subst ex ey
    refine ⟨_, rfl, wpAny_letOwnedTupleGo_zip (s := { s with heap := h', toks := tk }) z' fun h'' z'' sb => ?_⟩
    have hT2 : h''.get? s.heap.objs.size = some { cls := .type "tuple", data := .seq #[x1, x2] } := (sb.2 _ (Nat.ne_of_gt hzl)).trans hT
    have new : ObjOk X.prog X.w (upd H s.heap.objs.size (.tup [x, y])) h'' s.heap.objs.size (.tup [x, y]) :=
      ⟨by show 2 ≤ sizeLine; decide, [x1, x2], .cons ru (.cons ru2 .nil), ⟨_, hT2, rfl, _, rfl⟩⟩
    have I1 : Inv X pins σ (upd H s.heap.objs.size (.tup [x, y])) { s with heap := h'', toks := tk } :=
      I.turnedNew (ch := [z, TI, TO, i1, i2]) (fun c o hb q => (sb.2 c (fun q' => hb (by simp [q']))).trans (hk c o (fun q' => hb (by simp [q'])) (fun q' => hb (by simp [q'])) (fun q' => hb (by simp [q'])) (fun q' => hb (by simp [q'])) q)) hf (Nat.le_refl _) new
    refine ⟨.ref s.heap.objs.size, _, I1, rfl, ⟨_, x, y, rfl, I.hok.fresh (Nat.le_refl _), rfl, fun l hl => by rw [I.list_inj hl hqx]; exact hx, fun l hl => by rw [I.tuple_inj hl hqy]; exact hy⟩, ⟨z'', ?_, ⟨x1, x2, ?_⟩, ?_, ?_⟩, fun c hcm => ?_⟩
    · exact (sb.2 _ D.TIz).trans (hk _ _ D.TIz D.TITO D.TIi1 D.TIi2 hTI)
    · exact (sb.2 _ D.TOz).trans TO'
    · exact h1'.1.at fun o q => (sb.2 _ D.i1z).trans q
    · exact h2'.1.at fun o q => (sb.2 _ D.i2z).trans q
    · have hlt : c < s.heap.objs.size := by
        have e' : c = z ∨ c = TI ∨ c = TO ∨ c = i1 ∨ c = i2 := by simpa using hcm
        rcases e' with q | q | q | q | q
        · rw [q]; exact hzl
        · rw [q]; exact Heap.lt_size hTI
        · rw [q]; exact Heap.lt_size hTO
        · rw [q]; obtain ⟨_, e1, _⟩ := h1; exact Heap.lt_size e1
        · rw [q]; obtain ⟨_, e2, _⟩ := h2; exact Heap.lt_size e2
      rw [upd_ne (Nat.ne_of_lt hlt)]
      exact (hf c hcm).1
  done := by
    intro X hP hw hK hc i pins s σ H E I hf st hg
    subst hP hw hK
    obtain ⟨hz, hTI, ⟨x0, y0, hTO⟩, h1, h2⟩ := st
    obtain ⟨xs, ys, hqx, hqy, he⟩ := hg
    obtain ⟨its, rv, p, _⟩ := I.list hqx
    obtain ⟨its2, rv2, p2, _⟩ := I.tuple hqy
    have l1 := rv.length
    have l2 := rv2.length
    have fin : ∀ h' tk, (∀ c o, c ≠ z → c ≠ TO → c ≠ i1 → c ≠ i2 → s.heap.get? c = some o → h'.get? c = some o) → Inv X pins σ H { s with heap := h', toks := tk } := fun h' tk hk =>
      I.turnedL (t' := tk) (ch := [z, TI, TO, i1, i2]) (fun c o hb q => hk c o (fun q' => hb (by simp [q'])) (fun q' => hb (by simp [q'])) (fun q' => hb (by simp [q'])) (fun q' => hb (by simp [q'])) q) hf
    by_cases c1 : xs.length ≤ i
    · by_cases c2 : ys.length ≤ i
      · exact wpAny_pyNext_zipD2_end (zsep D d1 d2) (draws_lstE (A := X.A.in1) (N := i) (items := its.toArray) (I.ok.hd hc) (by simp; omega)) (draws_tupE (A := X.A.in1) (N := i) (items := its2.toArray) (I.ok.hd hc) (by simp; omega)) hz hTI hTO ⟨rfl, h1, p.isList⟩ ⟨rfl, h2, p2⟩ (Nat.le_refl _) (Nat.le_refl _) (.inl rfl) fun h' tk hk => ⟨rfl, fin h' tk hk⟩
      · exact wpAny_pyNext_zipD2_end (zsep D d1 d2) (draws_lstE (A := X.A.in1) (N := i) (items := its.toArray) (I.ok.hd hc) (by simp; omega)) (draws_tup (A := X.A.in1) (items := its2.toArray) (I.ok.hd hc) d4) hz hTI hTO ⟨rfl, h1, p.isList⟩ ⟨h2, p2⟩ (Nat.le_refl _) (by simp; omega) (.inl rfl) fun h' tk hk => ⟨rfl, fin h' tk hk⟩
    · exact wpAny_pyNext_zipD2_end (zsep D d1 d2) (Draws.list (A := X.A.in1) (I.ok.hd hc) i1 a d3 its.toArray) (draws_tupE (A := X.A.in1) (N := i) (items := its2.toArray) (I.ok.hd hc) (by simp; omega)) hz hTI hTO ⟨h1, p.isList⟩ ⟨rfl, h2, p2⟩ (by simp; omega) (Nat.le_refl _) (.inr rfl) fun h' tk hk => ⟨rfl, fin h' tk hk⟩
  self := fun A i s Q E st h => wpAny_pyIter_zip st.1 h
def iZipM (K : PySem.W.Frag) (ta : TA) : TI := fun σ H R => ta σ H fun vs H1 => ∃ a b xs ys, vs = [.ref a, .ref b] ∧ SqL K H1 a xs ∧ SqT K H1 b ys ∧ R (ItzM K a b) H1
theorem pi_zipM {X : Cx} {e e2 : Expr} {ta : TA} {p pos tpos : Pos} {elts : List Expr} {kk : Nat} (hg : Gl X "zip") (hm : X.mg "zip" = none) (ha : PA X [e, e2] ta)
    (hs : starEach [e, e2] X.env = (false, eval e X.env) :: starEach [e2] X.env := by rfl) (hpl : (backTo pos (starEach [e2] X.env)).any (·.1) = false := by rfl) :
    PI X (.Tuple elts kk tpos) (.Call (.Name "zip" p) [e, e2] [] pos) (iZipM X.K ta) := by
  refine ⟨fun pins s σ H R I h => ?_⟩
  refine Call_ (ld_blt I hg hm PyProof.Rows.boot_zip (PyProof.Rows.callWith_type1 (thn (ha.run pos pins s σ H _ I h) fun us s1 ⟨vs, H1, I1, r1, q1⟩ => ?_) hs hpl))
  obtain ⟨a, b, xs, ys, ex, hqx, hqy, q⟩ := q1
  subst ex
  cases r1 with
  | cons r rr =>
    cases rr with
    | cons r' rr =>
      cases rr
      cases r
      cases r'
      have fresh5 : ∀ c, c ∈ [s1.heap.objs.size + 4, s1.heap.objs.size + 2, s1.heap.objs.size + 3, s1.heap.objs.size, s1.heap.objs.size + 1] → FpOk X pins H1 c := fun c hcm => by
        have e' : c = s1.heap.objs.size + 4 ∨ c = s1.heap.objs.size + 2 ∨ c = s1.heap.objs.size + 3 ∨ c = s1.heap.objs.size ∨ c = s1.heap.objs.size + 1 := by simpa using hcm
        have hle : s1.heap.objs.size ≤ c := by omega
        exact I1.fpOk hle (I1.hok.fresh hle)
      obtain ⟨its, rv, p1, _⟩ := I1.list hqx
      obtain ⟨its2, rv2, p2, _⟩ := I1.tuple hqy
      obtain ⟨o2, ho2, _⟩ := id p2
      have la : a < s1.heap.objs.size := p1.lt
      have lb : b < s1.heap.objs.size := Heap.lt_size ho2
      refine zip_begins2 (begins_list a its.toArray) (begins_tuple b its2.toArray) p1.isList p2 fun h' hz hTI hTO g1 g2 hsz hk => wpAny_pyIter_zip hz ?_
      have I2 : Inv X pins σ H1 { s1 with heap := h' } := I1.kept (t' := s1.toks) hk
      exact ⟨s1.heap.objs.size + 4, [s1.heap.objs.size + 4, s1.heap.objs.size + 2, s1.heap.objs.size + 3, s1.heap.objs.size, s1.heap.objs.size + 1], _, _, H1, rfl, I2, turn_zipM (i1 := s1.heap.objs.size) (i2 := s1.heap.objs.size + 1) (PySem.W.ktu_apart s1.heap.objs.size a b la lb) (Nat.ne_of_gt lb) (Nat.ne_of_gt (Nat.lt_succ_of_lt la)) (Nat.ne_of_lt la) (Nat.ne_of_gt (Nat.lt_succ_of_lt lb)), ⟨hz, hTI, ⟨_, _, hTO⟩, ⟨_, g1, rfl, rfl⟩, ⟨_, g2, rfl, rfl⟩⟩, fresh5, q⟩
section
variable {c : EN.Ctx} {a b : Expr} {Γ : List (Option T)} {μ μ1 μ2 : List M} {ma mb : Sh T} {ds : List D} {pos : Pos}
theorem it_zipM {elts : List Expr} {kk : Nat} {tpos p : Pos} {es : List D} (h : EvJ c a Γ μ (.dat (.lst ds)) μ1) (h' : EvJ c b Γ μ1 (.dat (.tup es)) μ2) (hg : c.sc.names.lookup ("zip" : Str) = some .globalImplicit) (hm : c.mg "zip" = none) (hs : isStar a = false := by rfl) (hs' : isStar b = false := by rfl) :
    IterJ c (.Tuple elts kk tpos) (.Call (.Name "zip" p) [a, b] [] pos) Γ μ (zpD ds es) μ2 := fun X g =>
  ⟨_, pi_zipM (show X.env.scope.names.lookup ("zip" : Str) = _ by rw [g.sc]; exact hg) (by rw [g.mg]; exact hm) pa_sem (by rw [star_cons hs]) (by rw [star_cons hs']; rfl), fun φ π σ H s0 g0 R q => by
  refine (aj_cons h (aj_cons h' aj_nil hs') hs : AJ c [a, b] Γ μ [_, _] μ2) X g φ π σ H s0 g0 _ fun vs π1 H1 n1 k1 => ?_
  obtain ⟨v, w, rfl, k, k'⟩ := k1.two
  cases k with
  | lst s l =>
    cases k' with
    | tup s' l' =>
      rename_i p0 vs0 p1 vs1
      refine ⟨_, _, _, _, rfl, (hd_le _ _ _ _ : Ex _ _).sqL s, (hd_le _ _ _ _ : Ex _ _).sqT s', q _ π1 H1 n1 fun i φ2 π2 H2 μ2 s2' _ le => ?_⟩
      have s2 : SqL X.K H2 p0 vs0 := (hd_le _ _ _ _ : Ex _ _).sqL (Ex.sqL le s)
      have s3 : SqT X.K H2 p1 vs1 := (hd_le _ _ _ _ : Ex _ _).sqT (Ex.sqT le s')
      refine ⟨fun t ht => ?_, fun hi => ⟨vs0, vs1, s2, s3, by rw [← l.len, ← l'.len]; rw [len_zp] at hi; omega⟩⟩
      obtain ⟨x, y, hx, hy, rfl⟩ := zpD_get ht
      obtain ⟨x1, hx1, kx⟩ := (DtL.mono le l).get hx
      obtain ⟨y1, hy1, ky⟩ := (DtL.mono le l').get hy
      refine ⟨⟨vs0, vs1, x1, y1, s2, s3, hx1, hy1⟩, fun z H' hz => ?_⟩
      obtain ⟨T0, x0, y0, rfl, hT, rfl, hz, hz'⟩ := hz
      have e1 := hz vs0 s2
      rw [hx1] at e1; cases e1
      have e2 := hz' vs1 s3
      rw [hy1] at e2; cases e2
      obtain ⟨n3, at3⟩ := s2'.newData (o := .tup [x1, y1]) hT
      exact ⟨n3, .tup (SqT.of at3) (.cons (Dt.mono n3.le kx) (.cons (Dt.mono n3.le ky) .nil))⟩⟩
/-- zip of lists, or of a list with a tuple -/
def itZp (x y : T) : Sh (List T) := fun μ => match x, y with
  | .dat (.lst ds), .dat (.lst es) => .ok (zpD ds es) μ
  | .dat (.lst ds), .dat (.tup es) => .ok (zpD ds es) μ
  | _, _ => .no
theorem it_zpM {elts : List Expr} {kk : Nat} {tpos p : Pos} (h : EvS c a Γ ma) (h' : EvS c b Γ mb) (hg : gloB c.sc "zip" = true) (hm : c.mg "zip" = none) (hs : isStar a = false := by rfl) (hs' : isStar b = false := by rfl) : IterS c (.Tuple elts kk tpos) (.Call (.Name "zip" p) [a, b] [] pos) Γ (bnd ma fun u => bnd mb fun v => itZp u v) := .mk fun μ its μ1 q => by
  obtain ⟨u, μ2, h1, q⟩ := bnd_inv q
  obtain ⟨v, μ3, h2, q⟩ := bnd_inv q
  unfold itZp at q
  split at q
  · cases q; exact it_zip (h _ _ _ h1) (h' _ _ _ h2) (gloB_ok hg).1 hm hs hs'
  · cases q; exact it_zipM (h _ _ _ h1) (h' _ _ _ h2) (gloB_ok hg).1 hm hs hs'
  · cases q
end
end EN
/-! for over a dict of one's own: it is data from there on, and locked while the loop runs. -/
namespace EN
open PySem PySem.Spec PyProof.Rows L2
/-- two heaps unlike only in that a dict is locked -/
structure LkAt (H H' : Hp) (p : Addr) (kvs : List (Key × V)) : Prop where
  other : ∀ b, b ≠ p → H' b = H b
  here : Rd H p (.dK kvs)
  there : Rd H' p (.dK kvs)
section
variable {K : PySem.W.Frag} {H H' : Hp} {p : Addr} {kvs : List (Key × V)}
theorem Rd.lk {a : Addr} {u : HO} (L : LkAt H H' p kvs) (h : Rd H a u) (hu : ∀ o v, u ≠ .frz o v) : Rd H' a u := by
  by_cases e : a = p
  · subst e
    have : u = .dK kvs := by
      rcases h with h | ⟨o, h⟩ <;> rcases L.here with q | ⟨o', q⟩
      · rw [h] at q; cases q; rfl
      · rw [h] at q; cases q; exact absurd rfl (hu _ _)
      · rw [h] at q; cases q
      · rw [h] at q; cases q; rfl
    rw [this]; exact L.there
  · rcases h with h | ⟨o, h⟩
    · exact .inl ((L.other a e).trans h)
    · exact .inr ⟨o, (L.other a e).trans h⟩
theorem SqL.lk {a : Addr} {xs : List V} (L : LkAt H H' p kvs) (h : SqL K H a xs) : SqL K H' a xs := by
  rcases h with h | h
  · exact .inl (EN.Rd.lk L h fun _ _ z => nomatch z)
  · exact .inr h
theorem SqT.lk {a : Addr} {xs : List V} (L : LkAt H H' p kvs) (h : SqT K H a xs) : SqT K H' a xs := by
  rcases h with h | h
  · exact .inl (EN.Rd.lk L h fun _ _ z => nomatch z)
  · exact .inr h
theorem lk_at {a : Addr} {o : HO} (L : LkAt H H' p kvs) (h : H a = some o) (h1 : o ≠ .dK kvs) (h2 : ∀ x, o ≠ .frz x (.dK kvs)) : H' a = some o := by
  rw [L.other a ?_]
  · exact h
  · intro e
    subst e
    rcases L.here with q | ⟨o', q⟩
    · rw [h] at q; cases q; exact h1 rfl
    · rw [h] at q; cases q; exact h2 _ rfl
mutual
theorem Dt.lk (L : LkAt H H' p kvs) : ∀ {d : D} {v : V}, Dt K H d v → Dt K H' d v
  | _, _, .non => .non
  | _, _, .bl b => .bl b
  | _, _, .int b => .int b
  | _, _, .str b => .str b
  | _, _, .lst s l => .lst (SqL.lk L s) (DtL.lk L l)
  | _, _, .tup s l => .tup (SqT.lk L s) (DtL.lk L l)
  | _, _, .dic s l => .dic (EN.Rd.lk L s (fun _ _ z => nomatch z)) (DtK.lk L l)
  | _, _, .ins s l => .ins (lk_at L s (fun z => nomatch z) (fun _ z => nomatch z)) (DtF.lk L l)
  | _, _, .fn x => .fn x
theorem DtL.lk (L : LkAt H H' p kvs) : ∀ {d : List D} {v : List V}, DtL K H d v → DtL K H' d v
  | _, _, .nil => .nil
  | _, _, .cons h t => .cons (Dt.lk L h) (DtL.lk L t)
theorem DtK.lk (L : LkAt H H' p kvs) : ∀ {d : List (Key × D)} {v : List (Key × V)}, DtK K H d v → DtK K H' d v
  | _, _, .nil => .nil
  | _, _, .cons h t => .cons (Dt.lk L h) (DtK.lk L t)
theorem DtF.lk (L : LkAt H H' p kvs) : ∀ {d : List (Str × D)} {v : List (Str × V)}, DtF K H d v → DtF K H' d v
  | _, _, .nil => .nil
  | _, _, .cons h t => .cons (Dt.lk L h) (DtF.lk L t)
end
theorem TOk.lk {π : List Addr} (L : LkAt H H' p kvs) {t : T} {v : V} (h : TOk K π H t v) : TOk K π H' t v := by
  cases t with
  | dat d => exact Dt.lk L h
  | own i => exact h
  | vls ds vs =>
    obtain ⟨a, h1, h2, h3⟩ := h
    exact ⟨a, h1, SqL.lk L h2, DtL.lk L h3⟩
theorem TL.lk {π : List Addr} (L : LkAt H H' p kvs) {t : List T} {v : List V} (h : TL K π H t v) : TL K π H' t v := by
  induction h with
  | nil => exact .nil
  | cons q _ ih => exact .cons (q.lk L) ih
theorem TK.lk {π : List Addr} {κ : Type} (L : LkAt H H' p kvs) {t : List (κ × T)} {v : List (κ × V)} (h : TK K π H t v) : TK K π H' t v := by
  induction h with
  | nil => exact .nil
  | cons q _ ih => exact .cons (q.lk L) ih
theorem hd_lk {φ π : List Addr} {μ : List M} (L : LkAt H H' p kvs) (hp : p ∉ φ ++ hds π μ) : LkAt (hd φ π μ H) (hd φ π μ H') p kvs := by
  have e : ∀ G : Hp, hd φ π μ G p = G p := fun G => by unfold hd; rw [if_neg hp]
  refine ⟨fun b hb => ?_, ?_, ?_⟩
  · unfold hd
    split
    · rfl
    · exact L.other b hb
  · rcases L.here with h | ⟨o, h⟩
    · exact .inl ((e H).trans h)
    · exact .inr ⟨o, (e H).trans h⟩
  · rcases L.there with h | ⟨o, h⟩
    · exact .inl ((e H').trans h)
    · exact .inr ⟨o, (e H').trans h⟩
theorem SOk.lk {φ π : List Addr} {μ : List M} (s : SOk K φ π H μ) (L : LkAt H H' p kvs) (hp : p ∉ φ ++ hds π μ) : SOk K φ π H' μ := by
  have Ld := hd_lk (φ := φ) (π := π) (μ := μ) L hp
  refine ⟨fun a ha => ⟨(s.fr a ha).1, ?_⟩, s.len, s.nd, fun i a m h1 h2 => ?_⟩
  · rw [L.other a fun z => hp (by subst z; exact List.mem_append_left _ ha)]; exact (s.fr a ha).2
  · have h := s.obj i a m h1 h2
    have na : m.isFrz = false → a ≠ p := fun hf z => hp (by subst z; exact List.mem_append_right _ (hds_mem h1 h2 hf))
    cases m with
    | lst ts => obtain ⟨vs, q1, q2⟩ := h; exact ⟨vs, (L.other a (na rfl)).trans q1, q2.lk Ld⟩
    | dic ts => obtain ⟨vs, q1, q2⟩ := h; exact ⟨vs, (L.other a (na rfl)).trans q1, q2.lk Ld⟩
    | ins c ts => obtain ⟨dx, vs, q1, q2⟩ := h; exact ⟨dx, vs, (L.other a (na rfl)).trans q1, q2.lk Ld⟩
    | frz d =>
      refine ⟨?_, Dt.lk Ld h.2⟩
      by_cases e : a = p
      · subst e
        rcases Ld.there with q | ⟨o, q⟩ <;> exact ⟨_, q⟩
      · obtain ⟨o, q⟩ := h.1
        exact ⟨o, (Ld.other a e).trans q⟩
theorem FOk.lk {φ π : List Addr} {μ : List M} {Γ : List (Option T)} {σ : L2.St} (f : FOk K π (hd φ π μ H) Γ σ) (L : LkAt H H' p kvs) (hp : p ∉ φ ++ hds π μ) : FOk K π (hd φ π μ H') Γ σ :=
  ⟨f.len, fun i t q => by
    obtain ⟨v, h1, h2⟩ := f.at_ i t q
    exact ⟨v, h1, h2.lk (hd_lk L hp)⟩⟩
end
def keyD : Key → D
  | .inl i => .int i
  | .inr x => .str x
def undatK : List (Key × T) → Option (List (Key × D))
  | [] => some []
  | (k, .dat d) :: ts => (undatK ts).map ((k, d) :: ·)
  | _ :: _ => none
def datK (ds : List (Key × D)) : List (Key × T) := ds.map fun kv => (kv.1, .dat kv.2)
theorem undatK_some : ∀ {ts : List (Key × T)} {ds : List (Key × D)}, undatK ts = some ds → ts = datK ds
  | [], ds, h => by cases h; rfl
  | (k, .dat d) :: ts, ds, h => by
    simp only [undatK] at h
    cases e : undatK ts with
    | none => rw [e] at h; cases h
    | some es => rw [e] at h; cases h; rw [undatK_some e]; rfl
  | (_, .own _) :: _, _, h => by cases h
  | (_, .vls _ _) :: _, _, h => by cases h
theorem undatK_datK : ∀ ds : List (Key × D), undatK (datK ds) = some ds
  | [] => rfl
  | (k, d) :: ds => by
    have := undatK_datK ds
    show (undatK (datK ds)).map ((k, d) :: ·) = _
    rw [this]; rfl
theorem TK.dtK {K : PySem.W.Frag} {π : List Addr} {Hd : Hp} : ∀ {ds : List (Key × D)} {vs : List (Key × V)}, TK K π Hd (datK ds) vs → DtK K Hd ds vs
  | [], _, .nil => .nil
  | (k, d) :: ds, _, .cons q r => .cons q r.dtK
theorem keys_at {K : PySem.W.Frag} {Hd : Hp} : ∀ {ds : List (Key × D)} {vs : List (Key × V)}, DtK K Hd ds vs → ∀ (j : Nat) (t : T), (dats (ds.map fun kv => keyD kv.1))[j]? = some t → ∃ k v, vs[j]? = some (k, v) ∧ ∀ (Hx : Hp), Dt K Hx (keyD k) (kV k) ∧ t = .dat (keyD k)
  | _, _, .nil, j, t, h => by simp [dats] at h
  | _, _, .cons (k := k) (v := v) _ r, 0, t, h => by
    simp [dats] at h
    subst h
    exact ⟨k, v, rfl, fun Hx => ⟨by cases k <;> constructor, rfl⟩⟩
  | _, _, .cons _ r, j + 1, t, h => by
    have := keys_at r j t (by simpa [dats] using h)
    simpa using this
/-- the keys of a dict of one's own, which is data from here on -/
def lockD (x : T) : Sh (List T) := fun μ => match x with
  | .own i => (match μ[i]? with
    | some (.dic ts) => (match undatK ts with
      | some ds => .ok (dats (ds.map fun kv => keyD kv.1)) (μ.set i (.frz (.dic ds)))
      | none => .no)
    | _ => .no)
  | _ => .no
section
variable {c : EN.Ctx} {e tg iter : Expr} {Γ Γ' : List (Option T)} {pos : Pos} {body : List Stmt}
theorem st_forK {gt : TG} {u : T} {its : List T} {μ μ1 : List M} {o : Out} (he : EvS c iter Γ (ret u)) (hlk : lockD u μ = .ok its μ1) (hg : TgJ c tg gt) (hl : LoopJ c gt body its Γ' μ1 o) (hw : LeG Γ' Γ) (hs : ∀ env x, foldedSetIterable iter env x = pure x := by intro _ _; rfl) : StJ c (.For tg iter body [] pos) Γ μ o := by
  intro X g φ π σ H s0 g0 D q
  unfold lockD at hlk
  split at hlk
  · rename_i i
    split at hlk
    · rename_i ts hi
      split at hlk
      · rename_i ds hud
        cases hlk
        have hil : i < π.length := by rw [s0.len]; exact (List.getElem?_eq_some_iff.mp hi).1
        obtain ⟨p, hp⟩ : ∃ p, π[i]? = some p := ⟨_, List.getElem?_eq_getElem hil⟩
        obtain ⟨vs, hv, htk⟩ := s0.obj i p _ hp hi
        have hts := undatK_some hud
        subst hts
        have hdt := htk.dtK
        have n0 := s0.freeze (d := .dic ds) hp hi rfl fun Hd' h1 h2 => .dic (.inl (h1 _ hv)) (DtK.mono h2 hdt)
        have pin : p ∈ hds π μ := hds_mem hp hi rfl
        have pno : p ∉ φ ++ hds π (μ.set i (.frz (.dic ds))) := by
          intro z
          have hth := n0.ok.obj i p (.frz (.dic ds)) hp (by rw [List.getElem?_set_self (List.getElem?_eq_some_iff.mp hi).1])
          obtain ⟨o', ho'⟩ := hth.1
          unfold hd at ho'
          rw [if_pos z] at ho'
          cases ho'
        have pφ : p ∉ φ := fun z => pno (List.mem_append_left _ z)
        refine toS (ps_lock (ps_for g.pass g.calm (pi_keys pe_sem) (hg X g) pss_sem (hs X.env))) ?_
        refine ⟨p, .dK vs, hv, trivial, fun od => ?_⟩
        have L : LkAt H (upd H p (.frz od (.dK vs))) p vs := ⟨fun b hb => upd_ne hb, .inl hv, .inr ⟨od, upd_same⟩⟩
        have sl := n0.ok.lk L pno
        have nl : Nxt X.K φ π H μ π (upd H p (.frz od (.dK vs))) (μ.set i (.frz (.dic ds))) := ⟨⟨[], by simp⟩, sl, fun a ha => upd_ne fun z => pφ (by subst z; exact ha), fun a o' ho' => by
          have ha : a ≠ p := fun z => by
            subst z
            unfold hd at ho'
            rw [if_pos (List.mem_append_right _ pin)] at ho'
            cases ho'
          rw [(hd_lk (φ := φ) (π := π) (μ := μ.set i (.frz (.dic ds))) L pno).other a ha]
          exact n0.le a o' ho'⟩
        -- the way back
        have back : ∀ π' H' μ', Nxt X.K φ π (upd H p (.frz od (.dK vs))) (μ.set i (.frz (.dic ds))) π' H' μ' → H' p = some (.frz od (.dK vs)) ∧ LkAt H' (upd H' p (.dK vs)) p vs ∧ p ∉ φ ++ hds π' μ' ∧ Nxt X.K φ π H μ π' (upd H' p (.dK vs)) μ' := by
          intro π' H' μ' n
          have h1 : hd φ π (μ.set i (.frz (.dic ds))) (upd H p (.frz od (.dK vs))) p = some (.frz od (.dK vs)) := by
            unfold hd; rw [if_neg pno]; exact upd_same
          have h2 := n.le p _ h1
          have h3 : H' p = some (.frz od (.dK vs)) := hd_le _ _ _ _ p _ h2
          have h4 : p ∉ φ ++ hds π' μ' := fun z => by
            unfold hd at h2; rw [if_pos z] at h2; cases h2
          have L' : LkAt H' (upd H' p (.dK vs)) p vs := ⟨fun b hb => upd_ne hb, .inr ⟨od, h3⟩, .inl upd_same⟩
          refine ⟨h3, L', h4, n.ext, n.ok.lk L' h4, fun a ha => ?_, fun a o' ho' => ?_⟩
          · have ha' : a ≠ p := fun z => pφ (by subst z; exact ha)
            rw [upd_ne ha', n.same a ha, upd_ne ha']
          · have ha : a ≠ p := fun z => by
              subst z
              unfold hd at ho'
              rw [if_pos (List.mem_append_right _ pin)] at ho'
              cases ho'
            rw [(hd_lk (φ := φ) (π := π') (μ := μ') L' h4).other a ha]
            exact n.le a o' (nl.le a o' ho')
        refine he _ _ _ rfl X g φ π σ _ sl (g0.nx nl) _ fun v π1 H1 n1 k1 => ?_
        obtain ⟨p', hp', rfl⟩ := k1
        have hpp : p' = p := by
          obtain ⟨p2, e2⟩ := n1.ext
          rw [e2, List.getElem?_append_left hil, hp] at hp'
          cases hp'; rfl
        subst hpp
        have hd1 : hd φ π (μ.set i (.frz (.dic ds))) (upd H p' (.frz od (.dK vs))) p' = some (.frz od (.dK vs)) := by
          unfold hd; rw [if_neg pno]; exact upd_same
        have hH1 := n1.le p' _ hd1
        refine ⟨p', od, rfl, .inl ⟨vs, hd_le _ _ _ _ _ _ hH1, ?_⟩⟩
        have hlen : ds.length = vs.length := by
          have := len_tk htk
          simpa [datK] using this
        have keys : ∀ (j : Nat) (t : T), (dats (ds.map fun kv => keyD kv.1))[j]? = some t → ∃ k v, vs[j]? = some (k, v) ∧ ∀ (Hx : Hp), Dt X.K Hx (keyD k) (kV k) ∧ t = .dat (keyD k) := fun j t h => keys_at hdt j t h
        have hitl : (dats (ds.map fun kv => keyD kv.1)).length = vs.length := by rw [← hlen]; simp [dats]
        clear hud
        generalize hits : dats (ds.map fun kv => keyD kv.1) = its at *
        have wk : Walks X.K (Itk p' od vs) its φ π1 H1 (μ.set i (.frz (.dic ds))) := fun j φ2 π2 H2 μ2 s2 _ le => by
          have h2 : H2 p' = some (.frz od (.dK vs)) := hd_le _ _ _ _ _ _ (le p' _ hH1)
          refine ⟨fun t ht => ?_, fun hj => ⟨h2, by rw [← hitl]; exact hj⟩⟩
          have hjl : j < vs.length := by
            have := (List.getElem?_eq_some_iff.mp ht).1
            rw [← hitl]; exact this
          refine ⟨⟨h2, hjl⟩, fun x H' hx => ?_⟩
          obtain ⟨rfl, k, v, hk, rfl⟩ := hx
          obtain ⟨k', v', hk', hd'⟩ := keys j t ht
          rw [hk] at hk'; cases hk'
          obtain ⟨hd1', rfl⟩ := hd' (hd φ2 π2 μ2 H')
          exact ⟨Nxt.refl s2, hd1'⟩
        refine ⟨fun i1 m σ' H' => m = its.length - i1 ∧ i1 ≤ its.length ∧ ∃ π2 Γ2 μ2, Nxt X.K φ π1 H1 (μ.set i (.frz (.dic ds))) π2 H' μ2 ∧ FOk X.K π2 (hd φ π2 μ2 H') Γ2 σ' ∧ LoopJ c gt body (its.drop i1) Γ2 μ2 o, ⟨its.length, by simp, by simp, π1, Γ', _, Nxt.refl n1.ok, hw.fok ((g0.nx nl).nx n1), hl⟩, ?_⟩
        have fin_nx : ∀ {Γ4 : List (Option T)} {μ4 : List M}, o = .nx Γ4 μ4 → ∀ σ6 π6 H6, Nxt X.K φ π (upd H p' (.frz od (.dK vs))) (μ.set i (.frz (.dic ds))) π6 H6 μ4 → FOk X.K π6 (hd φ π6 μ4 H6) Γ4 σ6 → H6 p' = some (.frz od (.dK vs)) ∧ D.nx σ6 (upd H6 p' (.dK vs)) := by
          intro Γ4 μ4 eo σ6 π6 H6 n6 f6
          subst eo
          obtain ⟨a1, L6, a3, a4⟩ := back π6 H6 μ4 n6
          exact ⟨a1, q σ6 π6 _ a4 (f6.lk L6 a3)⟩
        rintro i1 m σ' H' ⟨rfl, hle, π2, Γ2, μ2, n2, f2, l2⟩
        obtain ⟨w1, w2⟩ := wk i1 φ π2 H' μ2 n2.ok n2.ext n2.le
        by_cases hlt : i1 < its.length
        · have hd' : its.drop i1 = its[i1] :: its.drop (i1 + 1) := List.drop_eq_getElem_cons hlt
          rw [hd'] at l2
          obtain ⟨Γ3, js, hv3, o1, hb, l3⟩ := l2
          obtain ⟨go, yl⟩ := w1 its[i1] (List.getElem?_eq_getElem hlt)
          refine .inr ⟨go, fun σ4 H4 => ∃ m', m' < its.length - i1 ∧ (m' = its.length - (i1 + 1) ∧ i1 + 1 ≤ its.length ∧ ∃ π2 Γ2 μ2, Nxt X.K φ π1 H1 (μ.set i (.frz (.dic ds))) π2 H4 μ2 ∧ FOk X.K π2 (hd φ π2 μ2 H4) Γ2 σ4 ∧ LoopJ c gt body (its.drop (i1 + 1)) Γ2 μ2 o), fun σ4 H4 h4 => h4, fun x H3 hx => ?_⟩
          obtain ⟨n3, k3⟩ := yl x H3 hx
          have f3 := f2.nx n3
          have s3 := n3.ok
          rw [g.K] at f3 s3 k3
          refine hv3 φ π2 σ' H3 x s3 f3 k3 _ fun σ5 f5 _ => ?_
          rw [← g.K] at f5 s3
          refine hb X g φ π2 σ5 H3 n3.ok f5 _ ?_
          cases o1 with
          | nx Γ4 μ4 => exact fun σ6 π6 H6 n6 f6 => ⟨_, by omega, rfl, hlt, π6, Γ4, μ4, (n2.trans n3).trans n6, f6, l3⟩
          | ct Γ4 μ4 => exact fun σ6 π6 H6 n6 f6 => ⟨_, by omega, rfl, hlt, π6, Γ4, μ4, (n2.trans n3).trans n6, f6, l3⟩
          | bk Γ4 μ4 =>
            have l3 : o = .nx Γ4 μ4 := l3
            exact fun σ6 π6 H6 n6 f6 => fin_nx l3 σ6 π6 H6 (((n1.trans n2).trans n3).trans n6) f6
          | rt u μ4 =>
            have l3 : o = .rt u μ4 := l3
            subst l3
            refine fun v π6 H6 n6 f6 => ?_
            obtain ⟨a1, L6, a3, a4⟩ := back π6 H6 μ4 (((n1.trans n2).trans n3).trans n6)
            exact ⟨a1, q v π6 _ a4 (f6.lk (hd_lk L6 a3))⟩
        · have e : i1 = its.length := by omega
          subst e
          rw [List.drop_length] at l2
          have l2 : o = .nx Γ2 μ2 := l2
          exact .inl ⟨w2 (Nat.le_refl _), fin_nx l2 σ' π2 H' (n1.trans n2) f2⟩
      · cases hlk
    · cases hlk
  · cases hlk
theorem nst_forK {α : Type} {g : α → List (Option T)} {gt : TG} {u : T} {F : T → α → Sh α} {a0 : α} (he : EvS c iter Γ (ret u)) (hg : TgJ c tg gt) (hw : LeG (g a0) Γ) (h : ∀ t a, TurnS c gt (g a) none t (F t a) (KN c body g)) (hs : ∀ env x, foldedSetIterable iter env x = pure x := by intro _ _; rfl) :
    NSt c (.For tg iter body [] pos) Γ g (bnd (lockD u) fun its => forN F its a0) := .mk fun μ r μ' q => by
  obtain ⟨its, μ1, h1, q⟩ := bnd_inv q
  exact st_forK he h1 hg (forN_loop h _ _ _ _ _ q) hw hs
theorem lst_forK {α : Type} {g : α → List (Option T)} {gt : TG} {u : T} {F : T → α → Sh (Lo α α)} {a0 : α} {gl : Empty → List (Option T)} (he : EvS c iter Γ (ret u)) (hg : TgJ c tg gt) (hw : LeG (g a0) Γ) (h : ∀ t a, TurnS c gt (g a) none t (F t a) (KL c body g)) (hs : ∀ env x, foldedSetIterable iter env x = pure x := by intro _ _; rfl) :
    LSt c (.For tg iter body [] pos) Γ g gl (bnd (lockD u) fun its => forL F its a0) := .mk fun μ r μ' q => by
  obtain ⟨its, μ1, h1, q⟩ := bnd_inv q
  exact st_forK he h1 hg (forL_loop h _ _ _ _ _ q) hw hs
end
end EN
/-! list + list, one's own; [x] * n with a drawn x. -/
namespace EN
open PySem PySem.Spec PyProof.Rows L2
/-- a sum of lists, one's own -/
def opAddO (x y : T) : Sh T := fun μ => match seeL x μ, seeL y μ with
  | some a, some b => if a.length + b.length ≤ sizeLine then .ok (.own μ.length) (μ ++ [.lst (dats (a ++ b))]) else .no
  | _, _ => .no
open Classical in
noncomputable def repLN (n : Sh (List T)) (m : Sh T) : Sh T := fun μ => match n μ with
  | .ok ts μ1 => if μ1 = μ then repL ts m μ else .no
  | .no => .no
theorem repLN_ret (ts : List T) (m : Sh T) : repLN (ret ts) m = repL ts m := by
  funext μ
  simp only [repLN, ret_ap, if_true]
section
variable {c : EN.Ctx} {es : List Expr} {b : Expr} {Γ : List (Option T)} {x y : T} {n : Sh (List T)} {m : Sh T} {pos : Pos}
theorem addO_ok : R2S c (binaryOp .Add) x y (opAddO x y) := by
  intro μ t μ' h
  unfold opAddO at h
  split at h
  · rename_i q1 q2
    split at h
    · rename_i q
      cases h
      exact fun X gX => ⟨_, op_catR, fun φ π H v w s0 h1 h2 Q qq => by
        obtain ⟨a1, vs1, rfl, s1, l1⟩ := seeL_ok s0 h1 q1
        obtain ⟨a2, vs2, rfl, s2, l2⟩ := seeL_ok s0 h2 q2
        exact ⟨_, _, _, _, rfl, rfl, s1, s2, by rw [← l1.len, ← l2.len]; exact q, fun p np => newOwnL s0 (l1.append l2).tl qq np⟩⟩
    · cases h
  · cases h
theorem sv_repLN {lpos : Pos} (h : AsS c es Γ n) (hb : EvS c b Γ m) : EvS c (.BinOp (.List es lpos) .Mult b pos) Γ (repLN n m) := .mk fun μ t μ' q => by
  unfold repLN at q
  split at q
  · rename_i ts μ1 hn
    split at q
    · rename_i e
      subst e
      have hJ := h _ _ _ hn
      unfold repL at q
      split at q
      · rename_i ds q1
        have e := undat_some q1
        subst e
        split at q
        · rename_i k μ1 q2
          split at q
          · rename_i hh
            cases q
            obtain ⟨rfl, h1, h2, h3, h4⟩ := hh
            exact ev_repL hJ (hb _ _ _ q2) h1 h2 h3 (Nat.ble_eq_true_of_le (by simpa [dats] using h4))
          · cases q
        · cases q
      · cases q
    · cases q
  · cases q
end
end EN
/-! Comprehensions whose list is one's own; extend; defs as values. -/
namespace EN
open PySem PySem.Spec PyProof.Rows L2
open AutoSeq1 (wpAny_loadPart')
section
variable {K : PySem.W.Frag} {φ π : List Addr} {H : Hp} {μ : List M} {a : Addr} {vs : List V} {ts : List T}
/-- what was held by the frame is one's own -/
theorem SOk.adopt (s : SOk K (a :: φ) π H μ) (hφ : a ∉ φ) (h : H a = some (.lst vs)) (tl : TL K π (hd (a :: φ) π μ H) ts vs) : SOk K φ (π ++ [a]) H (μ ++ [.lst ts]) ∧ hd φ (π ++ [a]) (μ ++ [.lst ts]) H = hd (a :: φ) π μ H := by
  have hπ : a ∉ π := (s.fr a (by simp)).1
  have e : hd φ (π ++ [a]) (μ ++ [.lst ts]) H = hd (a :: φ) π μ H := by
    funext b
    unfold hd
    rw [hds_append s.len]
    have : hds [a] [M.lst ts] = [a] := rfl
    rw [this]
    have hm : (b ∈ φ ++ (hds π μ ++ [a])) ↔ b ∈ a :: φ ++ hds π μ := by
      simp only [List.mem_append, List.mem_cons, List.not_mem_nil, or_false, List.cons_append]
      constructor
      · rintro (h | h | h)
        · exact .inr (.inl h)
        · exact .inr (.inr h)
        · exact .inl h
      · rintro (h | h | h)
        · exact .inr (.inr h)
        · exact .inl h
        · exact .inr (.inl h)
    by_cases hb : b ∈ a :: φ ++ hds π μ
    · rw [if_pos hb, if_pos (hm.mpr hb)]
    · rw [if_neg hb, if_neg fun z => hb (hm.mp z)]
  refine ⟨⟨fun b hb => ⟨?_, (s.fr b (by simp [hb])).2⟩, by simp [s.len], ?_, fun i b m h1 h2 => ?_⟩, e⟩
  · intro z
    rcases List.mem_append.mp z with z | z
    · exact (s.fr b (by simp [hb])).1 z
    · rw [List.mem_singleton.mp z] at hb; exact hφ hb
  · rw [List.nodup_append]
    exact ⟨s.nd, by simp, fun x hx y hy => by rw [List.mem_singleton.mp hy]; intro z; exact hπ (z ▸ hx)⟩
  · rw [e]
    by_cases hi : i < π.length
    · rw [List.getElem?_append_left hi] at h1
      rw [List.getElem?_append_left (by rw [← s.len]; exact hi)] at h2
      exact (s.obj i b m h1 h2).mono ⟨[a], rfl⟩ Ex.rfl' fun _ => rfl
    · have hl : i = π.length := by
        have := (List.getElem?_eq_some_iff.mp h1).1
        simp at this; omega
      subst hl
      rw [List.getElem?_concat_length] at h1
      rw [s.len, List.getElem?_concat_length] at h2
      cases h1; cases h2
      exact ⟨vs, h, tl.mono ⟨[a], rfl⟩ Ex.rfl'⟩
end
section
variable {c : Ctx} {a b e : Expr} {es : List Expr} {Γ Γ1 : List (Option T)} {μ μ1 μ2 μ3 : List M} {t : T} {pos : Pos}
/-- .. whose list is one's own -/
theorem lcO_ok {X : Cx} (g : Good c X) {tg iter elt : Expr} {ifs : List Expr} {scope : Scope} {vs : List Nat} {gt : TG} {its : List T} {ds : List D} {wi : TI} {φ π : List Addr} {σ : L2.St} {H : Hp} {Q : VK}
    (oki : ∀ R : It → Hp → Prop, (∀ J π1 H1, Nxt X.K φ π H μ π1 H1 μ1 → Walks X.K J its φ π1 H1 μ1 → R J H1) → wi σ H R) (s0 : SOk X.K φ π H μ) (g0 : FOk X.K π (hd φ π μ H) Γ σ)
    (hz : its.length ≤ 1000000) (hl : CmpJ (c.blk scope) gt elt ifs (wipeG Γ vs) vs its μ1 ds μ2) (q : Pst X.K φ π H μ (.own μ2.length) (μ2 ++ [.lst (dats ds)]) Q) : tLc wi gt (semTsB X scope ifs) (semEB X scope elt) vs σ H Q := by
  refine oki _ fun J π1 H1 n1 wk => fun Dl hD => ?_
  have hφ : Dl ∉ φ := fun z => n1.ok.notin hD (List.mem_append_left _ z)
  obtain ⟨f1, e1⟩ := n1.ok.frame (o := .lst []) hD
  refine ⟨fun i m H' => m = its.length - i ∧ i ≤ its.length ∧ ∃ π2 μ2' acc done rest, (∃ p, π2 = π1 ++ p) ∧ SOk X.K (Dl :: φ) π2 H' μ2' ∧ (∀ a ∈ φ, H' a = H1 a) ∧ Ex (hd φ π1 μ1 H1) (hd (Dl :: φ) π2 μ2' H') ∧ H' Dl = some (.lst acc) ∧ acc.length ≤ i ∧ DtL X.K (hd (Dl :: φ) π2 μ2' H') done acc ∧ CmpJ (c.blk scope) gt elt ifs (wipeG Γ vs) vs (its.drop i) μ2' rest μ2 ∧ ds = done ++ rest,
    ⟨its.length, by simp, by simp, π1, μ1, [], [], ds, ⟨[], by simp⟩, f1, fun a ha => upd_ne (show a ≠ Dl from fun z => hφ (z ▸ ha)), by rw [e1]; exact Ex.rfl', upd_same, Nat.le_refl _, .nil, hl, rfl⟩, ?_⟩
  rintro i m H' ⟨rfl, hle, π2, μ3, acc, done, rest, hext, s2, same2, le2, hacc, hal, hdone, l2, hds⟩
  obtain ⟨w1, w2⟩ := wk i (Dl :: φ) π2 H' μ3 s2 hext le2
  by_cases hlt : i < its.length
  · have hd' : its.drop i = its[i] :: its.drop (i + 1) := List.drop_eq_getElem_cons hlt
    rw [hd'] at l2
    obtain ⟨Γ1, js, b, μ4, hv, hjs, hifs, ht, hf⟩ := l2
    obtain ⟨go, yl⟩ := w1 its[i] (List.getElem?_eq_getElem hlt)
    refine .inr ⟨go, fun H5 => ∃ m', m' < its.length - i ∧ (m' = its.length - (i + 1) ∧ i + 1 ≤ its.length ∧ ∃ π2 μ2' acc done rest, (∃ p, π2 = π1 ++ p) ∧ SOk X.K (Dl :: φ) π2 H5 μ2' ∧ (∀ a ∈ φ, H5 a = H1 a) ∧ Ex (hd φ π1 μ1 H1) (hd (Dl :: φ) π2 μ2' H5) ∧ H5 Dl = some (.lst acc) ∧ acc.length ≤ i + 1 ∧ DtL X.K (hd (Dl :: φ) π2 μ2' H5) done acc ∧ CmpJ (c.blk scope) gt elt ifs (wipeG Γ vs) vs (its.drop (i + 1)) μ2' rest μ2 ∧ ds = done ++ rest), fun H5 h5 => h5, fun x H3 hx => ?_⟩
    obtain ⟨n3, k3⟩ := yl x H3 hx
    have f0 : FOk X.K π2 (hd (Dl :: φ) π2 μ3 H3) (wipeG Γ vs) (L2.wipe σ vs) := by
      refine (g0.wipe vs).mono ?_ ((n1.le.tr le2).tr n3.le)
      obtain ⟨p1, e1'⟩ := n1.ext
      obtain ⟨p2, e2'⟩ := hext
      exact ⟨p1 ++ p2, by rw [e2', e1', List.append_assoc]⟩
    have s3 := n3.ok
    have f0' := f0; have s3' := s3; have k3' := k3
    rw [g.K] at f0' s3' k3'
    refine hv (Dl :: φ) π2 (L2.wipe σ vs) H3 x s3' f0' k3' _ fun σ4 f4 w4 => ?_
    replace f4 : FOk X.K π2 (hd (Dl :: φ) π2 μ3 H3) Γ1 σ4 := by rw [g.K]; exact f4
    refine ⟨(w4 vs hjs).trans wipe_idem, ?_⟩
    refine ifs_ok g hifs s3 f4 fun π5 H5 n5 => ?_
    have n35 := n3.trans n5
    have ext5 : ∃ p, π5 = π1 ++ p := by
      obtain ⟨p1, e1'⟩ := hext
      obtain ⟨p2, e2'⟩ := n35.ext
      exact ⟨p1 ++ p2, by rw [e2', e1', List.append_assoc]⟩
    cases b with
    | false =>
      rw [if_neg Bool.false_ne_true]
      exact ⟨_, by omega, rfl, hlt, π5, μ4, acc, done, rest, ext5, n5.ok, fun a ha => (n35.same a (List.mem_cons_of_mem _ ha)).trans (same2 a ha), le2.tr n35.le, by rw [n35.same Dl (by simp)]; exact hacc, by omega, DtL.mono n35.le hdone, hf rfl, hds⟩
    | true =>
      rw [if_pos rfl]
      obtain ⟨d, μ5, ds', hev, l5, rfl⟩ := ht rfl
      intro sx Hx C cl fp
      refine hev _ (g.blk scope sx Hx cl C fp) (Dl :: φ) π5 σ4 H5 n5.ok (f4.nx n5) _ fun y π6 H6 n6 k6 => ?_
      have n36 := n35.trans n6
      have hD6 : H6 Dl = some (.lst acc) := by rw [n36.same Dl (by simp)]; exact hacc
      refine ⟨acc, hD6, Nat.lt_of_le_of_lt (Nat.le_trans hal hle) (Nat.lt_of_le_of_lt hz (by decide)), ?_⟩
      obtain ⟨s7, e7⟩ := n6.ok.fwrite (o := .lst (acc ++ [y]))
      refine ⟨_, by omega, rfl, hlt, π6, μ5, acc ++ [y], done ++ [d], ds', ?_, s7, fun a ha => ?_, ?_, upd_same, by simp; omega, ?_, l5, by rw [hds]; simp⟩
      · obtain ⟨p1, e1'⟩ := hext
        obtain ⟨p2, e2'⟩ := n36.ext
        exact ⟨p1 ++ p2, by rw [e2', e1', List.append_assoc]⟩
      · rw [upd_ne (show a ≠ Dl from fun z => hφ (z ▸ ha)), n36.same a (List.mem_cons_of_mem _ ha)]
        exact same2 a ha
      · rw [e7]; exact le2.tr n36.le
      · rw [e7]; exact (DtL.mono n36.le hdone).append (.cons k6 .nil)
  · have e : i = its.length := by omega
    subst e
    rw [List.drop_length] at l2
    obtain ⟨rfl, rfl⟩ := l2
    rw [List.append_nil] at hds
    subst hds
    refine .inl ⟨w2 (Nat.le_refl _), ?_⟩
    obtain ⟨u1, u2⟩ := s2.adopt hφ hacc hdone.tl
    refine q _ (π2 ++ [Dl]) H' (n1.trans ⟨?_, u1, same2, le2.tr (by rw [u2]; exact Ex.rfl')⟩) ⟨Dl, by rw [← s2.len]; simp, rfl⟩
    obtain ⟨p, e⟩ := hext
    exact ⟨p ++ [Dl], by rw [e, List.append_assoc]⟩
theorem ev_compO {tg iter elt : Expr} {ifs : List Expr} {scope : Scope} {own : List (Str × Nat)} {gt : TG} {its : List T} {ds : List D} (hi : IterJ c tg iter Γ μ its μ1) (hb : blkC c.N c.sc scope own = true) (hg : TgJ (c.blk scope) tg gt)
    (hl : CmpJ (c.blk scope) gt elt ifs (wipeG Γ (own.map (·.2))) (own.map (·.2)) its μ1 ds μ2) (hz : its.length ≤ 1000000) (hs : ∀ env x, foldedSetIterable iter env x = pure x := by intro _ _; rfl) :
    EvJ c (.ListComp elt [⟨tg, iter, ifs, 0⟩] scope pos) Γ μ (.own μ2.length) (μ2 ++ [.lst (dats ds)]) := by
  intro X g φ π σ H s0 g0 Q q
  obtain ⟨wi, hpi, oki⟩ := hi X g
  refine toE (pe_lc (own := own) (g := gt) (tt := semTsB X scope ifs) (te := semEB X scope elt) g.calm (by rw [g.N]; exact g.nd) hpi (by rw [g.N, g.sc]; exact blkOk_by hb) (fun s H C cl fp => hg _ (g.blk scope s H cl C fp)) (fun s H C cl fp => ⟨fun pins s' σ H' Q I h => h s H C cl fp pins s' I⟩) (fun s H C cl fp => ⟨fun pins s' σ H' Q I h => h s H C cl fp pins s' I⟩) (hs X.env)) ?_
  exact lcO_ok (tg := tg) (iter := iter) g (oki φ π σ H s0 g0) s0 g0 hz hl q
theorem st_setLcO {tg iter elt : Expr} {ifs : List Expr} {scope : Scope} {own : List (Str × Nat)} {gt : TG} {its : List T} {ds : List D} {i : Nat} {y : Str} {py spos : Pos} (hi : IterJ c tg iter Γ μ its μ1) (hy : c.N[i]? = some y) (hyl : c.sc.names.lookup y = some .local) (hk : c.sc.kind = .function := by rfl) (hb : blkC c.N c.sc scope own = true) (hg : TgJ (c.blk scope) tg gt)
    (hl : CmpJ (c.blk scope) gt elt ifs (wipeG Γ (own.map (·.2))) (own.map (·.2)) its μ1 ds μ2) (hz : its.length ≤ 1000000) (hll : (py.line == pos.line) = true) (ha : (scope.names.any fun (n, k) => n == y && (k == .local || k == .cell)) = false) (hs : ∀ env x, foldedSetIterable iter env x = pure x := by intro _ _; rfl) :
    StJ c (.Assign [.Name y py] (.ListComp elt [⟨tg, iter, ifs, 0⟩] scope pos) spos) Γ μ (.nx (Γ.set i (some (.own μ2.length))) (μ2 ++ [.lst (dats ds)])) := by
  intro X g φ π σ H s0 g0 D q
  obtain ⟨wi, hpi, oki⟩ := hi X g
  refine toS (ps_setLc (i := i) (own := own) (g := gt) (tt := semTsB X scope ifs) (te := semEB X scope elt) g.calm (by rw [g.N]; exact g.nd) (by rw [g.N]; exact hy) (by rw [g.sc]; exact hyl) (sw_true (by rw [g.sc]; exact hk) (by rw [g.sc]; exact hyl) hll ha) hpi (by rw [g.N, g.sc]; exact blkOk_by hb) (fun s H C cl fp => hg _ (g.blk scope s H cl C fp)) (fun s H C cl fp => ⟨fun pins s' σ H' Q I h => h s H C cl fp pins s' I⟩) (fun s H C cl fp => ⟨fun pins s' σ H' Q I h => h s H C cl fp pins s' I⟩) (hs X.env)) ?_
  exact lcO_ok (tg := tg) (iter := iter) g (oki φ π σ H s0 g0) s0 g0 hz hl fun v π1 H1 n1 k1 => q _ π1 H1 n1 ((g0.nx n1).set k1)
end
/-- a comprehension whose list is one's own -/
def compO (its : Sh (List T)) (F : T → Sh (Option D)) : Sh T := bnd its fun ts => if Nat.ble ts.length 1000000 then bnd (cmpS F ts) fun ds μ => .ok (.own μ.length) (μ ++ [.lst (dats ds)]) else stop
section
variable {c : EN.Ctx} {tg iter elt a b : Expr} {es : List Expr} {Γ Γ1 : List (Option T)} {pos : Pos} {ifs : List Expr} {scope : Scope} {own : List (Str × Nat)} {gt : TG} {mi : Sh (List T)} {F : T → Sh (Option D)} {ma mb : Sh T} {u v : T}
theorem sv_compO (hi : IterS c tg iter Γ mi) (hb : blkC c.N c.sc scope own = true) (hg : TgJ (c.blk scope) tg gt)
    (hw : wipeG Γ (own.map (·.2)) = Γ1) (hF : ∀ t, TurnS (c.blk scope) gt Γ1 (some (own.map (·.2))) t (F t) (CtS (c.blk scope) elt ifs)) (hs : ∀ env x, foldedSetIterable iter env x = pure x := by intro _ _; rfl) :
    EvS c (.ListComp elt [⟨tg, iter, ifs, 0⟩] scope pos) Γ (compO mi F) := .mk fun μ t μ' h => by
  obtain ⟨its, μ1, h1, h⟩ := bnd_inv h
  split at h
  · rename_i hz
    obtain ⟨ds, μ2, h2, h⟩ := bnd_inv h
    cases h
    subst hw
    exact ev_compO (hi _ _ _ h1) hb hg (cmp_ok hF _ _ _ _ h2) (Nat.le_of_ble_eq_true hz) hs
  · cases h
theorem st_lcOG {g : T → List (Option T)} {i : Nat} {y : Str} {py spos : Pos} (hi : IterS c tg iter Γ mi) (hy : c.N[i]? = some y) (hyl : c.sc.names.lookup y = some .local) (hb : blkC c.N c.sc scope own = true) (hg : TgJ (c.blk scope) tg gt)
    (hw : wipeG Γ (own.map (·.2)) = Γ1) (hF : ∀ t, TurnS (c.blk scope) gt Γ1 (some (own.map (·.2))) t (F t) (CtS (c.blk scope) elt ifs)) (hll : (py.line == pos.line) = true) (ha : (scope.names.any fun (n, k) => n == y && (k == .local || k == .cell)) = false) (he : ∀ t, Γ.set i (some t) = g t) (hk : c.sc.kind = .function := by rfl) (hs : ∀ env x, foldedSetIterable iter env x = pure x := by intro _ _; rfl) :
    NSt c (.Assign [.Name y py] (.ListComp elt [⟨tg, iter, ifs, 0⟩] scope pos) spos) Γ g (compO mi F) := .mk fun μ t μ' h => by
  obtain ⟨its, μ1, h1, h⟩ := bnd_inv h
  split at h
  · rename_i hz
    obtain ⟨ds, μ2, h2, h⟩ := bnd_inv h
    cases h
    subst hw
    exact he _ ▸ st_setLcO (hi _ _ _ h1) hy hyl hk hb hg (cmp_ok hF _ _ _ _ h2) (Nat.le_of_ble_eq_true hz) hll ha hs
  · cases h
/-! extend -/
theorem list_extW (l : Addr) (items : Array Value) (n : Nat) (b : Addr) (items2 : Array Value) (n2 : Nat) (dd2 : Option Addr) (sl2 : Array (Option Value)) (hc0 : ¬(!items.isEmpty && Builtin.List.listTooLong (items.size + items2.size)) = true) (hc1 : items.size ≤ sizeLine) (hs2 : items.size + items2.size ≤ sizeLine + 1) :
    Meets (Builtin.«list.extend» ⟨[.ref l, .ref b], []⟩) (fun _ R s => s.heap.get? l = some { cls := .type "list", dict := none, data := .seq items n, slots := #[] } ∧ s.heap.get? b = some { cls := .type "list", dict := dd2, data := .seq items2 n2, slots := sl2 } ∧ R (.ok (.ret Value.none)) { s with heap := s.heap.update l (Obj.mapSeq fun x => x ++ items2), toks := s.toks }) :=
  .of_wp fun prog w A R s h => by
    obtain ⟨hp, g, d, tk, os⟩ := s; obtain ⟨hl, hb, h⟩ := h; have f1 := AutoSeq1.idx_int; have f2 := AutoSeq1.sub_tuple_tuple; have f3 := AutoSeq1.sub_list_list; have f4 := AutoSeq1.sub_tuple_list; have f5 := AutoSeq1.sub_list_tuple;
    have hz' : (items ++ items2).size ≤ sizeLine + 1 := by rw [Array.size_append]; exact hs2
    wp_walk using (wpAny_updateSeq hl rfl (hz := hc1) (_hz' := hz')), wpAny_loadPart' hl, wpAny_loadPart' hb; exact ⟨_, rfl, h⟩
def rExtS (K : PySem.W.Frag) : V → List V → Hp → VK → Prop := fun x vs H Q => ∃ l b xs zs, x = .ref l ∧ vs = [.ref b] ∧ H l = some (.lst xs) ∧ SqL K H b zs ∧ xs.length + zs.length ≤ sizeLine ∧ Q .non (upd H l (.lst (xs ++ zs)))
theorem mt_extS {X : L2.Cx} : MtM X "list.extend" (rExtS X.K) := by
  intro pins s σ H x vs v us Q I rx rv h
  obtain ⟨l, b, xs, zs, rfl, rfl, hH, hB, hz, q⟩ := h
  cases rx
  obtain ⟨u, rfl, ru⟩ := rv.one
  cases ru
  obtain ⟨z, its, n, r, hl, e⟩ := I.lstM hH
  obtain ⟨its2, r2, p2, z2⟩ := I.list hB
  have hl2 := r2.length
  obtain ⟨⟨cls2, dd2, data2, sl2⟩, n2, ho2, hc2, hdi2, hd2⟩ := id p2
  simp only at hc2 hd2
  subst hc2 hd2
  have hsz : its.toArray.size + its2.toArray.size ≤ sizeLine := by rw [List.size_toArray, List.size_toArray]; omega
  have hlong : ¬ (!its.toArray.isEmpty && Builtin.List.listTooLong (its.toArray.size + its2.toArray.size)) = true := by
    rw [notLongL hsz, Bool.and_false]
    exact Bool.false_ne_true
  refine call_meets PySem.F.slot_list_extend ⟨_, e, rfl⟩ PySem.F.entry_list_extend (PySem.F.args_list_extend_2 _ _)
    (list_extW l its.toArray n b its2.toArray n2 dd2 sl2 hlong (by rw [List.size_toArray]; omega) (by omega)) ⟨e, ho2, ?_⟩
  refine ⟨.non, _, I.lset (its' := its ++ its2) hH e (by simp) (r.append r2) ?_, rfl, q⟩
  rw [List.length_append]
  omega
/-- x.extend(y) -/
def opExt (x y : T) : Sh T := fun μ => match x with
  | .own i => (match μ[i]?, seeL y μ with
    | some (.lst ts), some ds => if ts.length + ds.length ≤ sizeLine then .ok .non (μ.set i (.lst (ts ++ dats ds))) else .no
    | _, _ => .no)
  | _ => .no
theorem sv_extend {apos : Pos} (ho : EvS c a Γ ma) (he : EvS c b Γ mb) (hb : isSuper a = false := by rfl) (hs : isStar b = false := by rfl) (hl : (apos.endLine == pos.line) = true := by rfl) :
    EvS c (.Call (.Attribute a "extend" apos) [b] [] pos) Γ (bnd ma fun u => bnd (isL u) fun _ => bnd mb fun v => opExt u v) := .mk fun μ t μ' h => by
  obtain ⟨u, μ1, h1, z⟩ := bnd_inv h
  clear h
  obtain ⟨_, μ2, h2, y⟩ := bnd_inv z
  clear z
  obtain ⟨e2, i, ts0, rfl, hi0⟩ := isL_inv h2
  clear h2
  subst e2
  obtain ⟨v, μ3, h3, h⟩ := bnd_inv y
  clear y
  unfold opExt at h
  simp only at h
  split at h
  · rename_i ts ds hi hds
    split at h
    · rename_i hz
      cases h
      intro X g φ π σ H s0 g0 Q q
      refine toE (pe_bm PySem.F.plainAttrs_list PySem.F.slot_list_extend PySem.F.type_list_extend mt_extS pe_sem (pa_cons pe_sem pa_nil (star_cons hs _)) (base_ok2 hb _ _) (by rw [star_cons hs]; rfl) hl (star_cons hs _) rfl) ?_
      refine ho _ _ _ h1 X g φ π σ H s0 g0 _ fun v' π1 H1 n1 k1 => ?_
      obtain ⟨p, hp, rfl⟩ := k1
      obtain ⟨vs0, hv0, _⟩ := n1.ok.obj i p _ hp hi0
      refine ⟨.inl ⟨rfl, vs0, SqL.of hv0⟩, ?_⟩
      refine he _ _ _ h3 X g φ π1 σ H1 n1.ok (g0.nx n1) _ fun w π2 H2 n2 k2 => ?_
      have hp2 : π2[i]? = some p := by
        obtain ⟨p2, rfl⟩ := n2.ext
        rw [List.getElem?_append_left (List.getElem?_eq_some_iff.mp hp).1]; exact hp
      obtain ⟨vs, hv, hts⟩ := n2.ok.obj i p _ hp2 hi
      obtain ⟨b1, ws, rfl, sq, dl⟩ := seeL_ok n2.ok k2 hds
      refine ⟨p, b1, vs, ws, rfl, rfl, hv, sq, by rw [← hts.len, ← dl.len]; exact hz, ?_⟩
      have n3 := n2.ok.write (o := .lst (vs ++ ws)) (m' := .lst (ts ++ dats ds)) hp2 hi rfl rfl ⟨_, upd_same, hts.append dl.tl⟩
      exact q _ π2 _ ((n1.trans n2).trans n3) .non
    · cases h
  · cases h
end
/-! defs as values -/
section
variable {c : EN.Ctx} {e : Expr} {es : List Expr} {Γ : List (Option T)} {pos p : Pos} {tb : Tab} {call : Orc} {k : Nat} {n : Sh (List T)} {x : Str}
theorem sv_gfn (E : TabOk c.toGc tb) (hg : gloB c.sc x = true) (hm : tb.glo x = true) : EvS c (.Name x pos) Γ (ret (.dat (.fn x))) :=
  sv_gc ⟨_, .ref (He.ga c.K x), E.glo hm, rfl, fun H => .fn x⟩ hg
def fidx (tb : Tab) (x : Str) : Option Nat := tb.fn.findIdx? fun dp => decide (dp.1.at_ = (x, none))
theorem fidx_ok {i : Nat} (h : fidx tb x = some i) : ∃ d ps, tb.fn[i]? = some (d, ps) ∧ d.at_ = (x, none) := by
  unfold fidx at h
  obtain ⟨hi, h1, _⟩ := List.findIdx?_eq_some_iff_getElem.mp h
  exact ⟨_, _, List.getElem?_eq_getElem hi, of_decide_eq_true h1⟩
/-- a call of a value -/
def callV (tb : Tab) (call : Orc) (u : T) (ts : List T) : Sh T := match u with
  | .dat (.fn y) => (match fidx tb y with
    | some i => call i ts
    | none => stop)
  | _ => stop
theorem ev_callV {i : Nat} {y : Str} {ts : List T} {dts : List D} {μ μ1 μ2 : List M} {t : T} (ha : AJ c (e :: es) Γ μ ts μ1) (h : CallJ c.toGc k (y, none) ts dts μ1 t μ2) (hk : k ≤ c.k) (hN : c.N[i]? = some x) (hv : visB c.sc x = true) (hΓ : Γ[i]? = some (some (.dat (.fn y))))
    (hs : (e :: es).all (fun e => !isStar e) = true := by rfl) : EvJ c (.Call (.Name x p) (e :: es) [] pos) Γ μ t μ2 := by
  intro X g φ π σ H s0 g0 Q q
  obtain ⟨fd, ps, dvs, ds, h1, h2, h3, h4, h5⟩ := h
  have hs' := hs
  simp only [List.all_cons, Bool.and_eq_true, Bool.not_eq_true'] at hs'
  have F : FnOk X.prog X.w X.K X.mg X.base (L2.CX X.prog X.w) k (He.fAd X.K (y, none)) fd ps (spJ X.K (ts ++ dats dts) μ1 t μ2) := by rw [g.prog, g.w, g.K, g.mg, g.base]; exact h5
  refine toE (pe_callL (i := i) F (g.room.mono hk) (by rw [g.N]; exact hN) (by rw [g.sc]; exact (visB_ok hv).1) (by rw [g.K]; exact h1) (by rw [g.K]; exact h3) h2 passL pa_sem (visB_ok hv).2.1 (visB_ok hv).2.2 (star_cons hs'.1 _) (no_star hs'.2 _ _)) ?_
  obtain ⟨v, hv1, hv2⟩ := g0.at_ i _ hΓ
  cases hv2
  refine ⟨hv1, ?_⟩
  refine ha X g φ π σ H s0 g0 _ fun vs π1 H1 n1 k1 => ?_
  exact ⟨φ, π1, n1.ok, k1.append (DtL.tl (by rw [g.K]; exact h4 _)), fun v π2 H2 n2 k2 => q v π2 H2 (n1.trans n2) k2⟩
theorem sv_callV {i : Nat} {u : T} (E : TabOk c.toGc tb) (O : OrcOk c.toGc k tb call) (hk : Nat.ble k c.k = true) (ha : AsS c (e :: es) Γ n) (hN : c.N[i]? = some x) (hv : visB c.sc x = true) (hΓ : Γ[i]? = some (some u))
    (hs : (e :: es).all (fun e => !isStar e) = true := by rfl) : EvS c (.Call (.Name x p) (e :: es) [] pos) Γ (bnd n (callV tb call u)) := .mk fun μ t μ' h => by
  obtain ⟨us, μ1, h1, h⟩ := bnd_inv h
  cases u with
  | dat d =>
    cases d with
    | fn y =>
      simp only [callV] at h
      cases hf : fidx tb y with
      | none => rw [hf] at h; cases h
      | some j =>
        rw [hf] at h
        obtain ⟨d, ps, hd, hat⟩ := fidx_ok hf
        have := O j d ps hd us [] (E.bn j d ps hd) _ _ _ (by simpa [dats] using h)
        rw [hat] at this
        exact ev_callV (ha _ _ _ h1) this (Nat.le_of_ble_eq_true hk) hN hv hΓ hs
    | _ => cases h
  | own i => cases h
  | vls _ _ => cases h
end
end EN
/-! dict of a list of pairs; list of a dict. -/
namespace EN
open PySem PySem.Spec PyProof.Rows L2
theorem DtK.tk {K : PySem.W.Frag} {π : List Addr} {H : Hp} : ∀ {ds : List (Key × D)} {vs : List (Key × V)}, DtK K H ds vs → TK K π H (datK ds) vs
  | _, _, .nil => .nil
  | _, _, .cons q r => .cons q r.tk
def pairsOf : List D → Option (List (Key × D))
  | [] => some []
  | .tup [.str x, v] :: r => (pairsOf r).map ((.inr x, v) :: ·)
  | .tup [.int i, v] :: r => (pairsOf r).map ((.inl i, v) :: ·)
  | _ :: _ => none
theorem pairs_dt {K : PySem.W.Frag} {H : Hp} : ∀ {ds : List D} {vs : List V} {kvs : List (Key × D)}, DtL K H ds vs → pairsOf ds = some kvs → ∃ (ps : List Addr) (ws : List (Key × V)), vs = ps.map V.ref ∧ Paired (fun p kv => SqT K H p [kV kv.1, kv.2]) ps ws ∧ DtK K H kvs ws
  | _, _, _, .nil, h => by cases h; exact ⟨[], [], rfl, .nil, .nil⟩
  | d :: ds, v0 :: vs0, kvs, .cons q r, h => by
    have step : ∀ (k : Key) (kd v : D), (∀ w, Dt K H kd w → w = kV k) → Dt K H (.tup [kd, v]) v0 → (pairsOf ds).map ((k, v) :: ·) = some kvs → ∃ (ps : List Addr) (ws : List (Key × V)), v0 :: vs0 = ps.map V.ref ∧ Paired (fun p kv => SqT K H p [kV kv.1, kv.2]) ps ws ∧ DtK K H kvs ws := by
      intro k kd v hk q h'
      cases e2 : pairsOf ds with
      | none => rw [e2] at h'; cases h'
      | some ks =>
        rw [e2] at h'; cases h'
        obtain ⟨ps, ws, rfl, h2, h3⟩ := pairs_dt r e2
        cases q with
        | tup s l =>
          cases l with
          | cons k1 l =>
            cases l with
            | cons k2 l =>
              cases l
              rename_i a _ _
              have := hk _ k1
              subst this
              exact ⟨_ :: ps, (k, _) :: ws, rfl, .cons s h2, .cons k2 h3⟩
    match d, h, q with
    | .tup [.str x, v], h, q => exact step (.inr x) (.str x) v (fun w hw => by cases hw; rfl) q h
    | .tup [.int i, v], h, q => exact step (.inl i) (.int i) v (fun w hw => by cases hw; rfl) q h
def fDict : List T → Sh T
  | [x] => fun μ => match (seeL x μ).bind pairsOf with
    | some kvs => (match undatK (mergeD [] (datK kvs)) with
      | some ds => .ok (.dat (.dic ds)) μ
      | none => .no)
    | none => .no
  | _ => stop
def fListK : List T → Sh T
  | [.dat (.dic kvs)] => ret (.dat (.lst (kvs.map fun kv => keyD kv.1)))
  | ts => fList ts
theorem keys_dt {K : PySem.W.Frag} {Hd : Hp} : ∀ {ds : List (Key × D)} {vs : List (Key × V)}, DtK K Hd ds vs → ∀ Hx : Hp, DtL K Hx (ds.map fun kv => keyD kv.1) (vs.map fun kv => kV kv.1)
  | _, _, .nil, _ => .nil
  | _, _, .cons (k := k) _ r, Hx => .cons (by cases k <;> constructor) (keys_dt r Hx)
section
variable {c : EN.Ctx} {ts : List T}
theorem fDict_ok : C1S c (.type "dict") ts (fDict ts) := fun μ t μ' h => by
  unfold fDict at h
  split at h
  · split at h
    · rename_i x kvs q
      split at h
      · rename_i ds hu
        cases h
        obtain ⟨es, q1, q2⟩ := Option.bind_eq_some_iff.mp q
        exact fun X gX => ⟨_, call_dictP gX.calm, fun φ π H vs s0 h Q qq => by
          obtain ⟨v, rfl, kk⟩ := h.one
          obtain ⟨a, us, rfl, s1, l1⟩ := seeL_ok s0 kk q1
          obtain ⟨ps, ws, rfl, h2, h3⟩ := pairs_dt l1 q2
          refine ⟨a, ps, ws, rfl, s1, ?_, fun p np => ?_⟩
          · clear h3 s1 l1
            induction h2 with
            | nil => exact .nil
            | cons q _ ih => exact .cons ((hd_le _ _ _ _ : Ex _ _).sqT q) ih
          · obtain ⟨n1, at1⟩ := s0.newData (o := .dK (mergeK [] ws)) np
            have tk := merge_tk (h3.tk (π := [])) (TK.nil (K := X.K) (π := []) (Hd := hd φ π μ H) (κ := Key))
            rw [undatK_some hu] at tk
            exact qq _ π _ n1 (.dic (.inl at1) (DtK.mono n1.le tk.dtK))⟩
      · cases h
    · cases h
  · cases h
theorem fListK_ok : C1S c (.type "list") ts (fListK ts) := fun μ t μ' h => by
  unfold fListK at h
  split at h
  · cases h
    exact fun X gX => ⟨_, call_listD gX.calm, fun φ π H vs s0 h Q qq => by
      obtain ⟨v, rfl, kk⟩ := h.one
      cases kk with
      | dic s l =>
        refine ⟨_, _, rfl, (hd_le _ _ _ _ : Ex _ _).rd s, fun p np => ?_⟩
        obtain ⟨n1, at1⟩ := s0.newData np
        exact qq _ π _ n1 (.lst (SqL.of at1) (keys_dt l _))⟩
  · exact fList_ok μ t μ' h
end
end EN
/-! for and comprehensions over a list of one's own, whatever it holds: it has to stand as it was at each turn. Comparing what holds lists of one's own. -/
namespace EN
open PySem PySem.Spec PyProof.Rows L2
section
variable {c : EN.Ctx} {e x tg iter : Expr} {Γ Γ' : List (Option T)} {pos : Pos} {body : List Stmt} {μ μ1 μ2 : List M} {t u : T} {o : Out}
def WalksP (P : List M → Prop) (K : PySem.W.Frag) (J : It) (its : List T) (φ π1 : List Addr) (H1 : Hp) (μ1 : List M) : Prop :=
  ∀ (i : Nat) φ2 π2 H2 μ2, SOk K φ2 π2 H2 μ2 → (∃ p, π2 = π1 ++ p) → Ex (hd φ π1 μ1 H1) (hd φ2 π2 μ2 H2) → P μ2 →
    (∀ t, its[i]? = some t → J.go i H2 ∧ ∀ x H', J.yld i H2 x H' → Nxt K φ2 π2 H2 μ2 π2 H' μ2 ∧ TOk K π2 (hd φ2 π2 μ2 H') t x) ∧ (its.length ≤ i → J.stop i H2)
def IterP (P : List M → Prop) (c : EN.Ctx) (tg iter : Expr) (Γ : List (Option T)) (μ : List M) (its : List T) (μ1 : List M) : Prop :=
  ∀ X, Good c X → ∃ wi, PI X tg iter wi ∧ ∀ φ π σ H, SOk X.K φ π H μ → FOk X.K π (hd φ π μ H) Γ σ → ∀ R : It → Hp → Prop, (∀ J π1 H1, Nxt X.K φ π H μ π1 H1 μ1 → WalksP P X.K J its φ π1 H1 μ1 → R J H1) → wi σ H R
def LoopP (P : List M → Prop) (c : EN.Ctx) (gt : TG) (body : List Stmt) : List T → List (Option T) → List M → Out → Prop
  | [], Γ, μ, o => P μ ∧ o = .nx Γ μ
  | t :: ts, Γ, μ, o => P μ ∧ ∃ Γ1 js, GvJ c gt t Γ μ Γ1 js ∧ ∃ o1, SJ c body Γ1 μ o1 ∧ match o1 with
    | .nx Γ2 μ2 => LoopP P c gt body ts Γ2 μ2 o
    | .ct Γ2 μ2 => LoopP P c gt body ts Γ2 μ2 o
    | .bk Γ2 μ2 => o = .nx Γ2 μ2
    | .rt u μ2 => o = .rt u μ2
theorem loopP_P {P : List M → Prop} {gt : TG} : ∀ {its : List T}, LoopP P c gt body its Γ μ o → P μ
  | [], h => h.1
  | _ :: _, h => h.1
def CmpP (P : List M → Prop) (c : EN.Ctx) (gt : TG) (elt : Expr) (ifs : List Expr) (Γ : List (Option T)) (vs : List Nat) : List T → List M → List D → List M → Prop
  | [], μ, ds, μ' => P μ ∧ ds = [] ∧ μ' = μ
  | t :: ts, μ, ds, μ' => P μ ∧ ∃ Γ1 js b μ2, GvJ c gt t Γ μ Γ1 js ∧ (∀ j ∈ js, j ∈ vs) ∧ IfsJ c ifs Γ1 μ b μ2 ∧
    (b = true → ∃ d μ3 ds', EvJ c elt Γ1 μ2 (.dat d) μ3 ∧ CmpP P c gt elt ifs Γ vs ts μ3 ds' μ' ∧ ds = d :: ds') ∧ (b = false → CmpP P c gt elt ifs Γ vs ts μ2 ds μ')
theorem cmpP_P {P : List M → Prop} {gt : TG} {elt : Expr} {ifs : List Expr} {vs : List Nat} : ∀ {its : List T} {ds : List D}, CmpP P c gt elt ifs Γ vs its μ ds μ1 → P μ
  | [], _, h => h.1
  | _ :: _, _, h => h.1
theorem st_forP {P : List M → Prop} {gt : TG} {its : List T} {μ μ1 : List M} {o : Out} (hi : IterP P c tg iter Γ μ its μ1) (hg : TgJ c tg gt) (hl : LoopP P c gt body its Γ' μ1 o) (hw : LeG Γ' Γ) (hs : ∀ env x, foldedSetIterable iter env x = pure x := by intro _ _; rfl) : StJ c (.For tg iter body [] pos) Γ μ o := by
  intro X g φ π σ H s0 g0 D q
  obtain ⟨wi, hpi, oki⟩ := hi X g
  refine toS (ps_for g.pass g.calm hpi (hg X g) pss_sem (hs X.env)) ?_
  refine oki φ π σ H s0 g0 _ fun J π1 H1 n1 wk => ?_
  refine ⟨fun i m σ' H' => m = its.length - i ∧ i ≤ its.length ∧ ∃ π2 Γ2 μ2, Nxt X.K φ π1 H1 μ1 π2 H' μ2 ∧ FOk X.K π2 (hd φ π2 μ2 H') Γ2 σ' ∧ LoopP P c gt body (its.drop i) Γ2 μ2 o, ⟨its.length, by simp, by simp, π1, Γ', μ1, Nxt.refl n1.ok, hw.fok (g0.nx n1), hl⟩, ?_⟩
  rintro i m σ' H' ⟨rfl, hle, π2, Γ2, μ2, n2, f2, l2⟩
  obtain ⟨w1, w2⟩ := wk i φ π2 H' μ2 n2.ok n2.ext n2.le (loopP_P l2)
  by_cases hlt : i < its.length
  · have hd' : its.drop i = its[i] :: its.drop (i + 1) := List.drop_eq_getElem_cons hlt
    rw [hd'] at l2
    obtain ⟨_, Γ3, js, hv, o1, hb, l3⟩ := l2
    obtain ⟨go, yl⟩ := w1 its[i] (List.getElem?_eq_getElem hlt)
    refine .inr ⟨go, fun σ4 H4 => ∃ m', m' < its.length - i ∧ (m' = its.length - (i + 1) ∧ i + 1 ≤ its.length ∧ ∃ π2 Γ2 μ2, Nxt X.K φ π1 H1 μ1 π2 H4 μ2 ∧ FOk X.K π2 (hd φ π2 μ2 H4) Γ2 σ4 ∧ LoopP P c gt body (its.drop (i + 1)) Γ2 μ2 o), fun σ4 H4 h4 => h4, fun x H3 hx => ?_⟩
    obtain ⟨n3, k3⟩ := yl x H3 hx
    have f3 := f2.nx n3
    have s3 := n3.ok
    rw [g.K] at f3 s3 k3
    refine hv φ π2 σ' H3 x s3 f3 k3 _ fun σ5 f5 _ => ?_
    rw [← g.K] at f5 s3
    refine hb X g φ π2 σ5 H3 n3.ok f5 _ ?_
    cases o1 with
    | nx Γ4 μ4 => exact fun σ6 π6 H6 n6 f6 => ⟨_, by omega, rfl, hlt, π6, Γ4, μ4, (n2.trans n3).trans n6, f6, l3⟩
    | ct Γ4 μ4 => exact fun σ6 π6 H6 n6 f6 => ⟨_, by omega, rfl, hlt, π6, Γ4, μ4, (n2.trans n3).trans n6, f6, l3⟩
    | bk Γ4 μ4 =>
      have l3 : o = .nx Γ4 μ4 := l3
      subst l3
      exact fun σ6 π6 H6 n6 f6 => q σ6 π6 H6 (((n1.trans n2).trans n3).trans n6) f6
    | rt u μ4 =>
      have l3 : o = .rt u μ4 := l3
      subst l3
      exact fun v π6 H6 n6 f6 => q v π6 H6 (((n1.trans n2).trans n3).trans n6) f6
  · have e : i = its.length := by omega
    subst e
    rw [List.drop_length] at l2
    have l2 : o = .nx Γ2 μ2 := l2.2
    subst l2
    exact .inl ⟨w2 (Nat.le_refl _), q σ' π2 H' (n1.trans n2) f2⟩
theorem lcP_ok {P : List M → Prop} {X : Cx} (g : Good c X) {tg iter elt : Expr} {ifs : List Expr} {scope : Scope} {vs : List Nat} {gt : TG} {its : List T} {ds : List D} {wi : TI} {φ π : List Addr} {σ : L2.St} {H : Hp} {Q : VK}
    (oki : ∀ R : It → Hp → Prop, (∀ J π1 H1, Nxt X.K φ π H μ π1 H1 μ1 → WalksP P X.K J its φ π1 H1 μ1 → R J H1) → wi σ H R) (s0 : SOk X.K φ π H μ) (g0 : FOk X.K π (hd φ π μ H) Γ σ)
    (hz : its.length ≤ 1000000) (hl : CmpP P (c.blk scope) gt elt ifs (wipeG Γ vs) vs its μ1 ds μ2) (q : Pst X.K φ π H μ (.dat (.lst ds)) μ2 Q) : tLc wi gt (semTsB X scope ifs) (semEB X scope elt) vs σ H Q := by
  refine oki _ fun J π1 H1 n1 wk => fun Dl hD => ?_
  have hφ : Dl ∉ φ := fun z => n1.ok.notin hD (List.mem_append_left _ z)
  obtain ⟨f1, e1⟩ := n1.ok.frame (o := .lst []) hD
  refine ⟨fun i m H' => m = its.length - i ∧ i ≤ its.length ∧ ∃ π2 μ2' acc done rest, (∃ p, π2 = π1 ++ p) ∧ SOk X.K (Dl :: φ) π2 H' μ2' ∧ (∀ a ∈ φ, H' a = H1 a) ∧ Ex (hd φ π1 μ1 H1) (hd (Dl :: φ) π2 μ2' H') ∧ H' Dl = some (.lst acc) ∧ acc.length ≤ i ∧ DtL X.K (hd (Dl :: φ) π2 μ2' H') done acc ∧ CmpP P (c.blk scope) gt elt ifs (wipeG Γ vs) vs (its.drop i) μ2' rest μ2 ∧ ds = done ++ rest,
    ⟨its.length, by simp, by simp, π1, μ1, [], [], ds, ⟨[], by simp⟩, f1, fun a ha => upd_ne (show a ≠ Dl from fun z => hφ (z ▸ ha)), by rw [e1]; exact Ex.rfl', upd_same, Nat.le_refl _, .nil, hl, rfl⟩, ?_⟩
  rintro i m H' ⟨rfl, hle, π2, μ3, acc, done, rest, hext, s2, same2, le2, hacc, hal, hdone, l2, hds⟩
  obtain ⟨w1, w2⟩ := wk i (Dl :: φ) π2 H' μ3 s2 hext le2 (cmpP_P l2)
  by_cases hlt : i < its.length
  · have hd' : its.drop i = its[i] :: its.drop (i + 1) := List.drop_eq_getElem_cons hlt
    rw [hd'] at l2
    obtain ⟨_, Γ1, js, b, μ4, hv, hjs, hifs, ht, hf⟩ := l2
    obtain ⟨go, yl⟩ := w1 its[i] (List.getElem?_eq_getElem hlt)
    refine .inr ⟨go, fun H5 => ∃ m', m' < its.length - i ∧ (m' = its.length - (i + 1) ∧ i + 1 ≤ its.length ∧ ∃ π2 μ2' acc done rest, (∃ p, π2 = π1 ++ p) ∧ SOk X.K (Dl :: φ) π2 H5 μ2' ∧ (∀ a ∈ φ, H5 a = H1 a) ∧ Ex (hd φ π1 μ1 H1) (hd (Dl :: φ) π2 μ2' H5) ∧ H5 Dl = some (.lst acc) ∧ acc.length ≤ i + 1 ∧ DtL X.K (hd (Dl :: φ) π2 μ2' H5) done acc ∧ CmpP P (c.blk scope) gt elt ifs (wipeG Γ vs) vs (its.drop (i + 1)) μ2' rest μ2 ∧ ds = done ++ rest), fun H5 h5 => h5, fun x H3 hx => ?_⟩
    obtain ⟨n3, k3⟩ := yl x H3 hx
    have f0 : FOk X.K π2 (hd (Dl :: φ) π2 μ3 H3) (wipeG Γ vs) (L2.wipe σ vs) := by
      refine (g0.wipe vs).mono ?_ ((n1.le.tr le2).tr n3.le)
      obtain ⟨p1, e1'⟩ := n1.ext
      obtain ⟨p2, e2'⟩ := hext
      exact ⟨p1 ++ p2, by rw [e2', e1', List.append_assoc]⟩
    have s3 := n3.ok
    have f0' := f0; have s3' := s3; have k3' := k3
    rw [g.K] at f0' s3' k3'
    refine hv (Dl :: φ) π2 (L2.wipe σ vs) H3 x s3' f0' k3' _ fun σ4 f4 w4 => ?_
    replace f4 : FOk X.K π2 (hd (Dl :: φ) π2 μ3 H3) Γ1 σ4 := by rw [g.K]; exact f4
    refine ⟨(w4 vs hjs).trans wipe_idem, ?_⟩
    refine ifs_ok g hifs s3 f4 fun π5 H5 n5 => ?_
    have n35 := n3.trans n5
    have ext5 : ∃ p, π5 = π1 ++ p := by
      obtain ⟨p1, e1'⟩ := hext
      obtain ⟨p2, e2'⟩ := n35.ext
      exact ⟨p1 ++ p2, by rw [e2', e1', List.append_assoc]⟩
    cases b with
    | false =>
      rw [if_neg Bool.false_ne_true]
      exact ⟨_, by omega, rfl, hlt, π5, μ4, acc, done, rest, ext5, n5.ok, fun a ha => (n35.same a (List.mem_cons_of_mem _ ha)).trans (same2 a ha), le2.tr n35.le, by rw [n35.same Dl (by simp)]; exact hacc, by omega, DtL.mono n35.le hdone, hf rfl, hds⟩
    | true =>
      rw [if_pos rfl]
      obtain ⟨d, μ5, ds', hev, l5, rfl⟩ := ht rfl
      intro sx Hx C cl fp
      refine hev _ (g.blk scope sx Hx cl C fp) (Dl :: φ) π5 σ4 H5 n5.ok (f4.nx n5) _ fun y π6 H6 n6 k6 => ?_
      have n36 := n35.trans n6
      have hD6 : H6 Dl = some (.lst acc) := by rw [n36.same Dl (by simp)]; exact hacc
      refine ⟨acc, hD6, Nat.lt_of_le_of_lt (Nat.le_trans hal hle) (Nat.lt_of_le_of_lt hz (by decide)), ?_⟩
      obtain ⟨s7, e7⟩ := n6.ok.fwrite (o := .lst (acc ++ [y]))
      refine ⟨_, by omega, rfl, hlt, π6, μ5, acc ++ [y], done ++ [d], ds', ?_, s7, fun a ha => ?_, ?_, upd_same, by simp; omega, ?_, l5, by rw [hds]; simp⟩
      · obtain ⟨p1, e1'⟩ := hext
        obtain ⟨p2, e2'⟩ := n36.ext
        exact ⟨p1 ++ p2, by rw [e2', e1', List.append_assoc]⟩
      · rw [upd_ne (show a ≠ Dl from fun z => hφ (z ▸ ha)), n36.same a (List.mem_cons_of_mem _ ha)]
        exact same2 a ha
      · rw [e7]; exact le2.tr n36.le
      · rw [e7]; exact (DtL.mono n36.le hdone).append (.cons k6 .nil)
  · have e : i = its.length := by omega
    subst e
    rw [List.drop_length] at l2
    obtain ⟨_, rfl, rfl⟩ := l2
    rw [List.append_nil] at hds
    subst hds
    refine .inl ⟨w2 (Nat.le_refl _), ?_⟩
    obtain ⟨u1, u2, u3⟩ := s2.unframe hφ
    exact q _ π2 H' (n1.trans ⟨hext, u1, same2, le2.tr u2⟩) (.lst (SqL.of (by rw [u3]; exact hacc)) (DtL.mono u2 hdone))
theorem ev_compP {P : List M → Prop} {tg iter elt : Expr} {ifs : List Expr} {scope : Scope} {own : List (Str × Nat)} {gt : TG} {its : List T} {ds : List D} (hi : IterP P c tg iter Γ μ its μ1) (hb : blkC c.N c.sc scope own = true) (hg : TgJ (c.blk scope) tg gt)
    (hl : CmpP P (c.blk scope) gt elt ifs (wipeG Γ (own.map (·.2))) (own.map (·.2)) its μ1 ds μ2) (hz : its.length ≤ 1000000) (hs : ∀ env x, foldedSetIterable iter env x = pure x := by intro _ _; rfl) :
    EvJ c (.ListComp elt [⟨tg, iter, ifs, 0⟩] scope pos) Γ μ (.dat (.lst ds)) μ2 := by
  intro X g φ π σ H s0 g0 Q q
  obtain ⟨wi, hpi, oki⟩ := hi X g
  refine toE (pe_lc (own := own) (g := gt) (tt := semTsB X scope ifs) (te := semEB X scope elt) g.calm (by rw [g.N]; exact g.nd) hpi (by rw [g.N, g.sc]; exact blkOk_by hb) (fun s H C cl fp => hg _ (g.blk scope s H cl C fp)) (fun s H C cl fp => ⟨fun pins s' σ H' Q I h => h s H C cl fp pins s' I⟩) (fun s H C cl fp => ⟨fun pins s' σ H' Q I h => h s H C cl fp pins s' I⟩) (hs X.env)) ?_
  exact lcP_ok (tg := tg) (iter := iter) g (oki φ π σ H s0 g0) s0 g0 hz hl q

/-- a list of one's own, walked -/
theorem it_own {tg : Expr} {k : Nat} {ts : List T} (h : EvJ c e Γ μ (.own k) μ1) (hk : μ1[k]? = some (.lst ts)) : IterP (fun μ => μ[k]? = some (.lst ts)) c tg e Γ μ ts μ1 := fun X g => ⟨_, pi_list pe_sem, fun φ π σ H s0 g0 R q => by
  refine h X g φ π σ H s0 g0 _ fun v π1 H1 n1 k1 => ?_
  obtain ⟨p, hp, rfl⟩ := k1
  obtain ⟨vs, hv, htl⟩ := n1.ok.obj k p _ hp hk
  have hkl := (List.getElem?_eq_some_iff.mp hp).1
  refine ⟨p, rfl, ⟨vs, .inl (.inl hv)⟩, q _ π1 H1 n1 ?_⟩
  intro i φ2 π2 H2 μ2 s2 hext le hP
  have hp2 : π2[k]? = some p := by
    obtain ⟨p', e⟩ := hext
    rw [e, List.getElem?_append_left hkl]; exact hp
  obtain ⟨ws, hw, htw⟩ := s2.obj k p _ hp2 hP
  have hsq : SqL X.K H2 p ws := .inl (.inl hw)
  refine ⟨fun t ht => ?_, fun hi => ⟨ws, hsq, by rw [← htw.len]; exact hi⟩⟩
  obtain ⟨y, hy, ky⟩ := TL.getT htw ht
  refine ⟨⟨ws, y, hsq, hy⟩, fun z H' hz => ?_⟩
  obtain ⟨rfl, hz⟩ := hz
  have := hz ws hsq
  rw [hy] at this; cases this
  exact ⟨Nxt.refl s2, ky⟩⟩
end
/-! shallow -/
def itO (u : T) : Sh (List T) := fun μ => match u with
  | .own k => (match μ[k]? with
    | some (.lst ts) => .ok ts μ
    | _ => .no)
  | _ => .no
open Classical in
noncomputable def chkO (u : T) (ts : List T) : Sh Unit := fun μ => match u with
  | .own k => if μ[k]? = some (.lst ts) then .ok () μ else .no
  | _ => .no
theorem chkO_inv {u : T} {ts : List T} {μ μ' : List M} (h : chkO u ts μ = .ok () μ') : μ' = μ ∧ ∃ k, u = .own k ∧ μ[k]? = some (.lst ts) := by
  unfold chkO at h
  split at h
  · split at h
    · cases h; exact ⟨rfl, _, rfl, by assumption⟩
    · cases h
  · cases h
theorem chkO_ok {k : Nat} {ts : List T} {μ : List M} (h : μ[k]? = some (.lst ts)) : chkO (.own k) ts μ = .ok () μ := by
  simp only [chkO, h, if_true]
theorem itO_inv {u : T} {ts : List T} {μ μ' : List M} (h : itO u μ = .ok ts μ') : μ' = μ ∧ ∃ k, u = .own k ∧ μ[k]? = some (.lst ts) := by
  unfold itO at h
  split at h
  · split at h
    · cases h; exact ⟨rfl, _, rfl, by assumption⟩
    · cases h
  · cases h
noncomputable def forO {α : Type} (u : T) (F : T → α → Sh α) (a0 : α) : Sh α := bnd (itO u) fun its => bnd (forN (fun t a => bnd (chkO u its) fun _ => F t a) its a0) fun r => bnd (chkO u its) fun _ => ret r
noncomputable def compSO (m : Sh T) (F : T → Sh (Option D)) : Sh T := bnd m fun u => bnd (itO u) fun its => if Nat.ble its.length 1000000 then bnd (cmpS (fun t => bnd (chkO u its) fun _ => F t) its) fun ds => bnd (chkO u its) fun _ => ret (.dat (.lst ds)) else stop
section
variable {α : Type} {c : EN.Ctx} {e tg iter : Expr} {Γ Γ' : List (Option T)} {pos : Pos} {body : List Stmt} {g : α → List (Option T)} {m : Sh T}
theorem forO_loop {gt : TG} {u : T} {its0 : List T} {k : Nat} (hu : u = .own k) {F : T → α → Sh α} (h : ∀ t a, TurnS c gt (g a) none t (F t a) (KN c body g)) : ∀ (its : List T) (a : α) (μ : List M) (r : α) (μ' : List M), forN (fun t a => bnd (chkO u its0) fun _ => F t a) its a μ = .ok r μ' → μ'[k]? = some (.lst its0) → LoopP (fun μ => μ[k]? = some (.lst its0)) c gt body its (g a) μ (.nx (g r) μ')
  | [], a, μ, r, μ', q, p => by cases q; exact ⟨p, rfl⟩
  | t :: ts, a, μ, r, μ', q, p => by
    obtain ⟨b, μ1, h1, q1⟩ := bnd_inv q
    clear q
    obtain ⟨_, μ0, h0, h2⟩ := bnd_inv h1
    clear h1
    obtain ⟨rfl, k', e', hk⟩ := chkO_inv h0
    rw [hu] at e'; cases e'
    obtain ⟨Γ1, js, hv, _, hb⟩ := h t a _ _ _ h2
    exact ⟨hk, Γ1, js, hv, _, hb, forO_loop hu h ts b _ _ _ q1 p⟩
theorem nst_forO {gt : TG} {F : T → α → Sh α} {a0 : α} (hi : EvS c iter Γ m) (hg : TgJ c tg gt) (hw : LeG (g a0) Γ) (h : ∀ t a, TurnS c gt (g a) none t (F t a) (KN c body g)) (hs : ∀ env x, foldedSetIterable iter env x = pure x := by intro _ _; rfl) :
    NSt c (.For tg iter body [] pos) Γ g (bnd m fun u => forO u F a0) := .mk fun μ r μ' q => by
  obtain ⟨u, μ1, h1, q1⟩ := bnd_inv q
  clear q
  obtain ⟨its, μ2, h2, q2⟩ := bnd_inv q1
  clear q1
  obtain ⟨rfl, k, rfl, hk⟩ := itO_inv h2
  obtain ⟨r', μ3, h3, q3⟩ := bnd_inv q2
  clear q2
  obtain ⟨_, μ4, h4, q4⟩ := bnd_inv q3
  clear q3
  cases q4
  obtain ⟨rfl, k', e', hk'⟩ := chkO_inv h4
  cases e'
  exact st_forP (it_own (hi _ _ _ h1) hk) hg (forO_loop rfl h _ _ _ _ _ h3 hk') hw hs
theorem cmpO_ok {gt : TG} {elt : Expr} {ifs : List Expr} {vs : List Nat} {u : T} {its0 : List T} {k : Nat} (hu : u = .own k) {F : T → Sh (Option D)} (h : ∀ t, TurnS c gt Γ (some vs) t (F t) (CtS c elt ifs)) : ∀ (its : List T) (μ : List M) (ds : List D) (μ' : List M), cmpS (fun t => bnd (chkO u its0) fun _ => F t) its μ = .ok ds μ' → μ'[k]? = some (.lst its0) → CmpP (fun μ => μ[k]? = some (.lst its0)) c gt elt ifs Γ vs its μ ds μ'
  | [], μ, ds, μ', q, p => by cases q; exact ⟨p, rfl, rfl⟩
  | t :: ts, μ, ds, μ', q, p => by
    obtain ⟨r, μ1, h1, q1⟩ := bnd_inv q
    clear q
    obtain ⟨ds', μ2, h2, q2⟩ := bnd_inv q1
    clear q1
    cases q2
    obtain ⟨_, μ0, h0, h3⟩ := bnd_inv h1
    clear h1
    obtain ⟨rfl, k', e', hk⟩ := chkO_inv h0
    rw [hu] at e'; cases e'
    obtain ⟨Γ1, js, hv, hj, bb, μ3, hi, ht, hf⟩ := h t _ _ _ h3
    have ih := cmpO_ok hu h ts _ _ _ h2 p
    refine ⟨hk, Γ1, js, bb, μ3, hv, hj vs rfl, hi, fun e => ?_, fun e => ?_⟩
    · obtain ⟨d, rfl, k⟩ := ht e
      exact ⟨d, μ1, ds', k, ih, rfl⟩
    · obtain ⟨rfl, rfl⟩ := hf e
      exact ih
theorem sv_compSO {elt : Expr} {ifs : List Expr} {scope : Scope} {own : List (Str × Nat)} {gt : TG} {F : T → Sh (Option D)} {Γ1 : List (Option T)} (hi : EvS c iter Γ m) (hb : blkC c.N c.sc scope own = true) (hg : TgJ (c.blk scope) tg gt)
    (hw : wipeG Γ (own.map (·.2)) = Γ1) (hF : ∀ t, TurnS (c.blk scope) gt Γ1 (some (own.map (·.2))) t (F t) (CtS (c.blk scope) elt ifs)) (hs : ∀ env x, foldedSetIterable iter env x = pure x := by intro _ _; rfl) :
    EvS c (.ListComp elt [⟨tg, iter, ifs, 0⟩] scope pos) Γ (compSO m F) := .mk fun μ t μ' h => by
  obtain ⟨u, μ1, h1, q1⟩ := bnd_inv h
  clear h
  obtain ⟨its, μ2, h2, q2⟩ := bnd_inv q1
  clear q1
  obtain ⟨rfl, k, rfl, hk⟩ := itO_inv h2
  split at q2
  · rename_i hz
    obtain ⟨ds, μ3, h3, q3⟩ := bnd_inv q2
    clear q2
    obtain ⟨_, μ4, h4, q4⟩ := bnd_inv q3
    clear q3
    cases q4
    obtain ⟨rfl, k', e', hk'⟩ := chkO_inv h4
    cases e'
    subst hw
    exact ev_compP (it_own (hi _ _ _ h1) hk) hb hg (cmpO_ok rfl hF _ _ _ _ h3 hk') (Nat.le_of_ble_eq_true hz) hs
  · cases q2
end
/-! == of what holds lists of one's own -/
def seeDs : List T → List M → Option (List D)
  | [], _ => some []
  | t :: ts, μ => match seeD t μ, seeDs ts μ with
    | some d, some ds => some (d :: ds)
    | _, _ => none
def seeD2 (t : T) (μ : List M) : Option D := match t with
  | .own i => match μ[i]? with
    | some (.lst ts) => (seeDs ts μ).map .lst
    | _ => seeD (.own i) μ
  | t => seeD t μ
theorem seeDs_ok {K : PySem.W.Frag} {φ π : List Addr} {H : Hp} {μ : List M} (s : SOk K φ π H μ) : ∀ {ts : List T} {vs : List V} {ds : List D}, TL K π (hd φ π μ H) ts vs → seeDs ts μ = some ds → DtL K H ds vs
  | [], _, _, .nil, e => by cases e; exact .nil
  | t :: ts, _, ds, .cons q r, e => by
    simp only [seeDs] at e
    split at e
    · rename_i d ds' e1 e2
      cases e
      exact .cons (seeD_ok s q e1) (seeDs_ok s r e2)
    · cases e
theorem seeD2_ok {K : PySem.W.Frag} {φ π : List Addr} {H : Hp} {μ : List M} {t : T} {v : V} {d : D} (s : SOk K φ π H μ) (h : TOk K π (hd φ π μ H) t v) (e : seeD2 t μ = some d) : Dt K H d v := by
  unfold seeD2 at e
  split at e
  · rename_i i
    split at e
    · rename_i ts hi
      obtain ⟨a, ha, rfl⟩ := h
      obtain ⟨vs, hv, htl⟩ := s.obj i a _ ha hi
      cases e2 : seeDs ts μ with
      | none => rw [e2] at e; cases e
      | some ds =>
        rw [e2] at e
        cases e
        exact .lst (.inl (.inl hv)) (seeDs_ok s htl e2)
    · exact seeD_ok s h e
  · exact seeD_ok s h e
def opEq2 (x y : T) : Sh T := fun μ => match seeD2 x μ, seeD2 y μ with
  | some d, some e => match eqD d e with
    | some b => .ok (.bl b) μ
    | none => .no
  | _, _ => .no
def opNe2 (x y : T) : Sh T := fun μ => match seeD2 x μ, seeD2 y μ with
  | some d, some e => match eqD d e with
    | some b => .ok (.bl (!b)) μ
    | none => .no
  | _, _ => .no
section
variable {c : EN.Ctx} {x y : T}
theorem eq2_ok : R2S c (compareOp .Eq) x y (opEq2 x y) := by
  intro μ t μ' h
  unfold opEq2 at h
  split at h
  · rename_i q1 q2
    split at h
    · rename_i b q
      cases h
      unfold eqD at q
      split at q
      · rename_i hs
        cases q
        exact fun X gX => ⟨_, op_eq, fun φ π H v w s0 h1 h2 Q qq => by
          obtain ⟨z1, z2⟩ := sc_ok hs (seeD2_ok s0 h1 q1) (seeD2_ok s0 h2 q2)
          exact ⟨z1, qq _ π H (Nxt.refl s0) (by rw [z2]; exact .bl _)⟩⟩
      · split at q
        · rename_i hs
          cases q
          simp only [Bool.and_eq_true] at hs
          exact fun X gX => ⟨_, op_eqD gX.room.units, fun φ π H v w s0 h1 h2 Q qq => ⟨_, _, dp_of (seeD2_ok s0 h1 q1) hs.1, dp_of (seeD2_ok s0 h2 q2) hs.2, hs.1, hs.2, qq _ π H (Nxt.refl s0) (.bl _)⟩⟩
        · cases q
    · cases h
  · cases h
theorem ne2_ok : R2S c (compareOp .NotEq) x y (opNe2 x y) := by
  intro μ t μ' h
  unfold opNe2 at h
  split at h
  · rename_i q1 q2
    split at h
    · rename_i b q
      cases h
      unfold eqD at q
      split at q
      · rename_i hs
        cases q
        exact fun X gX => ⟨_, op_ne, fun φ π H v w s0 h1 h2 Q qq => by
          obtain ⟨z1, z2⟩ := sc_ok hs (seeD2_ok s0 h1 q1) (seeD2_ok s0 h2 q2)
          exact ⟨z1, qq _ π H (Nxt.refl s0) (by rw [z2]; exact .bl _)⟩⟩
      · split at q
        · rename_i hs
          cases q
          simp only [Bool.and_eq_true] at hs
          exact fun X gX => ⟨_, op_neD gX.room.units, fun φ π H v w s0 h1 h2 Q qq => ⟨_, _, dp_of (seeD2_ok s0 h1 q1) hs.1, dp_of (seeD2_ok s0 h2 q2) hs.2, hs.1, hs.2, qq _ π H (Nxt.refl s0) (.bl _)⟩⟩
        · cases q
    · cases h
  · cases h

end
end EN
/-! max(.., default=..) of a list of ints; count of a truth value in a list of them. -/
namespace EN
open PySem PySem.Spec PyProof.Rows L2
def maxDf (d : Int) : List Int → Int
  | [] => d
  | n :: ns => ns.foldl max n
def rMaxDef (K : PySem.W.Frag) : List V → List V → Hp → VK → Prop := fun vs zs H Q => ∃ (a : Addr) (ns : List Int) (d : Int), vs = [V.ref a] ∧ zs = [V.int d] ∧ SqL K H a (ns.map V.int) ∧ Q (.int (maxDf d ns)) H
theorem depth_ints : ∀ ns : List Int, PyData.depthAll (ns.map PyData.int) = 0
  | [] => rfl
  | n :: ns => by
    simp only [List.map_cons, PyData.depthAll, depth_ints ns]
    rfl
theorem cr_maxDef {X : L2.Cx} (hc : X.calm = true) (hu : X.A.units + 1 < cLine) : CallRK X (.builtin "max") [Str.ofString "default"] (rMaxDef X.K) := by
  intro pins s σ H vs zs us ws Q I r rz h
  obtain ⟨a, ns, d, rfl, rfl, hs, q⟩ := h
  obtain ⟨its, rv, hl, _⟩ := I.list hs
  obtain rfl := Vals.ref1 r
  obtain ⟨w1, rfl, t, rfl⟩ := vals1 rz
  refine PySem.W.max_list_default (xs := ns.map PyData.int) (I.ok.hd hc) hl.isList (IntsAre.reads _ rv.ints) (PySem.W.alikeAll_datum ns) (by rw [depth_ints]; omega) (fun e h' tk hk => ?_) (fun y ys i v h' tk bs e hi rd hk => ?_)
  · have : ns = [] := List.map_eq_nil_iff.mp e
    subst this
    exact ⟨.int d, H, I.kept hk, ⟨_, rfl⟩, q⟩
  · cases ns with
    | nil => cases e
    | cons n ns =>
      rw [List.map_cons] at e
      injection e with e1 e2
      subst e1
      subst e2
      rw [PySem.W.maxD_ints] at rd
      cases rd
      exact ⟨.int _, H, I.kept hk, ⟨_, rfl⟩, q⟩
/-- a count of truth values -/
def rCntB (K : PySem.W.Frag) : V → List V → Hp → VK → Prop := fun x xs H Q => ∃ (p : Addr) (bs : List Bool) (k : Bool), x = .ref p ∧ xs = [.bl k] ∧ SqL K H p (bs.map V.bl) ∧ Q (.int (bs.count k : Nat)) H
theorem bools_reads {h : Heap} : ∀ {bs : List Bool} {vs : List Value}, Vals (bs.map V.bl) vs → ReadsAll h vs (bs.map PyData.bool) []
  | [], _, .nil => .nil
  | b :: bs, _, .cons q r => by
    cases q
    exact .cons (as := []) (bs := []) (.bool b) (bools_reads r)
theorem countIn_bl (k : Bool) : ∀ bs : List Bool, countIn (.bool k) (bs.map PyData.bool) = ((bs.count k : Nat) : Int)
  | [] => rfl
  | b :: bs => by
    rw [List.map_cons, countIn, countIn_bl k bs, List.count_cons]
    cases b <;> cases k <;> simp [same] <;> omega
theorem mt_bcount {X : L2.Cx} : MtR X "list.count" (rCntB X.K) := by
  intro pins s σ H x xs v us Q I rx rxs h
  obtain ⟨p, bs, k, rfl, rfl, hs, q⟩ := h
  cases rx
  obtain ⟨u, rfl, ru⟩ := rxs.one
  cases ru
  obtain ⟨its, rv, hl, _⟩ := I.list hs
  refine count_list_bools hl.isList (bools_reads (h := s.heap) rv) (by rw [List.all_map]; exact List.all_eq_true.mpr fun b _ => rfl) ?_
  rw [countIn_bl]
  exact ⟨.int (bs.count k : Nat), H, I.tok _, ⟨s.toks, rfl⟩, q⟩
/-! shallow -/
def opMaxD (u v : T) : Sh T := fun μ => match (seeL u μ).bind intsOf, v with
  | some ns, .dat (.int d) => .ok (.int (maxDf d ns)) μ
  | _, _ => .no
def opCntB (u v : T) : Sh T := fun μ => match (seeL u μ).bind boolsOf, v with
  | some bs, .dat (.bl k) => .ok (.int ((bs.count k : Nat) : Int)) μ
  | _, _ => .no
section
variable {c : EN.Ctx} {a b : Expr} {Γ : List (Option T)} {pos p kp apos : Pos} {ma mb : Sh T}
theorem sv_maxDef (ha : EvS c a Γ ma) (hb : EvS c b Γ mb) (hg : gloB c.sc "max" = true) (hm : c.mg "max" = none) (hs : isStar a = false := by rfl) : EvS c (.Call (.Name "max" p) [a] [⟨some "default", b, kp⟩] pos) Γ (bnd ma fun u => bnd mb fun v => opMaxD u v) := .mk fun μ t μ' h => by
  obtain ⟨u, μ1, h1, z⟩ := bnd_inv h
  clear h
  obtain ⟨v, μ2, h2, y⟩ := bnd_inv z
  clear z
  unfold opMaxD at y
  split at y
  · rename_i ns d q
    cases y
    intro X g φ π σ H s0 g0 Q qq
    refine toE (pe_callBK (cr_maxDef g.calm (room1 g.room)) (show X.env.scope.names.lookup ("max" : Str) = _ by rw [g.sc]; exact (gloB_ok hg).1) (by rw [g.mg]; exact hm) (by decide +kernel) (pa_cons pe_sem pa_nil (star_cons hs _)) (pk_cons pe_sem pk_nil) (by decide) (gloB_ok hg).2 (by rw [star_cons hs]; rfl) (by rw [star_cons hs]; rfl)) ?_
    refine ha _ _ _ h1 X g φ π σ H s0 g0 _ fun v' π1 H1 n1 k1 => ?_
    refine hb _ _ _ h2 X g φ π1 σ H1 n1.ok (g0.nx n1) _ fun w π2 H2 n2 k2 => ?_
    cases k2
    obtain ⟨ds, q1, q2⟩ := Option.bind_eq_some_iff.mp q
    have k1' := k1.nx n2
    obtain ⟨a1, vs, rfl, s1, l1⟩ := seeL_ok n2.ok k1' q1
    rw [intsOf_some q2] at l1
    rw [dtInt l1] at s1
    exact ⟨a1, ns, d, rfl, rfl, s1, qq _ π2 H2 (n1.trans n2) (.int _)⟩
  · cases y
theorem sv_count {v : T} (ha : EvS c a Γ ma) (hb : EvS c b Γ (ret v)) (hbs : isSuper a = false := by rfl) (hs : isStar b = false := by rfl) (hl : (apos.endLine == pos.line) = true := by rfl) : EvS c (.Call (.Attribute a "count" apos) [b] [] pos) Γ (bnd ma fun u => opCntB u v) := .mk fun μ t μ' h => by
  obtain ⟨u, μ1, h1, y⟩ := bnd_inv h
  clear h
  unfold opCntB at y
  split at y
  · rename_i bs k q
    cases y
    intro X g φ π σ H s0 g0 Q qq
    refine toE (pe_bm PySem.F.plainAttrs_list PySem.F.slot_list_count PySem.F.type_list_count mt_bcount pe_sem (pa_cons pe_sem pa_nil (star_cons hs _)) (base_ok2 hbs _ _) (by rw [star_cons hs]; rfl) hl (star_cons hs _) rfl) ?_
    refine ha _ _ _ h1 X g φ π σ H s0 g0 _ fun v' π1 H1 n1 k1 => ?_
    obtain ⟨ds, q1, q2⟩ := Option.bind_eq_some_iff.mp q
    obtain ⟨a1, vs, rfl, s1, l1⟩ := seeL_ok n1.ok k1 q1
    refine ⟨.inl ⟨rfl, vs, s1⟩, ?_⟩
    refine hb _ _ _ rfl X g φ π1 σ H1 n1.ok (g0.nx n1) _ fun w π2 H2 n2 k2 => ?_
    cases k2
    obtain ⟨a2, vs2, e2, s2, l2⟩ := seeL_ok n2.ok (k1.nx n2) q1
    cases e2
    rw [boolsOf_some q2] at l2
    rw [dtBl l2] at s2
    exact ⟨a1, bs, k, rfl, rfl, s2, qq _ π2 H2 (n1.trans n2) (.int _)⟩
  · cases y
end
/-! a loop that may end what it stands in, within another -/
def castE {α β : Type} (o : Lo α Empty) : Sh (Lo α β) := match o with
  | .nx a => ret (.nx a)
  | .rt t => ret (.rt t)
  | .bk b => nomatch b
  | .ct b => nomatch b
theorem lst_castE {α β : Type} {c : EN.Ctx} {st : Stmt} {Γ : List (Option T)} {g : α → List (Option T)} {gl : β → List (Option T)} {m : Sh (Lo α Empty)} (h : LSt c st Γ g (fun z : Empty => nomatch z) m) : LSt c st Γ g gl (bnd m castE) := .mk fun μ o μ' q => by
  obtain ⟨o1, μ1, h1, q1⟩ := bnd_inv q
  cases o1 with
  | nx a => cases q1; exact h _ _ _ h1
  | rt t => cases q1; exact h _ _ _ h1
  | bk b => exact nomatch b
  | ct b => exact nomatch b
end EN
/-! The plain side: what the shallow forms come to. -/
namespace EN
open PySem PySem.Spec PyProof.Rows L2

theorem sizeLine_eq : sizeLine = 16777216 := by decide
/-! ### store-free steps, as equations -/
@[simp] theorem x_addI (i j : Int) : opAdd (.dat (.int i)) (.dat (.int j)) = ret (.int (i + j)) := rfl
@[simp] theorem x_subI (i j : Int) : opSub (.dat (.int i)) (.dat (.int j)) = ret (.int (i - j)) := rfl
theorem x_addS {a b : Str} (h : a.length + b.length ≤ 16777216) : opAdd (.dat (.str a)) (.dat (.str b)) = ret (.str (a ++ b)) := by
  funext μ; simp only [opAdd]; rw [if_pos (by rw [sizeLine_eq]; exact h)]; rfl
theorem x_addL {a b : List D} (h : a.length + b.length ≤ 16777216) : opAdd (.dat (.lst a)) (.dat (.lst b)) = ret (.dat (.lst (a ++ b))) := by
  funext μ; simp only [opAdd, seeL_dat]; rw [if_pos (by rw [sizeLine_eq]; exact h)]; rfl
theorem x_addT {a b : List D} (h : a.length + b.length ≤ 16777216) : opAdd (.dat (.tup a)) (.dat (.tup b)) = ret (.dat (.tup (a ++ b))) := by
  funext μ; simp only [opAdd]; rw [if_pos (by rw [sizeLine_eq]; exact h)]; rfl
theorem x_mulI {i j : Int} (h : Builtin.Int.intBits i + Builtin.Int.intBits j ≤ 134217728) : opMul (.dat (.int i)) (.dat (.int j)) = ret (.int (i * j)) := by
  funext μ; simp only [opMul]; rw [if_pos h]; rfl
theorem bits_of {i : Int} {a : Nat} (h : i.natAbs < 2 ^ a) : Builtin.Int.intBits i ≤ a := PyProof.Rows.intBits_le h
/-- products of numbers below 2 ^ 60 and below 2 ^ 60 -/
theorem x_mulS {i j : Int} (h : i.natAbs < 2 ^ 100) (h' : j.natAbs < 2 ^ 100) : opMul (.dat (.int i)) (.dat (.int j)) = ret (.int (i * j)) := by
  have a := bits_of h; have b := bits_of h'
  exact x_mulI (by omega)
theorem x_mulT {a : Str} {j : Int} (h : j ≤ 1) (h' : -1000 ≤ j) : opMul (.dat (.str a)) (.dat (.int j)) = ret (.str (if j < 1 then "" else a)) := by
  funext μ; simp only [opMul]; rw [if_pos ⟨h, h'⟩]; rfl
theorem x_divI {i j : Int} (h : 0 < j) (h' : j < 1073741824) : opDiv (.dat (.int i)) (.dat (.int j)) = ret (.int (i / j)) := by
  funext μ; simp only [opDiv]; rw [if_pos ⟨h, h'⟩]; rfl
theorem x_modI {i j : Int} (h : 0 < j) : opMod (.dat (.int i)) (.dat (.int j)) = ret (.int (i % j)) := by
  funext μ; simp only [opMod]; rw [if_pos h]; rfl
theorem x_powI {i j : Int} (h : 0 ≤ j ∧ j ≤ 1000000 ∧ i.natAbs < 2 ^ 64) : opPow (.dat (.int i)) (.dat (.int j)) = ret (.int (i ^ j.toNat)) := by
  funext μ; simp only [opPow]; rw [if_pos h]; rfl
@[simp] theorem x_ltI (i j : Int) : opLt (.dat (.int i)) (.dat (.int j)) = ret (.bl (decide (i < j))) := rfl
@[simp] theorem x_leI (i j : Int) : opLe (.dat (.int i)) (.dat (.int j)) = ret (.bl (decide (i ≤ j))) := rfl
@[simp] theorem x_gtI (i j : Int) : opGt (.dat (.int i)) (.dat (.int j)) = ret (.bl (decide (j < i))) := rfl
@[simp] theorem x_geI (i j : Int) : opGe (.dat (.int i)) (.dat (.int j)) = ret (.bl (decide (j ≤ i))) := rfl
theorem x_eqD {d e : D} {b : Bool} (h : eqD d e = some b) : opEq (.dat d) (.dat e) = ret (.bl b) := by
  funext μ; simp only [opEq, seeD_dat, h]; rfl
theorem x_neD {d e : D} {b : Bool} (h : eqD d e = some b) : opNe (.dat d) (.dat e) = ret (.bl (!b)) := by
  funext μ; simp only [opNe, seeD_dat, h]; rfl
@[simp] theorem x_eqI (i j : Int) : opEq (.dat (.int i)) (.dat (.int j)) = ret (.bl (decide (i = j))) := rfl
@[simp] theorem x_eqS (i j : Str) : opEq (.dat (.str i)) (.dat (.str j)) = ret (.bl (decide (i = j))) := rfl
@[simp] theorem x_eqB (i j : Bool) : opEq (.dat (.bl i)) (.dat (.bl j)) = ret (.bl (decide (i = j))) := rfl
@[simp] theorem x_neI (i j : Int) : opNe (.dat (.int i)) (.dat (.int j)) = ret (.bl (!decide (i = j))) := rfl
@[simp] theorem x_neS (i j : Str) : opNe (.dat (.str i)) (.dat (.str j)) = ret (.bl (!decide (i = j))) := rfl
theorem eqv_refl_of {d : D} (h : SeqAt.shaped d.p = true) (hr : PyData.eqv d.p d.p = true) : eqD d d = some true := by
  unfold eqD
  cases e : scD d d with
  | true =>
    rw [if_pos rfl]
    cases d <;> first | (cases e; done) | simp [eqS]
  | false =>
    rw [if_neg Bool.false_ne_true, if_pos (by rw [h]; rfl), hr]
@[simp] theorem x_isN (d : D) : opIsN (.dat d) = ret (.bl (isN d)) := rfl
@[simp] theorem x_notN (d : D) : opNotN (.dat d) = ret (.bl (!isN d)) := rfl
@[simp] theorem x_tst (b : Bool) : tst (ret (.bl b)) = ret b := rfl
@[simp] theorem x_notB (b : Bool) : notB (ret b) = ret (!b) := rfl
@[simp] theorem x_andB (b : Bool) (n : Sh Bool) : andB (ret b) n = if b = true then n else ret false := by cases b <;> rfl
@[simp] theorem x_orB (b : Bool) (n : Sh Bool) : orB (ret b) n = if b = true then ret true else n := by cases b <;> rfl
@[simp] theorem x_notV (b : Bool) : notV (ret (.bl b)) = ret (.bl (!b)) := rfl
@[simp] theorem x_andV (b : Bool) (n : Sh T) : andV (ret (.bl b)) n = if b = true then n else ret (.bl false) := by cases b <;> rfl
@[simp] theorem x_orV (b : Bool) (n : Sh T) : orV (ret (.bl b)) n = if b = true then ret (.bl true) else n := by cases b <;> rfl
@[simp] theorem x_negV (i : Int) : negV (ret (.int i)) = ret (.int (-i)) := rfl
@[simp] theorem x_iff {α : Type} (b : Bool) (m n : Sh α) : iff (ret b) m n = if b = true then m else n := by cases b <;> rfl
@[simp] theorem bnd_stop {α β : Type} (f : α → Sh β) : bnd stop f = stop := rfl
@[simp] theorem bnd_bnd {α β γ : Type} (m : Sh α) (f : α → Sh β) (g : β → Sh γ) : bnd (bnd m f) g = bnd m fun a => bnd (f a) g := by
  funext μ
  show (match (match m μ with | .ok a μ1 => f a μ1 | .no => .no) with | .ok a μ1 => g a μ1 | .no => .no) = match m μ with | .ok a μ1 => (match f a μ1 with | .ok a μ1 => g a μ1 | .no => .no) | .no => .no
  cases m μ <;> rfl
theorem bnd_ite {α β : Type} (c : Prop) [Decidable c] (m n : Sh α) (f : α → Sh β) : bnd (if c then m else n) f = if c then bnd m f else bnd n f := by
  split <;> rfl
theorem tst_ite (c : Prop) [Decidable c] (m n : Sh T) : tst (if c then m else n) = if c then tst m else tst n := by
  split <;> rfl
@[simp] theorem atI_0 {α : Type} (a : α) (l : List α) : atI (a :: l) 0 = some a := by simp [atI, ixN]
@[simp] theorem atI_1 {α : Type} (a b : α) (l : List α) : atI (a :: b :: l) 1 = some b := by
  unfold atI ixN; rw [if_pos (by decide), if_pos (by simp; omega)]; rfl
@[simp] theorem atI_2 {α : Type} (a b c : α) (l : List α) : atI (a :: b :: c :: l) 2 = some c := by
  unfold atI ixN; rw [if_pos (by decide), if_pos (by simp; omega)]; rfl
theorem x_ixT {ds : List D} {i : Int} {d : D} (h : atI ds i = some d) : opIx (.dat (.tup ds)) (.dat (.int i)) = ret (.dat d) := by
  funext μ; simp only [opIx, h]; rfl
theorem x_ixL {ds : List D} {i : Int} {d : D} (h : atI ds i = some d) : opIx (.dat (.lst ds)) (.dat (.int i)) = ret (.dat d) := by
  funext μ; simp only [opIx, h]; rfl
@[simp] theorem x_ixT0 (a : D) (l : List D) : opIx (.dat (.tup (a :: l))) (.dat (.int 0)) = ret (.dat a) := x_ixT (atI_0 _ _)
@[simp] theorem x_ixT1 (a b : D) (l : List D) : opIx (.dat (.tup (a :: b :: l))) (.dat (.int 1)) = ret (.dat b) := x_ixT (atI_1 _ _ _)
@[simp] theorem x_ixT2 (a b c : D) (l : List D) : opIx (.dat (.tup (a :: b :: c :: l))) (.dat (.int 2)) = ret (.dat c) := x_ixT (atI_2 _ _ _ _)
@[simp] theorem x_ixL0 (a : D) (l : List D) : opIx (.dat (.lst (a :: l))) (.dat (.int 0)) = ret (.dat a) := x_ixL (atI_0 _ _)
@[simp] theorem x_ixL1 (a b : D) (l : List D) : opIx (.dat (.lst (a :: b :: l))) (.dat (.int 1)) = ret (.dat b) := x_ixL (atI_1 _ _ _)
theorem x_ixS {z : Str} {i : Int} {k : Nat} (hl : z.length ≤ 16777216) (h : atI z.cps.toList i = some k) : opIx (.dat (.str z)) (.dat (.int i)) = ret (.str ⟨#[k]⟩) := by
  funext μ; simp only [opIx, h]; rw [if_pos (by rw [sizeLine_eq]; exact hl)]; rfl
@[simp] theorem datOfs_dats (ds : List D) (μ : List M) : datOfs (dats ds) μ = some ds := by
  induction ds with
  | nil => rfl
  | cons d ds ih => simp only [dats, List.map_cons, datOfs_dat] at ih ⊢; rw [ih]
theorem x_mkTup {ts : List T} {ds : List D} (h : ts = dats ds) (hl : ds.length ≤ 1000000) : mkTup ts = ret (.dat (.tup ds)) := by
  subst h; funext μ; simp only [mkTup, datOfs_dats]; rw [if_pos (Nat.ble_eq_true_of_le hl)]; rfl
theorem x_mkLst {ts : List T} {ds : List D} (h : ts = dats ds) (hl : ds.length ≤ 1000000) : mkLst ts = ret (.dat (.lst ds)) := by
  subst h; funext μ; simp only [mkLst, datOfs_dats]; rw [if_pos (Nat.ble_eq_true_of_le hl)]; rfl
@[simp] theorem x_tup0 : mkTup [] = ret (.dat (.tup [])) := rfl
@[simp] theorem x_tup1 (a : D) : mkTup [.dat a] = ret (.dat (.tup [a])) := rfl
@[simp] theorem x_tup2 (a b : D) : mkTup [.dat a, .dat b] = ret (.dat (.tup [a, b])) := rfl
@[simp] theorem x_tup3 (a b c : D) : mkTup [.dat a, .dat b, .dat c] = ret (.dat (.tup [a, b, c])) := rfl
@[simp] theorem x_tup4 (a b c d : D) : mkTup [.dat a, .dat b, .dat c, .dat d] = ret (.dat (.tup [a, b, c, d])) := rfl
@[simp] theorem x_lst0 : mkLst [] = ret (.dat (.lst [])) := rfl
@[simp] theorem x_lst1 (a : D) : mkLst [.dat a] = ret (.dat (.lst [a])) := rfl
@[simp] theorem x_lst2 (a b : D) : mkLst [.dat a, .dat b] = ret (.dat (.lst [a, b])) := rfl
@[simp] theorem x_lst3 (a b c : D) : mkLst [.dat a, .dat b, .dat c] = ret (.dat (.lst [a, b, c])) := rfl
@[simp] theorem x_lst4 (a b c d : D) : mkLst [.dat a, .dat b, .dat c, .dat d] = ret (.dat (.lst [a, b, c, d])) := rfl
@[simp] theorem x_lst5 (a b c d e : D) : mkLst [.dat a, .dat b, .dat c, .dat d, .dat e] = ret (.dat (.lst [a, b, c, d, e])) := rfl
@[simp] theorem x_lst6 (a b c d e f : D) : mkLst [.dat a, .dat b, .dat c, .dat d, .dat e, .dat f] = ret (.dat (.lst [a, b, c, d, e, f])) := rfl
@[simp] theorem x_bndI (i : Int) : bndI (ret (.int i)) = ret (some i) := rfl
@[simp] theorem x_slL (ds : List D) (lo hi : Option Int) : opSl (.dat (.lst ds)) lo hi = ret (.dat (.lst (cutD ds lo hi))) := rfl
@[simp] theorem x_slT (ds : List D) (lo hi : Option Int) : opSl (.dat (.tup ds)) lo hi = ret (.dat (.tup (cutD ds lo hi))) := rfl
theorem x_slS {z : Str} {lo hi : Option Int} (hl : z.length ≤ 16777216) : opSl (.dat (.str z)) lo hi = ret (.str (cutS z lo hi)) := by
  funext μ; simp only [opSl]; rw [if_pos (by rw [sizeLine_eq]; exact hl)]; rfl
@[simp] theorem x_revL (ds : List D) : opRev (.dat (.lst ds)) = ret (.dat (.lst ds.reverse)) := rfl
@[simp] theorem x_itL (ds : List D) : itT (.dat (.lst ds)) = ret (dats ds) := rfl
@[simp] theorem x_itTu (ds : List D) : itT (.dat (.tup ds)) = ret (dats ds) := rfl
@[simp] theorem x_itS (z : Str) : itT (.dat (.str z)) = ret (chD z) := rfl
@[simp] theorem x_itEnL (ds : List D) : itEn (.dat (.lst ds)) = ret (enD ds) := rfl
@[simp] theorem x_itEnT (ds : List D) : itEn (.dat (.tup ds)) = ret (enD ds) := rfl
@[simp] theorem x_itZip (ds es : List D) : itZip (.dat (.lst ds)) (.dat (.lst es)) = ret (zpD ds es) := rfl
theorem x_rg1 {n : Int} (h : -(2 ^ 62) ≤ n ∧ n < 2 ^ 62) : rg1 (.dat (.int n)) = ret (rgD 0 n.toNat) := by
  funext μ; simp only [rg1]; rw [if_pos h]; rfl
@[simp] theorem x_lenL (ds : List D) : fLen [.dat (.lst ds)] = ret (.int ds.length) := rfl
@[simp] theorem x_lenT (ds : List D) : fLen [.dat (.tup ds)] = ret (.int ds.length) := rfl
theorem x_lenS {z : Str} (hl : z.length ≤ 16777216) : fLen [.dat (.str z)] = ret (.int z.length) := by
  funext μ; simp only [fLen]; rw [if_pos (by rw [sizeLine_eq]; exact hl)]; rfl
theorem x_all {ds : List D} {bs : List Bool} (h : ds = bs.map D.bl) : fAll [.dat (.lst ds)] = ret (.bl (bs.all id)) := by
  subst h; funext μ; simp [fAll]
theorem x_any {ds : List D} {bs : List Bool} (h : ds = bs.map D.bl) : fAny [.dat (.lst ds)] = ret (.bl (bs.any id)) := by
  subst h; funext μ; simp [fAny]
@[simp] theorem x_intB (b : Bool) : fInt [.dat (.bl b)] = ret (.int (if b then 1 else 0)) := rfl
@[simp] theorem x_listL (ds : List D) : fList [.dat (.lst ds)] = ret (.dat (.lst ds)) := rfl
@[simp] theorem x_listT (ds : List D) : fList [.dat (.tup ds)] = ret (.dat (.lst ds)) := rfl
@[simp] theorem x_tupL (ds : List D) : fTup [.dat (.lst ds)] = ret (.dat (.tup ds)) := rfl
@[simp] theorem x_max2 (i j : Int) : fMax [.dat (.int i), .dat (.int j)] = ret (.int (if j > i then j else i)) := rfl
@[simp] theorem x_min2 (i j : Int) : fMin [.dat (.int i), .dat (.int j)] = ret (.int (if j < i then j else i)) := rfl
theorem x_join {sep : Str} {ds : List D} {ys : List Str} (h : ds = ys.map D.str) (hz : (ys.map (·.length)).sum + ys.length * sep.length ≤ 16777216) : opJoin (.dat (.str sep)) (.dat (.lst ds)) = ret (.str (Txt.join sep ys)) := by
  subst h; funext μ; simp only [opJoin, seeL_dat, Option.bind_some, strsOf_map]; rw [if_pos hz]; rfl
@[simp] theorem x_unp2 {α : Type} (x y : D) (k : T → T → Sh α) : unp2 (.dat (.tup [x, y])) k = k (.dat x) (.dat y) := rfl
@[simp] theorem x_unp3 {α : Type} (x y z : D) (k : T → T → T → Sh α) : unp3 (.dat (.tup [x, y, z])) k = k (.dat x) (.dat y) (.dat z) := rfl
@[simp] theorem x_unq4 (a b c d : D) : unq4 (.dat (.lst [a, b, c, d])) = ret (.dat a, .dat b, .dat c, .dat d) := rfl
@[simp] theorem x_unl2 (a b : T) : unl2 [a, b] = ret (a, b) := rfl
@[simp] theorem x_unl3 (a b c : T) : unl3 [a, b, c] = ret (a, b, c) := rfl
@[simp] theorem x_toD (d : D) : toD (ret (.dat d)) = ret (some d) := rfl
@[simp] theorem x_frzD (d : D) : frz (.dat d) = ret (.dat d) := rfl
theorem x_inT {x : D} {ds : List D} (h : flD x = true) (h' : ds.all flD = true) : opIn (.dat x) (.dat (.tup ds)) = ret (.bl (inF x ds)) := by
  funext μ; simp only [opIn, inD, h, h', Bool.and_self, if_true]; rfl
theorem x_ninT {x : D} {ds : List D} (h : flD x = true) (h' : ds.all flD = true) : opNotIn (.dat x) (.dat (.tup ds)) = ret (.bl (!inF x ds)) := by
  funext μ; simp only [opNotIn, inD, h, h', Bool.and_self, if_true]; rfl
theorem x_inL {x : D} {ds : List D} (h : flD x = true) (h' : ds.all flD = true) : opIn (.dat x) (.dat (.lst ds)) = ret (.bl (inF x ds)) := by
  funext μ; simp only [opIn, inD, seeL_dat, h, h', Bool.and_self, if_true]; rfl
theorem x_ninL {x : D} {ds : List D} (h : flD x = true) (h' : ds.all flD = true) : opNotIn (.dat x) (.dat (.lst ds)) = ret (.bl (!inF x ds)) := by
  funext μ; simp only [opNotIn, inD, seeL_dat, h, h', Bool.and_self, if_true]; rfl
@[simp] theorem x_isTy {n : String} {d : D} {m : String} {r : Bool} (h : tyD d = some m) (h' : kitB m n = some r) : opIsTy n (.dat d) = ret (.bl r) := by
  funext μ; simp only [opIsTy, tyT, h, h']; rfl
theorem x_isC {tb : Tab} {D C : Str} {fs : List (Str × EN.D)} {r : Bool} (h : tb.isb C D = some r) : opIsC tb D (.dat (.ins C fs)) = ret (.bl r) := by
  funext μ; simp only [opIsC, clsT, h]; rfl
theorem x_fld {tb : Tab} {C f : Str} {fs : List (Str × D)} {d : D} (h : tb.fld C f = true) (h' : fs.lookup f = some d) : opFld tb f (.dat (.ins C fs)) = ret (.dat d) := by
  funext μ; simp only [opFld, h, h', if_true]; rfl
theorem x_M {tb : Tab} {C m : Str} {fs : List (Str × D)} {i : Nat} (h : tb.mid C m = some i) (h' : fs.lookup m = none) : opM tb m (.dat (.ins C fs)) = ret i := by
  funext μ; simp only [opM, h, h']; rfl
theorem repL_ok {ts : List T} {ds : List D} {k : Int} (h : ts = dats ds) (h1 : -(2 ^ 63) ≤ k) (h2 : k < 2 ^ 63) (h3 : ds.length * k.toNat ≤ 16777216) (h4 : ds.length ≤ 1000000) : repL ts (ret (.int k)) = ret (.dat (.lst (List.replicate k.toNat ds).flatten)) := by
  subst h
  funext μ
  simp only [repL, undat_dats, ret_ap]
  rw [if_pos ⟨trivial, h1, h2, by rw [sizeLine_eq]; exact h3, h4⟩]

/-! ### what is told of a run -/
def Post {α : Type} (m : Sh α) (μ : List M) (Q : α → List M → Prop) : Prop := ∃ a μ', m μ = .ok a μ' ∧ Q a μ'
section
variable {α β : Type} {m : Sh α} {f : α → Sh β} {μ μ' : List M} {a : α}
theorem Post.of {Q : α → List M → Prop} (h : m μ = .ok a μ') (q : Q a μ') : Post m μ Q := ⟨a, μ', h, q⟩
@[simp] theorem post_ret {Q : α → List M → Prop} : Post (ret a) μ Q ↔ Q a μ := ⟨fun ⟨_, _, h, q⟩ => by cases h; exact q, fun q => ⟨_, _, rfl, q⟩⟩
@[simp] theorem post_bnd {Q : β → List M → Prop} : Post (bnd m f) μ Q ↔ Post m μ fun a μ1 => Post (f a) μ1 Q := by
  constructor
  · rintro ⟨b, μ2, h, q⟩
    obtain ⟨a, μ1, h1, h2⟩ := bnd_inv h
    exact ⟨a, μ1, h1, b, μ2, h2, q⟩
  · rintro ⟨a, μ1, h1, b, μ2, h2, q⟩
    exact ⟨b, μ2, by simp only [bnd_ap, h1, h2], q⟩
theorem Post.mono {Q Q' : α → List M → Prop} (h : Post m μ Q) (hq : ∀ a μ', Q a μ' → Q' a μ') : Post m μ Q' := by
  obtain ⟨a, μ1, h1, q⟩ := h
  exact ⟨a, μ1, h1, hq _ _ q⟩
theorem post_eq {Q : α → List M → Prop} (h : m μ = .ok a μ') : Post m μ Q ↔ Q a μ' := ⟨fun ⟨_, _, e, q⟩ => by rw [h] at e; cases e; exact q, fun q => ⟨_, _, h, q⟩⟩
theorem Post.ok {a : α} {μ' : List M} (h : Post m μ fun b μ2 => b = a ∧ μ2 = μ') : m μ = .ok a μ' := by
  obtain ⟨b, μ2, e, rfl, rfl⟩ := h
  exact e
end
/-! calls -/
theorem call_dat {us : List T} {f : Sh T} {d : D} {μ : List M} (hu : allDat us = true) (h : Post f [] fun t _ => t = .dat d) : atCall us f μ = .ok (.dat d) μ := by
  obtain ⟨t, μ', e, rfl⟩ := h
  unfold atCall
  rw [if_pos hu, e]
theorem call_datP {us : List T} {f : Sh T} {p : D → Prop} {μ : List M} {Q : T → List M → Prop} (hu : allDat us = true) (h : Post f [] fun t _ => ∃ d, t = .dat d ∧ p d) (q : ∀ d, p d → Q (.dat d) μ) : Post (atCall us f) μ Q := by
  obtain ⟨t, μ', e, d, rfl, hp⟩ := h
  exact ⟨.dat d, μ, call_dat hu ⟨_, _, e, rfl⟩, q d hp⟩
/-- with things of one's own: what is left behind the last is dropped -/
theorem call_own {us : List T} {f : Sh T} {μ : List M} {Q : T → List M → Prop} (hu : allDat us = false) (h : Post f μ fun t μ' => ∃ d μ1 μ2, t = .dat d ∧ μ' = μ1 ++ μ2 ∧ μ1.length = μ.length ∧ (Inb μ → Inb μ1) ∧ Q (.dat d) μ1) : Post (atCall us f) μ Q := by
  obtain ⟨t, μ', e, d, μ1, μ2, rfl, rfl, hl, hi, q⟩ := h
  refine ⟨.dat d, μ1, ?_, q⟩
  unfold atCall
  rw [if_neg (by rw [hu]; exact Bool.false_ne_true), e]
  simp only
  have ht : (μ1 ++ μ2).take μ.length = μ1 := by rw [← hl]; simp
  split
  · rename_i hlen
    have : μ2 = [] := by
      rw [List.length_append] at hlen
      exact List.length_eq_zero_iff.mp (by omega)
    rw [this, List.append_nil]
  · rw [ht, if_pos hi]
/-! loops -/
theorem post_forN {α : Type} {F : T → α → Sh α} (I : Nat → α → List M → Prop) {its : List T} {a : α} {μ : List M} {Q : α → List M → Prop} (h0 : I 0 a μ) (h : ∀ j t a μ, its[j]? = some t → I j a μ → Post (F t a) μ (I (j + 1))) (hq : ∀ a μ, I its.length a μ → Q a μ) : Post (forN F its a) μ Q := by
  have key : ∀ (l : List T) (k : Nat) (a : α) (μ : List M), (∀ j, l[j]? = its[k + j]?) → k + l.length = its.length → I k a μ → Post (forN F l a) μ Q := by
    intro l
    induction l with
    | nil =>
      intro k a μ _ hl hi
      simp only [forN, post_ret]
      simp at hl
      exact hq _ _ (hl ▸ hi)
    | cons t l ih =>
      intro k a μ hg hl hi
      simp only [forN, post_bnd]
      refine (h k t a μ (by have := hg 0; simpa using this.symm) hi).mono fun b μ1 hb => ?_
      refine ih (k + 1) b μ1 (fun j => ?_) (by simp at hl; omega) hb
      have := hg (j + 1)
      simp only [List.getElem?_cons_succ] at this
      rw [this]
      congr 1
      omega
  exact key its 0 a μ (fun j => by simp) (by simp) h0
theorem post_forL {α : Type} {F : T → α → Sh (Lo α α)} (I : Nat → α → List M → Prop) {its : List T} {a : α} {μ : List M} {Q : Lo α Empty → List M → Prop} (h0 : I 0 a μ)
    (h : ∀ j t a μ, its[j]? = some t → I j a μ → Post (F t a) μ fun o μ' => match o with
      | .nx b => I (j + 1) b μ'
      | .ct b => I (j + 1) b μ'
      | .bk b => Q (.nx b) μ'
      | .rt u => Q (.rt u) μ') (hq : ∀ a μ, I its.length a μ → Q (.nx a) μ) : Post (forL F its a) μ Q := by
  have key : ∀ (l : List T) (k : Nat) (a : α) (μ : List M), (∀ j, l[j]? = its[k + j]?) → k + l.length = its.length → I k a μ → Post (forL F l a) μ Q := by
    intro l
    induction l with
    | nil =>
      intro k a μ _ hl hi
      simp only [forL, post_ret]
      simp at hl
      exact hq _ _ (hl ▸ hi)
    | cons t l ih =>
      intro k a μ hg hl hi
      simp only [forL, post_bnd]
      refine (h k t a μ (by have := hg 0; simpa using this.symm) hi).mono fun o μ1 hb => ?_
      have nxt : ∀ b, I (k + 1) b μ1 → Post (forL F l b) μ1 Q := fun b hb => by
        refine ih (k + 1) b μ1 (fun j => ?_) (by simp at hl; omega) hb
        have := hg (j + 1)
        simp only [List.getElem?_cons_succ] at this
        rw [this]
        congr 1
        omega
      cases o with
      | nx b => exact nxt b hb
      | ct b => exact nxt b hb
      | bk b => simp only [post_ret]; exact hb
      | rt u => simp only [post_ret]; exact hb
  exact key its 0 a μ (fun j => by simp) (by simp) h0
/-- a comprehension: what is found so far -/
theorem post_cmp {F : T → Sh (Option D)} (I : Nat → List D → List M → Prop) {its : List T} {μ : List M} {Q : List D → List M → Prop} (h0 : I 0 [] μ)
    (h : ∀ j t ds μ, its[j]? = some t → I j ds μ → Post (F t) μ fun o μ' => I (j + 1) (ds ++ o.toList) μ') (hq : ∀ ds μ, I its.length ds μ → Q ds μ) : Post (cmpS F its) μ Q := by
  have key : ∀ (l : List T) (k : Nat) (ds : List D) (μ : List M), (∀ j, l[j]? = its[k + j]?) → k + l.length = its.length → I k ds μ → Post (cmpS F l) μ fun es μ' => Q (ds ++ es) μ' := by
    intro l
    induction l with
    | nil =>
      intro k ds μ _ hl hi
      simp only [cmpS, post_ret, List.append_nil]
      simp at hl
      exact hq _ _ (hl ▸ hi)
    | cons t l ih =>
      intro k ds μ hg hl hi
      simp only [cmpS, post_bnd, post_ret]
      refine (h k t ds μ (by have := hg 0; simpa using this.symm) hi).mono fun o μ1 hb => ?_
      refine (ih (k + 1) (ds ++ o.toList) μ1 (fun j => ?_) (by simp at hl; omega) hb).mono fun es μ2 hq => ?_
      · have := hg (j + 1)
        simp only [List.getElem?_cons_succ] at this
        rw [this]
        congr 1
        omega
      · cases o with
        | none => simpa using hq
        | some d => simpa using hq
  have := key its 0 [] μ (fun j => by simp) (by simp) h0
  simpa using this
/-- a comprehension of one thing for each -/
theorem cmp_dats {F : T → Sh (Option D)} {ds : List D} {g : D → D} (h : ∀ d ∈ ds, ∀ μ, F (.dat d) μ = .ok (some (g d)) μ) (μ : List M) : cmpS F (dats ds) μ = .ok (ds.map g) μ := by
  induction ds generalizing μ with
  | nil => rfl
  | cons d ds ih =>
    have h1 := h d (by simp) μ
    have h2 := ih (fun e he => h e (by simp [he])) μ
    show cmpS F (.dat d :: dats ds) μ = _
    simp only [cmpS, bnd_ap, h1, h2, ret_ap, List.map_cons]
theorem comp_dats {F : T → Sh (Option D)} {ds : List D} {g : D → D} (h : ∀ d ∈ ds, ∀ μ, F (.dat d) μ = .ok (some (g d)) μ) (hl : ds.length ≤ 1000000) (μ : List M) : compS (ret (dats ds)) F μ = .ok (.dat (.lst (ds.map g))) μ := by
  simp only [compS, bnd_ret]
  rw [if_pos (Nat.ble_eq_true_of_le (by simpa [dats] using hl))]
  simp only [bnd_ap, cmp_dats h, ret_ap]
/-- a comprehension over what stands for the things of a list -/
theorem cmp_mapS {α : Type} {F : T → Sh (Option D)} {xs : List α} {h g : α → D} (hF : ∀ x ∈ xs, ∀ μ, F (.dat (h x)) μ = .ok (some (g x)) μ) (μ : List M) : cmpS F (dats (xs.map h)) μ = .ok (xs.map g) μ := by
  induction xs generalizing μ with
  | nil => rfl
  | cons d ds ih =>
    have h1 := hF d (by simp) μ
    have h2 := ih (fun e he => hF e (by simp [he])) μ
    show cmpS F (.dat (h d) :: dats (ds.map h)) μ = _
    simp only [cmpS, bnd_ap, h1, h2, ret_ap, List.map_cons]
theorem comp_mapS {α : Type} {F : T → Sh (Option D)} {xs : List α} {h g : α → D} (hF : ∀ x ∈ xs, ∀ μ, F (.dat (h x)) μ = .ok (some (g x)) μ) (hl : xs.length ≤ 1000000) (μ : List M) : compS (ret (dats (xs.map h))) F μ = .ok (.dat (.lst (xs.map g))) μ := by
  simp only [compS, bnd_ret]
  rw [if_pos (Nat.ble_eq_true_of_le (by simpa [dats] using hl))]
  simp only [bnd_ap, cmp_mapS hF, ret_ap]
theorem post_comp {F : T → Sh (Option D)} {its : List T} {μ : List M} {Q : T → List M → Prop} (hl : its.length ≤ 1000000) (h : Post (cmpS F its) μ fun ds μ' => Q (.dat (.lst ds)) μ') : Post (compS (ret its) F) μ Q := by
  simp only [compS, bnd_ret]
  rw [if_pos (Nat.ble_eq_true_of_le hl)]
  simp only [post_bnd, post_ret]
  exact h
/-! instances -/
theorem getEnd {μ : List M} {x : M} : (μ ++ [x])[μ.length]? = some x := by simp
theorem setEnd {μ : List M} {x y : M} : (μ ++ [x]).set μ.length y = μ ++ [y] := by simp
theorem setFld_end {tb : Tab} {f C : Str} {v : T} {gs : List (Str × T)} {μ : List M} (h : tb.fld C f = true) (hl : gs.length < 1000) : setFld tb f (.own μ.length) v (μ ++ [.ins C gs]) = .ok () (μ ++ [.ins C (putT f v gs)]) := by
  simp only [setFld, getEnd, h, hl, decide_true, Bool.and_self, if_true, setEnd]
theorem atCall_own {us : List T} {f : Sh T} {d : D} {μ μ' : List M} (hu : allDat us = false) (h : f μ = .ok (.dat d) μ') (hl : μ'.length ≤ μ.length) : atCall us f μ = .ok (.dat d) μ' := by
  unfold atCall
  rw [if_neg (by rw [hu]; exact Bool.false_ne_true), h]
  simp only
  rw [if_pos hl]
theorem undatF_datF : ∀ fs : List (Str × D), undatF (datF fs) = some fs
  | [] => rfl
  | (k, d) :: fs => by
    show (undatF (datF fs)).map ((k, d) :: ·) = _
    rw [undatF_datF fs]; rfl
theorem mkD_ok {call : Orc} {i : Nat} {C : Str} {us : List T} {fs : List (Str × D)} {μ : List M} (h : call i (.own μ.length :: us) (μ ++ [.ins C []]) = .ok (.dat .non) (μ ++ [.ins C (datF fs)])) : mkD call i C us μ = .ok (.dat (.ins C fs)) μ := by
  unfold mkD
  rw [h]
  simp only [List.drop_left, List.take_left, undatF_datF, and_self, if_true]
theorem mkD_at {call : Orc} {i : Nat} {C : Str} {us : List T} {fs : List (Str × D)} {f : T → Sh T} (h : ∀ a, call i (a :: us) = atCall (a :: us) (f a)) (hf : ∀ μ, f (.own μ.length) (μ ++ [.ins C []]) = .ok (.dat .non) (μ ++ [.ins C (datF fs)])) : mkD call i C us = ret (.dat (.ins C fs)) := by
  funext μ
  refine mkD_ok ?_
  rw [h]
  exact atCall_own rfl (hf μ) (by simp)
/-! == of nested data -/
def okT : Nat → D → Prop
  | _, .non => True
  | _, .bl _ => True
  | _, .int _ => True
  | _, .str x => PyData.strOk x = true
  | n + 1, .lst xs => ∀ x ∈ xs, okT n x
  | n + 1, .tup xs => ∀ x ∈ xs, okT n x
  | _, _ => False
theorem canLay_all {xs : List D} (h : ∀ x ∈ xs, x.p.canLay0 = true) : PyData.canLayAll0 (D.pL xs) = true := by
  induction xs with
  | nil => rfl
  | cons x xs ih =>
    simp only [D.pL, PyData.canLayAll0, Bool.and_eq_true]
    exact ⟨h x (by simp), ih fun y hy => h y (by simp [hy])⟩
theorem depth_all {n : Nat} {xs : List D} (h : ∀ x ∈ xs, x.p.depth ≤ n) : PyData.depthAll (D.pL xs) ≤ n := by
  induction xs with
  | nil => exact Nat.zero_le _
  | cons x xs ih =>
    simp only [D.pL, PyData.depthAll]
    exact Nat.max_le.mpr ⟨h x (by simp), ih fun y hy => h y (by simp [hy])⟩
theorem okT_sh : ∀ (n : Nat) (d : D), okT n d → d.p.canLay0 = true ∧ d.p.depth ≤ n := by
  intro n
  induction n with
  | zero =>
    intro d h
    cases d <;> first | exact ⟨rfl, Nat.zero_le _⟩ | exact ⟨h, Nat.zero_le _⟩ | cases h
  | succ n ih =>
    intro d h
    cases d <;> first | exact ⟨rfl, Nat.zero_le _⟩ | exact ⟨h, Nat.zero_le _⟩ | (exact ⟨canLay_all fun x hx => (ih x (h x hx)).1, Nat.succ_le_succ (depth_all fun x hx => (ih x (h x hx)).2)⟩) | cases h
theorem okT_shaped {n : Nat} {d : D} (h : okT n d) (hn : n ≤ 64) : SeqAt.shaped d.p = true := by
  have := okT_sh n d h
  unfold SeqAt.shaped
  rw [this.1, decide_eq_true (Nat.le_trans this.2 hn)]; rfl
theorem eqv_all {xs : List D} (h : ∀ x ∈ xs, PyData.eqv x.p x.p = true) : PyData.eqvAll (D.pL xs) (D.pL xs) = true := by
  induction xs with
  | nil => rfl
  | cons x xs ih =>
    simp only [D.pL, PyData.eqvAll, Bool.and_eq_true]
    exact ⟨h x (by simp), ih fun y hy => h y (by simp [hy])⟩
theorem okT_refl : ∀ (n : Nat) (d : D), okT n d → PyData.eqv d.p d.p = true := by
  intro n
  induction n with
  | zero =>
    intro d h
    cases d <;> first | rfl | exact beq_self_eq_true _ | cases h
  | succ n ih =>
    intro d h
    cases d <;> first | rfl | exact beq_self_eq_true _ | exact eqv_all fun x hx => ih x (h x hx) | cases h
theorem eqD_ok {n m : Nat} {d e : D} (h : okT n d) (h' : okT m e) (hn : n ≤ 64) (hm : m ≤ 64) : eqD d e = some (PyData.eqv d.p e.p) := by
  unfold eqD
  cases q : scD d e with
  | true =>
    rw [if_pos rfl]
    cases d <;> cases e <;> first | (cases q; done) | rfl
  | false =>
    rw [if_neg Bool.false_ne_true, okT_shaped h hn, okT_shaped h' hm]; rfl
theorem eqD_refl {n : Nat} {d : D} (h : okT n d) (hn : n ≤ 64) : eqD d d = some true := by
  rw [eqD_ok h h hn hn, okT_refl n d h]
theorem okT_up : ∀ {n : Nat} {d : D}, okT n d → okT (n + 1) d := by
  intro n
  induction n with
  | zero => intro d h; cases d <;> first | trivial | exact h | cases h
  | succ n ih => intro d h; cases d <;> first | trivial | exact h | (exact fun x hx => ih (h x hx)) | cases h
theorem okT_2 {n : Nat} {a b : D} (h : okT n a) (h' : okT n b) : okT (n + 1) (.tup [a, b]) := fun x hx => by
  rcases List.mem_cons.mp hx with rfl | hx
  · exact h
  · rcases List.mem_cons.mp hx with rfl | hx
    · exact h'
    · exact nomatch hx
theorem okT_3 {n : Nat} {a b c : D} (h : okT n a) (h' : okT n b) (h'' : okT n c) : okT (n + 1) (.tup [a, b, c]) := fun x hx => by
  rcases List.mem_cons.mp hx with rfl | hx
  · exact h
  · rcases List.mem_cons.mp hx with rfl | hx
    · exact h'
    · rcases List.mem_cons.mp hx with rfl | hx
      · exact h''
      · exact nomatch hx
theorem post_iff {α : Type} {m : Sh T} {b : Bool} {x y : Sh α} {μ μ' : List M} {Q : α → List M → Prop} (h : m μ = .ok (.bl b) μ') : Post (iff (tst m) x y) μ Q ↔ Post (if b = true then x else y) μ' Q := by
  have e : tst m μ = .ok b μ' := by simp only [tst, bnd_ap, h]; rfl
  have : iff (tst m) x y μ = (if b = true then x else y) μ' := by
    simp only [iff, bnd_ap, e]; cases b <;> rfl
  unfold Post
  rw [this]
end EN
/-! More of the plain side: tests pushed behind what they wait for, dicts, comprehensions over range. -/
namespace EN
open PySem PySem.Spec PyProof.Rows L2
section
variable {α β : Type}
theorem p_tst (m : Sh β) (f : β → Sh T) : tst (bnd m f) = bnd m fun a => tst (f a) := by unfold tst; rw [bnd_bnd]
theorem p_notB (m : Sh β) (f : β → Sh Bool) : notB (bnd m f) = bnd m fun a => notB (f a) := by unfold notB; rw [bnd_bnd]
theorem p_andB (m : Sh β) (f : β → Sh Bool) (n : Sh Bool) : andB (bnd m f) n = bnd m fun a => andB (f a) n := by unfold andB; rw [bnd_bnd]
theorem p_orB (m : Sh β) (f : β → Sh Bool) (n : Sh Bool) : orB (bnd m f) n = bnd m fun a => orB (f a) n := by unfold orB; rw [bnd_bnd]
theorem p_notV (m : Sh β) (f : β → Sh T) : notV (bnd m f) = bnd m fun a => notV (f a) := by unfold notV; rw [bnd_bnd]
theorem p_andV (m : Sh β) (f : β → Sh T) (n : Sh T) : andV (bnd m f) n = bnd m fun a => andV (f a) n := by unfold andV; rw [bnd_bnd]
theorem p_orV (m : Sh β) (f : β → Sh T) (n : Sh T) : orV (bnd m f) n = bnd m fun a => orV (f a) n := by unfold orV; rw [bnd_bnd]
theorem p_negV (m : Sh β) (f : β → Sh T) : negV (bnd m f) = bnd m fun a => negV (f a) := by unfold negV; rw [bnd_bnd]
theorem p_iff (m : Sh β) (f : β → Sh Bool) (a b : Sh α) : iff (bnd m f) a b = bnd m fun x => iff (f x) a b := by unfold iff; rw [bnd_bnd]
theorem p_bndI (m : Sh β) (f : β → Sh T) : bndI (bnd m f) = bnd m fun a => bndI (f a) := by unfold bndI; rw [bnd_bnd]
theorem p_toD (m : Sh β) (f : β → Sh T) : toD (bnd m f) = bnd m fun a => toD (f a) := by unfold toD; rw [bnd_bnd]
theorem p_unit (m : Sh β) (f : β → Sh α) : unitR (bnd m f) = bnd m fun a => unitR (f a) := by unfold unitR; rw [bnd_bnd]
theorem p_ch1 (m : Sh β) (k : β → Sh T) (mb mc : Sh T) (f g : T → T → Sh T) : chB (bnd m k) mb f mc g = bnd m fun a => chB (k a) mb f mc g := by unfold chB; rw [bnd_bnd]
theorem p_ch2 (u : T) (m : Sh β) (k : β → Sh T) (mc : Sh T) (f g : T → T → Sh T) : chB (ret u) (bnd m k) f mc g = bnd m fun a => chB (ret u) (k a) f mc g := by unfold chB; simp only [bnd_ret, bnd_bnd]
theorem x_chLe (i j : Int) (mc : Sh T) (g : T → T → Sh T) : chB (ret (.dat (.int i))) (ret (.dat (.int j))) opLe mc g = if i ≤ j then bnd mc fun w => g (.dat (.int j)) w else ret (.bl false) := by
  unfold chB
  simp only [bnd_ret, x_leI]
  by_cases h : i ≤ j
  · rw [if_pos h, decide_eq_true h]
  · rw [if_neg h, decide_eq_false h]
theorem x_chLt (i j : Int) (mc : Sh T) (g : T → T → Sh T) : chB (ret (.dat (.int i))) (ret (.dat (.int j))) opLt mc g = if i < j then bnd mc fun w => g (.dat (.int j)) w else ret (.bl false) := by
  unfold chB
  simp only [bnd_ret, x_ltI]
  by_cases h : i < j
  · rw [if_pos h, decide_eq_true h]
  · rw [if_neg h, decide_eq_false h]
theorem p_comp (m : Sh β) (f : β → Sh (List T)) (F : T → Sh (Option D)) : compS (bnd m f) F = bnd m fun a => compS (f a) F := by unfold compS; rw [bnd_bnd]
theorem p_repLN (m : Sh β) (f : β → Sh (List T)) (b : Sh T) (h : ∀ μ a μ1, m μ = .ok a μ1 → μ1 = μ) : repLN (bnd m f) b = bnd m fun a => repLN (f a) b := by
  funext μ
  simp only [repLN, bnd_ap]
  cases e : m μ with
  | no => rfl
  | ok a μ1 => rw [h μ a μ1 e]
/-- a test of what is known over each store -/
theorem post_if {c : Prop} [Decidable c] {m n : Sh α} {μ : List M} {Q : α → List M → Prop} : Post (if c then m else n) μ Q ↔ if c then Post m μ Q else Post n μ Q := by
  split <;> rfl
end
/-- as bnd_ret, but no rewriting by definition: the kernel was lost in it -/
theorem b_ret {α β : Type} (a : α) (f : α → Sh β) : bnd (ret a) f = f a := Eq.trans rfl rfl
theorem post_r {α : Type} {m : Sh α} {a : α} {μ : List M} {Q : α → List M → Prop} (e : m = ret a) : Post m μ Q ↔ Q a μ := by rw [e, post_ret]
theorem call_ret {us : List T} {f : Sh T} {d : D} (hu : allDat us = true) (h : Post f [] fun t _ => t = .dat d) : atCall us f = ret (.dat d) := by
  funext μ
  exact call_dat hu h
theorem call_ex {us : List T} {f : Sh T} {p : D → Prop} (hu : allDat us = true) (h : Post f [] fun t _ => ∃ d, t = .dat d ∧ p d) : ∃ d, p d ∧ atCall us f = ret (.dat d) := by
  obtain ⟨t, μ', e, d, rfl, hp⟩ := h
  exact ⟨d, hp, call_ret hu ⟨_, _, e, rfl⟩⟩
theorem comp_rg {F : T → Sh (Option D)} {n : Nat} {g : Nat → D} (hF : ∀ i, i < n → F (.int (i : Nat)) = ret (some (g i))) (hn : n ≤ 1000000) : compS (ret (rgD 0 n)) F = ret (.dat (.lst ((List.range n).map g))) := by
  funext μ
  have e : rgD 0 n = dats ((List.range n).map fun (i : Nat) => D.int (0 + (i : Int))) := by unfold rgD dats; rw [List.map_map]; rfl
  rw [e]
  refine comp_mapS (g := g) (fun i hi μ => ?_) (by simpa using hn) μ
  rw [Int.zero_add, hF i (List.mem_range.mp hi)]; rfl
theorem comp_ret {α : Type} {F : T → Sh (Option D)} {xs : List α} {h g : α → D} (hF : ∀ x ∈ xs, F (.dat (h x)) = ret (some (g x))) (hl : xs.length ≤ 1000000) : compS (ret (dats (xs.map h))) F = ret (.dat (.lst (xs.map g))) := by
  funext μ
  exact comp_mapS (fun x hx μ => by rw [hF x hx]; rfl) hl μ
theorem comp_filt {α : Type} {F : T → Sh (Option D)} {xs : List α} {h g : α → D} {c : α → Bool} (hF : ∀ x ∈ xs, F (.dat (h x)) = ret (if c x = true then some (g x) else none)) (hl : xs.length ≤ 1000000) : compS (ret (dats (xs.map h))) F = ret (.dat (.lst ((xs.filter c).map g))) := by
  funext μ
  have key : cmpS F (dats (xs.map h)) μ = .ok ((xs.filter c).map g) μ := by
    clear hl
    induction xs with
    | nil => rfl
    | cons d ds ih =>
      have h1 := congrFun (hF d (by simp)) μ
      have h2 := ih (fun e he => hF e (by simp [he]))
      show cmpS F (.dat (h d) :: dats (ds.map h)) μ = _
      simp only [cmpS, bnd_ap, h1, h2, ret_ap]
      cases hc : c d with
      | true => simp [hc]
      | false => simp [hc]
  simp only [compS, bnd_ret]
  rw [if_pos (Nat.ble_eq_true_of_le (by simpa [dats] using hl))]
  simp only [bnd_ap, key, ret_ap]
theorem comp_filtL {α : Type} {F : T → Sh (Option D)} {xs : List α} {h g : α → D} {c : α → Bool} {μ : List M} (hF : ∀ x ∈ xs, F (.dat (h x)) μ = .ok (if c x = true then some (g x) else none) μ) (hl : xs.length ≤ 1000000) : compS (ret (dats (xs.map h))) F μ = .ok (.dat (.lst ((xs.filter c).map g))) μ := by
  have key : cmpS F (dats (xs.map h)) μ = .ok ((xs.filter c).map g) μ := by
    clear hl
    induction xs with
    | nil => rfl
    | cons d ds ih =>
      have h1 := hF d (by simp)
      have h2 := ih (fun e he => hF e (by simp [he]))
      show cmpS F (.dat (h d) :: dats (ds.map h)) μ = _
      simp only [cmpS, bnd_ap, h1, h2, ret_ap]
      cases hc : c d with
      | true => simp [hc]
      | false => simp [hc]
  simp only [compS, bnd_ret]
  rw [if_pos (Nat.ble_eq_true_of_le (by simpa [dats] using hl))]
  simp only [bnd_ap, key, ret_ap]
theorem post_whN {α : Type} {C : α → Sh Bool} {F : α → Sh α} (I : Nat → α → List M → Prop) {Q : α → List M → Prop} (h : ∀ n a μ, I n a μ → Post (C a) μ fun b μ1 => if b = true then Post (F a) μ1 fun a' μ2 => ∃ n', n' < n ∧ I n' a' μ2 else Q a μ1) : ∀ (k n : Nat) (a : α) (μ : List M), n < k → I n a μ → Post (whN C F k a) μ Q
  | 0, n, a, μ, hn, _ => absurd hn (Nat.not_lt_zero _)
  | k + 1, n, a, μ, hn, hi => by
    obtain ⟨b, μ1, e1, q⟩ := h n a μ hi
    cases b with
    | true =>
      rw [if_pos rfl] at q
      obtain ⟨a', μ2, e2, n', hn', hi'⟩ := q
      obtain ⟨r, μ3, e3, q3⟩ := post_whN I h k n' a' μ2 (by omega) hi'
      exact ⟨r, μ3, by simp only [whN, bnd_ap, e1, e2, e3], q3⟩
    | false =>
      rw [if_neg Bool.false_ne_true] at q
      exact ⟨a, μ1, by simp only [whN, bnd_ap, e1, ret_ap], q⟩
theorem iff_at {α : Type} {m : Sh T} {b : Bool} {x y : Sh α} {μ μ' : List M} (h : m μ = .ok (.bl b) μ') : iff (tst m) x y μ = if b = true then x μ' else y μ' := by
  have e : tst m μ = .ok b μ' := by simp only [tst, bnd_ap, h]; rfl
  simp only [iff, bnd_ap, e]
  cases b <;> rfl
theorem post_ifAnd {α : Type} {m n : Sh T} {b c : Bool} {x y : Sh α} {μ : List M} {Q : α → List M → Prop} (h1 : m μ = .ok (.bl b) μ) (h2 : b = true → n μ = .ok (.bl c) μ) : Post (iff (andB (tst m) (tst n)) x y) μ Q ↔ Post (if (b && c) = true then x else y) μ Q := by
  have e : tst m μ = .ok b μ := by simp only [tst, bnd_ap, h1]; rfl
  have : iff (andB (tst m) (tst n)) x y μ = (if (b && c) = true then x else y) μ := by
    cases b with
    | true =>
      have e2 : tst n μ = .ok c μ := by simp only [tst, bnd_ap, h2 rfl]; rfl
      simp only [iff, andB, bnd_ap, e, e2, Bool.true_and]
      cases c <;> rfl
    | false =>
      simp only [iff, andB, bnd_ap, e, Bool.false_and]; rfl
  unfold Post
  rw [this]
theorem post_ifOr {α : Type} {m n : Sh T} {b c : Bool} {x y : Sh α} {μ : List M} {Q : α → List M → Prop} (h1 : m μ = .ok (.bl b) μ) (h2 : b = false → n μ = .ok (.bl c) μ) : Post (iff (orB (tst m) (tst n)) x y) μ Q ↔ Post (if (b || c) = true then x else y) μ Q := by
  have e : tst m μ = .ok b μ := by simp only [tst, bnd_ap, h1]; rfl
  have : iff (orB (tst m) (tst n)) x y μ = (if (b || c) = true then x else y) μ := by
    cases b with
    | false =>
      have e2 : tst n μ = .ok c μ := by simp only [tst, bnd_ap, h2 rfl]; rfl
      simp only [iff, orB, bnd_ap, e, e2, Bool.false_or]
      cases c <;> rfl
    | true =>
      simp only [iff, orB, bnd_ap, e, Bool.true_or]; rfl
  unfold Post
  rw [this]
theorem post_ownC {us : List T} {f : Sh T} {μ : List M} {Q : T → List M → Prop} (hu : allDat us = false) (h : Post f μ fun t μ' => ∃ d, t = .dat d ∧ μ'.length ≤ μ.length ∧ Q (.dat d) μ') : Post (atCall us f) μ Q := by
  obtain ⟨t, μ', e, d, rfl, hl, q⟩ := h
  exact ⟨_, _, atCall_own hu e hl, q⟩
theorem x_toDr (t : D) : toD (ret (.dat t)) = ret (some t) := rfl
theorem ix_lst {ds : List D} {v : Int} (h0 : 0 ≤ v) (h1 : v < ds.length) : ∃ d, d ∈ ds ∧ opIx (.dat (.lst ds)) (.int v) = ret (.dat d) := by
  obtain ⟨j, rfl⟩ : ∃ j : Nat, v = j := ⟨v.toNat, by omega⟩
  have hj : j < ds.length := by omega
  refine ⟨ds[j], List.getElem_mem hj, x_ixL ?_⟩
  unfold atI ixN
  rw [if_pos (by omega), if_pos (by omega)]
  simp [hj]
theorem ix_map {α : Type} {xs : List α} {f : α → D} {v : Int} (h0 : 0 ≤ v) (h1 : v < xs.length) : ∃ x, x ∈ xs ∧ opIx (.dat (.lst (xs.map f))) (.int v) = ret (.dat (f x)) := by
  obtain ⟨d, hd, e⟩ := ix_lst (ds := xs.map f) h0 (by rw [List.length_map]; exact h1)
  obtain ⟨x, hx, rfl⟩ := List.mem_map.mp hd
  exact ⟨x, hx, e⟩
theorem ix_tup {ds : List D} {v : Int} (h0 : 0 ≤ v) (h1 : v < ds.length) : ∃ d, d ∈ ds ∧ opIx (.dat (.tup ds)) (.int v) = ret (.dat d) := by
  obtain ⟨j, rfl⟩ : ∃ j : Nat, v = j := ⟨v.toNat, by omega⟩
  have hj : j < ds.length := by omega
  refine ⟨ds[j], List.getElem_mem hj, x_ixT ?_⟩
  unfold atI ixN
  rw [if_pos (by omega), if_pos (by omega)]
  simp [hj]
theorem ix_chr {z : Str} {v : Int} (hz : z.length ≤ 16777216) (h0 : 0 ≤ v) (h1 : v < z.length) : ∃ c, c ∈ cpL z ∧ opIx (.str z) (.int v) = ret (.str ⟨#[c]⟩) := by
  obtain ⟨j, rfl⟩ : ∃ j : Nat, v = j := ⟨v.toNat, by omega⟩
  rw [cpL_len] at h1
  have hj : j < (cpL z).length := by omega
  refine ⟨(cpL z)[j], List.getElem_mem hj, x_ixS hz ?_⟩
  unfold atI ixN
  rw [if_pos (by omega), if_pos (by simp at hj ⊢; omega)]
  have e : z.cps[j]? = some (z.cps[j]'(by simpa using hj)) := Array.getElem?_eq_getElem _
  simp [e]
theorem inF_nil (x : D) : inF x [] = false := rfl
theorem inF_cons (x y : D) (ys : List D) : inF x (y :: ys) = (eqF y x || inF x ys) := rfl
theorem eqF_str (a b : Str) : eqF (.str a) (.str b) = decide (a = b) := by
  show (a == b) = _
  by_cases h : a = b
  · simp [h]
  · rw [decide_eq_false h]; exact beq_eq_false_iff_ne.mpr h
theorem len1 (k : Nat) : (⟨#[k]⟩ : Str).length = 1 := rfl
theorem len0 : ("" : Str).length = 0 := rfl
theorem cut_sub {z : Str} {lo hi : Option Int} {c : Nat} (h : c ∈ cpL (cutS z lo hi)) : c ∈ cpL z := by
  have : c ∈ (z.cps.toList.drop (HT.sIx z.length 0 lo)).take (HT.sIx z.length z.length hi - HT.sIx z.length 0 lo) := by simpa [cutS, cpL] using h
  exact List.mem_of_mem_drop (List.mem_of_mem_take this)
theorem cutS_two {z : Str} {p : Int} (hp : 0 ≤ p) : (cutS z none (some p)).length + (cutS z (some p) none).length ≤ z.length := by
  obtain ⟨q, rfl⟩ : ∃ q : Nat, p = q := ⟨p.toNat, by omega⟩
  rw [cpL_len, cpL_len]
  simp only [cutS, cpL, HT.sIx_none, HT.sIx_nat, List.length_take, List.length_drop]
  rw [cpL_len]
  simp only [cpL]
  omega
theorem cutS_le {z : Str} {lo hi : Option Int} : (cutS z lo hi).length ≤ z.length := by
  rw [cpL_len, cpL_len]
  simp only [cutS, cpL, List.length_take, List.length_drop]
  omega
/-- a text of single signs joined -/
theorem join_chr {ys : List Nat} (hl : ys.length ≤ 1000000) {sep : Str} (hs : cpL sep = []) : ∃ z : Str, z.length = ys.length ∧ (∀ c, c ∈ cpL z ↔ c ∈ ys) ∧ opJoin (.dat (.str sep)) (.dat (.lst (ys.map fun c => D.str ⟨#[c]⟩))) = ret (.str z) := by
  refine ⟨Txt.join sep (ys.map fun c => (⟨#[c]⟩ : Str)), ?_, ?_, ?_⟩
  · rw [slen_join1 hs (fun z hz => by obtain ⟨c, _, rfl⟩ := List.mem_map.mp hz; rfl), List.length_map]
  · intro c
    rw [cpL_join0 hs, List.map_map]
    have e : (cpL ∘ fun c : Nat => (⟨#[c]⟩ : Str)) = fun c => [c] := rfl
    rw [e]
    simp only [List.mem_flatten, List.mem_map]
    constructor
    · rintro ⟨_, ⟨a, ha, rfl⟩, hc⟩
      rw [List.mem_singleton.mp hc]; exact ha
    · exact fun h => ⟨[c], ⟨c, h, rfl⟩, by simp⟩
  · have e0 : sep.length = 0 := by rw [cpL_len, hs]; rfl
    refine x_join (by rw [List.map_map]; rfl) ?_
    rw [sum_len1 (fun z hz => by obtain ⟨c, _, rfl⟩ := List.mem_map.mp hz; rfl), e0, List.length_map]
    omega
theorem add_at {a : Nat} {ds es : List D} {μ : List M} (h : μ[a]? = some (.lst (dats ds))) (hl : ds.length + es.length ≤ 16777216) : opAdd (.own a) (.dat (.lst es)) μ = .ok (.dat (.lst (ds ++ es))) μ := by
  have e : seeL (.own a) μ = some ds := by rw [seeL_own h, undat_dats]
  simp only [opAdd, e, seeL_dat]
  rw [if_pos (by rw [sizeLine_eq]; exact hl)]
theorem addO_at {a : Nat} {ds es : List D} {μ : List M} (h : μ[a]? = some (.lst (dats ds))) (hl : ds.length + es.length ≤ 16777216) : opAddO (.own a) (.dat (.lst es)) μ = .ok (.own μ.length) (μ ++ [.lst (dats (ds ++ es))]) := by
  have e : seeL (.own a) μ = some ds := by rw [seeL_own h, undat_dats]
  simp only [opAddO, e, seeL_dat]
  rw [if_pos (by rw [sizeLine_eq]; exact hl)]
theorem ixO_at {i : Nat} {ts : List T} {k : Int} {t : T} {μ : List M} (h : μ[i]? = some (.lst ts)) (ha : atI ts k = some t) : opIx (.own i) (.int k) μ = .ok t μ := by
  simp only [opIx, h, ha]
theorem setO_at {i n : Nat} {ts : List T} {j : Int} {v : T} {μ : List M} (h : μ[i]? = some (.lst ts)) (hn : ixN ts.length j = some n) : setIx (.own i) (.int j) v μ = .ok () (μ.set i (.lst (ts.set n v))) := by
  simp only [setIx, h, hn]
theorem ixN_nat {n j : Nat} (h : j < n) : ixN n (j : Int) = some j := by
  unfold ixN
  rw [if_pos (by omega), if_pos (by omega)]
  simp
theorem frz_at {i : Nat} {ds : List D} {μ : List M} (h : μ[i]? = some (.lst (dats ds))) : frz (.own i) μ = .ok (.dat (.lst ds)) (μ.set i (.frz (.lst ds))) := by
  simp only [frz, h, undat_dats]
theorem isL_at {a : Nat} {ts : List T} {μ : List M} (h : μ[a]? = some (.lst ts)) : isL (.own a) μ = .ok () μ := by
  simp only [isL, h]
theorem cutD_map {α : Type} (xs : List α) (f : α → D) (lo hi : Option Int) : ∃ ys : List α, cutD (xs.map f) lo hi = ys.map f ∧ ys.length ≤ xs.length ∧ ∀ y ∈ ys, y ∈ xs :=
  ⟨(xs.drop (HT.sIx xs.length 0 lo)).take (HT.sIx xs.length xs.length hi - HT.sIx xs.length 0 lo), by unfold cutD; rw [List.length_map, List.map_take, List.map_drop], by rw [List.length_take, List.length_drop]; omega, fun z hz => List.mem_of_mem_drop (List.mem_of_mem_take hz)⟩
theorem app_at {a : Nat} {ts : List T} {y : T} {μ : List M} (h : μ[a]? = some (.lst ts)) (hl : ts.length < 16777216) : opApp (.own a) y μ = .ok .non (μ.set a (.lst (ts ++ [y]))) := by
  simp only [opApp, h]
  rw [if_pos (by rw [sizeLine_eq]; exact hl)]
theorem len_at {a : Nat} {ts : List T} {μ : List M} (h : μ[a]? = some (.lst ts)) : fLen [.own a] μ = .ok (.int ts.length) μ := by
  have e : seeS (.own a) μ = undat ts := by simp only [seeS, h]
  simp only [fLen, e, h]
  cases q : undat ts with
  | none => rfl
  | some ds => rw [undat_some q]; simp [dats]
theorem lenD_at {a : Nat} {ts : List (Key × T)} {μ : List M} (h : μ[a]? = some (.dic ts)) : fLen [.own a] μ = .ok (.int ts.length) μ := by
  have e : seeS (.own a) μ = none := by simp only [seeS, h]
  simp only [fLen, e, h]
theorem lenF_at {a : Nat} {ds : List (Key × D)} {μ : List M} (h : μ[a]? = some (.frz (.dic ds))) : fLen [.own a] μ = .ok (.int ds.length) μ := by
  have e : seeS (.own a) μ = none := by simp only [seeS, h]
  simp only [fLen, e, h]
/-- what is laid behind is dropped -/
theorem post_dropA {us : List T} {f : Sh T} {x : M} {μ : List M} {Q : T → List M → Prop} (hu : allDat us = false) (h : Post f (x :: μ) fun t μ' => ∃ d x' μ2, t = .dat d ∧ μ' = x' :: μ ++ μ2 ∧ (∀ t, (∃ ts, x' = .lst ts ∧ t ∈ ts) → ∃ d, t = .dat d) ∧ (∃ ts, x' = .lst ts) ∧ Q (.dat d) (x' :: μ)) : Post (atCall us f) (x :: μ) Q := by
  refine call_own hu (h.mono ?_)
  rintro t μ' ⟨d, x', μ2, rfl, rfl, hx, ⟨ts, rfl⟩, q⟩
  refine ⟨d, .lst ts :: μ, μ2, rfl, rfl, by simp, fun hI m hm => ?_, q⟩
  rcases List.mem_cons.mp hm with rfl | hm
  · intro t ht
    obtain ⟨d, rfl⟩ := hx t ⟨ts, rfl, ht⟩
    trivial
  · exact hI m (List.mem_cons_of_mem _ hm)
/-! dicts -/
theorem dg_frz {i : Nat} {rd : List (Key × D)} {x : Str} {d : D} {μ : List M} (h : μ[i]? = some (.frz (.dic rd))) (hv : valT rd (.inr x) = some d) : opDG (.own i) (.str x) μ = .ok (.dat d) μ := by
  simp only [opDG, keyOf, h, hv]
theorem dg_own {i : Nat} {rd : List (Key × T)} {x : Str} {t : T} {μ : List M} (h : μ[i]? = some (.dic rd)) (hv : valT rd (.inr x) = some t) : opDG (.own i) (.str x) μ = .ok t μ := by
  simp only [opDG, keyOf, h, hv]
theorem dg_dat {rd : List (Key × D)} {x : Str} {d : D} (hv : valT rd (.inr x) = some d) : opDG (.dat (.dic rd)) (.str x) = ret (.dat d) := by
  funext μ
  simp only [opDG, keyOf, hv, ret_ap]
theorem setD_ok {i : Nat} {rd : List (Key × T)} {x : Str} {v : T} {μ : List M} (h : μ[i]? = some (.dic rd)) (hl : rd.length < 1000000) : setDx (.own i) (.str x) v μ = .ok () (μ.set i (.dic (putD rd (.inr x) v))) := by
  simp only [setDx, keyOf, h, hl, if_true]
theorem valT_put {α : Type} {kvs : List (Key × α)} {k j : Key} {v : α} : valT (putD kvs k v) j = if k = j then some v else valT kvs j := by
  unfold putD
  split
  · rename_i h
    obtain ⟨p, hp, hk⟩ := List.any_eq_true.mp h
    have hk := of_decide_eq_true hk
    clear h
    induction kvs with
    | nil => exact nomatch hp
    | cons a r ih =>
      by_cases ha : a.1 = k
      · by_cases hj : k = j
        · subst hj
          simp [valT, ha]
        · rw [if_neg hj]
          have h1 : a.1 ≠ j := fun z => hj (ha.symm.trans z)
          simp only [List.map_cons, if_pos ha]
          have e : ∀ (x y : Key × α) (l l' : List (Key × α)), x.1 ≠ j → y.1 ≠ j → valT l j = valT l' j → valT (x :: l) j = valT (y :: l') j := fun x y l l' hx hy hh => by
            unfold valT at hh ⊢
            rw [List.find?_cons, decide_eq_false hx, List.find?_cons, decide_eq_false hy]
            exact hh
          refine e _ _ _ _ h1 h1 ?_
          have : ∀ l : List (Key × α), valT (l.map fun kv => if kv.1 = k then (kv.1, v) else kv) j = valT l j := by
            intro l
            induction l with
            | nil => rfl
            | cons b l ihl =>
              simp only [List.map_cons]
              by_cases hb : b.1 = j
              · have hbk : b.1 ≠ k := fun z => hj (z.symm.trans hb)
                rw [if_neg hbk]
                simp [valT, hb]
              · refine e _ _ _ _ ?_ hb ihl
                split <;> exact hb
          exact this r
      · have hp' : p ∈ r := by
          rcases List.mem_cons.mp hp with rfl | hp
          · exact absurd hk ha
          · exact hp
        have := ih hp'
        simp only [List.map_cons, if_neg ha]
        by_cases hj : a.1 = j
        · have hkj : k ≠ j := fun z => ha (hj.trans z.symm)
          rw [if_neg hkj]
          simp [valT, hj]
        · unfold valT at this ⊢
          rw [List.find?_cons, decide_eq_false hj, List.find?_cons, decide_eq_false hj]
          exact this
  · rename_i h
    have hno : ∀ p ∈ kvs, p.1 ≠ k := fun p hp z => h (List.any_eq_true.mpr ⟨p, hp, decide_eq_true z⟩)
    clear h
    induction kvs with
    | nil =>
      by_cases hj : k = j
      · subst hj; simp [valT]
      · simp [valT, hj]
    | cons a r ih =>
      have := ih fun p hp => hno p (List.mem_cons_of_mem _ hp)
      have ha := hno a (by simp)
      by_cases hj : a.1 = j
      · have hkj : k ≠ j := fun z => ha (hj.trans z.symm)
        rw [if_neg hkj]
        simp [valT, hj]
      · unfold valT at this ⊢
        simp only [List.cons_append]
        rw [List.find?_cons, decide_eq_false hj, List.find?_cons, decide_eq_false hj]
        exact this
theorem putD_len {α : Type} {kvs : List (Key × α)} {k : Key} {v : α} : (putD kvs k v).length ≤ kvs.length + 1 := by
  unfold putD
  split <;> simp
theorem putD_new {α : Type} {kvs : List (Key × α)} {k : Key} {v : α} (h : valT kvs k = none) : putD kvs k v = kvs ++ [(k, v)] := by
  unfold putD
  rw [any_valT, h]
  rfl
/-- a frozen dict's keys -/
theorem lockD_ok {i : Nat} {ds : List (Key × D)} {μ : List M} (h : μ[i]? = some (.dic (datK ds))) : lockD (.own i) μ = .ok (dats (ds.map fun kv => keyD kv.1)) (μ.set i (.frz (.dic ds))) := by
  simp only [lockD, h, undatK_datK]
theorem putD_dat {ds : List (Key × D)} {k : Key} {d : D} : putD (datK ds) k (.dat d) = datK (putD ds k d) := by
  have ha : ((datK ds).any fun kv => decide (kv.1 = k)) = ds.any fun kv => decide (kv.1 = k) := by
    simp only [datK, List.any_map]; rfl
  unfold putD
  rw [ha]
  split
  · simp only [datK, List.map_map]
    congr 1
    funext kv
    show (if kv.1 = k then _ else _) = _
    by_cases h : kv.1 = k
    · simp [h]
    · simp [h]
  · simp [datK]
theorem valT_dat {ds : List (Key × D)} {k : Key} : valT (datK ds) k = (valT ds k).map T.dat := by
  induction ds with
  | nil => rfl
  | cons a r ih =>
    by_cases h : a.1 = k
    · simp [valT, datK, h]
    · unfold valT at ih ⊢
      simp only [datK, List.map_cons] at ih ⊢
      rw [List.find?_cons, decide_eq_false h, List.find?_cons, decide_eq_false h]
      exact ih
@[simp] theorem x_listKL (ds : List D) : fListK [.dat (.lst ds)] = ret (.dat (.lst ds)) := rfl
@[simp] theorem x_listKT (ds : List D) : fListK [.dat (.tup ds)] = ret (.dat (.lst ds)) := rfl
@[simp] theorem x_listKD (kvs : List (Key × D)) : fListK [.dat (.dic kvs)] = ret (.dat (.lst (kvs.map fun kv => keyD kv.1))) := rfl
@[simp] theorem x_rvL (ds : List D) : opRv (.dat (.lst ds)) = ret (.dat (.lst ds.reverse)) := rfl
@[simp] theorem x_rvT (ds : List D) : opRv (.dat (.tup ds)) = ret (.dat (.tup ds.reverse)) := rfl
@[simp] theorem x_zpL (ds es : List D) : itZp (.dat (.lst ds)) (.dat (.lst es)) = ret (zpD ds es) := rfl
@[simp] theorem x_zpT (ds es : List D) : itZp (.dat (.lst ds)) (.dat (.tup es)) = ret (zpD ds es) := rfl
end EN
namespace LK02
open PySem PySem.Spec PyProof.Rows L2 EN
def topS (i : Nat) : Stmt := PySem.Challenge.pw_readsmith_k02_parts_told.main.body.getD i (.Pass ⟨0, 0, 0, 0⟩)
abbrev s_Part_inner : Stmt := inClass (topS 3) 0
def N_Part_inner : List Str := ["self"]
abbrev d_Part_inner : He.DefD := ⟨("Part", some "inner"), "inner", "Part.inner", defArgs s_Part_inner, defBody s_Part_inner, defScope s_Part_inner, [], []⟩
theorem sc_Part_inner : FnScope N_Part_inner ["self"] (defScope s_Part_inner) := ⟨rfl, rfl, rfl, by decide +kernel, rfl, by decide +kernel, by decide +kernel⟩
theorem bn_Part_inner {G : Gc} : DefBinds G d_Part_inner ["self"] [] := binds0 rfl fun _ _ _ _ _ _ us hl => match us, hl with | [_], _ => rfl
abbrev s_Part_walk : Stmt := inClass (topS 3) 1
def N_Part_walk : List Str := ["self", "found", "part"]
abbrev d_Part_walk : He.DefD := ⟨("Part", some "walk"), "walk", "Part.walk", defArgs s_Part_walk, defBody s_Part_walk, defScope s_Part_walk, [], []⟩
theorem sc_Part_walk : FnScope N_Part_walk ["self"] (defScope s_Part_walk) := ⟨rfl, rfl, rfl, by decide +kernel, rfl, by decide +kernel, by decide +kernel⟩
theorem bn_Part_walk {G : Gc} : DefBinds G d_Part_walk ["self"] [] := binds0 rfl fun _ _ _ _ _ _ us hl => match us, hl with | [_], _ => rfl
abbrev s_Part_deep : Stmt := inClass (topS 3) 2
def N_Part_deep : List Str := ["self", "part"]
abbrev d_Part_deep : He.DefD := ⟨("Part", some "deep"), "deep", "Part.deep", defArgs s_Part_deep, defBody s_Part_deep, defScope s_Part_deep, [], []⟩
theorem sc_Part_deep : FnScope N_Part_deep ["self"] (defScope s_Part_deep) := ⟨rfl, rfl, rfl, by decide +kernel, rfl, by decide +kernel, by decide +kernel⟩
theorem bn_Part_deep {G : Gc} : DefBinds G d_Part_deep ["self"] [] := binds0 rfl fun _ _ _ _ _ _ us hl => match us, hl with | [_], _ => rfl
abbrev s_Part_text : Stmt := inClass (topS 3) 3
def N_Part_text : List Str := ["self"]
abbrev d_Part_text : He.DefD := ⟨("Part", some "text"), "text", "Part.text", defArgs s_Part_text, defBody s_Part_text, defScope s_Part_text, [], []⟩
theorem sc_Part_text : FnScope N_Part_text ["self"] (defScope s_Part_text) := ⟨rfl, rfl, rfl, by decide +kernel, rfl, by decide +kernel, by decide +kernel⟩
theorem bn_Part_text {G : Gc} : DefBinds G d_Part_text ["self"] [] := binds0 rfl fun _ _ _ _ _ _ us hl => match us, hl with | [_], _ => rfl
abbrev s_Part_element : Stmt := inClass (topS 3) 4
def N_Part_element : List Str := ["self"]
abbrev d_Part_element : He.DefD := ⟨("Part", some "element"), "element", "Part.element", defArgs s_Part_element, defBody s_Part_element, defScope s_Part_element, [], []⟩
theorem sc_Part_element : FnScope N_Part_element ["self"] (defScope s_Part_element) := ⟨rfl, rfl, rfl, by decide +kernel, rfl, by decide +kernel, by decide +kernel⟩
theorem bn_Part_element {G : Gc} : DefBinds G d_Part_element ["self"] [] := binds0 rfl fun _ _ _ _ _ _ us hl => match us, hl with | [_], _ => rfl
abbrev s_Part_way : Stmt := inClass (topS 3) 5
def N_Part_way : List Str := ["self"]
abbrev d_Part_way : He.DefD := ⟨("Part", some "way"), "way", "Part.way", defArgs s_Part_way, defBody s_Part_way, defScope s_Part_way, [], []⟩
theorem sc_Part_way : FnScope N_Part_way ["self"] (defScope s_Part_way) := ⟨rfl, rfl, rfl, by decide +kernel, rfl, by decide +kernel, by decide +kernel⟩
theorem bn_Part_way {G : Gc} : DefBinds G d_Part_way ["self"] [] := binds0 rfl fun _ _ _ _ _ _ us hl => match us, hl with | [_], _ => rfl
abbrev s_Sign_init : Stmt := inClass (topS 4) 0
def N_Sign_init : List Str := ["self", "sign"]
abbrev d_Sign_init : He.DefD := ⟨("Sign", some "__init__"), "__init__", "Sign.__init__", defArgs s_Sign_init, defBody s_Sign_init, defScope s_Sign_init, [], []⟩
theorem sc_Sign_init : FnScope N_Sign_init ["self", "sign"] (defScope s_Sign_init) := ⟨rfl, rfl, rfl, by decide +kernel, rfl, by decide +kernel, by decide +kernel⟩
theorem bn_Sign_init {G : Gc} : DefBinds G d_Sign_init ["self", "sign"] [] := binds0 rfl fun _ _ _ _ _ _ us hl => match us, hl with | [_, _], _ => rfl
abbrev s_Sign_text : Stmt := inClass (topS 4) 1
def N_Sign_text : List Str := ["self"]
abbrev d_Sign_text : He.DefD := ⟨("Sign", some "text"), "text", "Sign.text", defArgs s_Sign_text, defBody s_Sign_text, defScope s_Sign_text, [], []⟩
theorem sc_Sign_text : FnScope N_Sign_text ["self"] (defScope s_Sign_text) := ⟨rfl, rfl, rfl, by decide +kernel, rfl, by decide +kernel, by decide +kernel⟩
theorem bn_Sign_text {G : Gc} : DefBinds G d_Sign_text ["self"] [] := binds0 rfl fun _ _ _ _ _ _ us hl => match us, hl with | [_], _ => rfl
abbrev s_Sign_inner : Stmt := inClass (topS 3) 0
def N_Sign_inner : List Str := ["self"]
abbrev d_Sign_inner : He.DefD := ⟨("Sign", some "inner"), "inner", "Part.inner", defArgs s_Sign_inner, defBody s_Sign_inner, defScope s_Sign_inner, [], []⟩
theorem sc_Sign_inner : FnScope N_Sign_inner ["self"] (defScope s_Sign_inner) := ⟨rfl, rfl, rfl, by decide +kernel, rfl, by decide +kernel, by decide +kernel⟩
theorem bn_Sign_inner {G : Gc} : DefBinds G d_Sign_inner ["self"] [] := binds0 rfl fun _ _ _ _ _ _ us hl => match us, hl with | [_], _ => rfl
abbrev s_Sign_walk : Stmt := inClass (topS 3) 1
def N_Sign_walk : List Str := ["self", "found", "part"]
abbrev d_Sign_walk : He.DefD := ⟨("Sign", some "walk"), "walk", "Part.walk", defArgs s_Sign_walk, defBody s_Sign_walk, defScope s_Sign_walk, [], []⟩
theorem sc_Sign_walk : FnScope N_Sign_walk ["self"] (defScope s_Sign_walk) := ⟨rfl, rfl, rfl, by decide +kernel, rfl, by decide +kernel, by decide +kernel⟩
theorem bn_Sign_walk {G : Gc} : DefBinds G d_Sign_walk ["self"] [] := binds0 rfl fun _ _ _ _ _ _ us hl => match us, hl with | [_], _ => rfl
abbrev s_Sign_deep : Stmt := inClass (topS 3) 2
def N_Sign_deep : List Str := ["self", "part"]
abbrev d_Sign_deep : He.DefD := ⟨("Sign", some "deep"), "deep", "Part.deep", defArgs s_Sign_deep, defBody s_Sign_deep, defScope s_Sign_deep, [], []⟩
theorem sc_Sign_deep : FnScope N_Sign_deep ["self"] (defScope s_Sign_deep) := ⟨rfl, rfl, rfl, by decide +kernel, rfl, by decide +kernel, by decide +kernel⟩
theorem bn_Sign_deep {G : Gc} : DefBinds G d_Sign_deep ["self"] [] := binds0 rfl fun _ _ _ _ _ _ us hl => match us, hl with | [_], _ => rfl
abbrev s_Sign_element : Stmt := inClass (topS 3) 4
def N_Sign_element : List Str := ["self"]
abbrev d_Sign_element : He.DefD := ⟨("Sign", some "element"), "element", "Part.element", defArgs s_Sign_element, defBody s_Sign_element, defScope s_Sign_element, [], []⟩
theorem sc_Sign_element : FnScope N_Sign_element ["self"] (defScope s_Sign_element) := ⟨rfl, rfl, rfl, by decide +kernel, rfl, by decide +kernel, by decide +kernel⟩
theorem bn_Sign_element {G : Gc} : DefBinds G d_Sign_element ["self"] [] := binds0 rfl fun _ _ _ _ _ _ us hl => match us, hl with | [_], _ => rfl
abbrev s_Sign_way : Stmt := inClass (topS 3) 5
def N_Sign_way : List Str := ["self"]
abbrev d_Sign_way : He.DefD := ⟨("Sign", some "way"), "way", "Part.way", defArgs s_Sign_way, defBody s_Sign_way, defScope s_Sign_way, [], []⟩
theorem sc_Sign_way : FnScope N_Sign_way ["self"] (defScope s_Sign_way) := ⟨rfl, rfl, rfl, by decide +kernel, rfl, by decide +kernel, by decide +kernel⟩
theorem bn_Sign_way {G : Gc} : DefBinds G d_Sign_way ["self"] [] := binds0 rfl fun _ _ _ _ _ _ us hl => match us, hl with | [_], _ => rfl
abbrev s_Name_init : Stmt := inClass (topS 5) 0
def N_Name_init : List Str := ["self", "name"]
abbrev d_Name_init : He.DefD := ⟨("Name", some "__init__"), "__init__", "Name.__init__", defArgs s_Name_init, defBody s_Name_init, defScope s_Name_init, [], []⟩
theorem sc_Name_init : FnScope N_Name_init ["self", "name"] (defScope s_Name_init) := ⟨rfl, rfl, rfl, by decide +kernel, rfl, by decide +kernel, by decide +kernel⟩
theorem bn_Name_init {G : Gc} : DefBinds G d_Name_init ["self", "name"] [] := binds0 rfl fun _ _ _ _ _ _ us hl => match us, hl with | [_, _], _ => rfl
abbrev s_Name_text : Stmt := inClass (topS 5) 1
def N_Name_text : List Str := ["self"]
abbrev d_Name_text : He.DefD := ⟨("Name", some "text"), "text", "Name.text", defArgs s_Name_text, defBody s_Name_text, defScope s_Name_text, [], []⟩
theorem sc_Name_text : FnScope N_Name_text ["self"] (defScope s_Name_text) := ⟨rfl, rfl, rfl, by decide +kernel, rfl, by decide +kernel, by decide +kernel⟩
theorem bn_Name_text {G : Gc} : DefBinds G d_Name_text ["self"] [] := binds0 rfl fun _ _ _ _ _ _ us hl => match us, hl with | [_], _ => rfl
abbrev s_Name_inner : Stmt := inClass (topS 3) 0
def N_Name_inner : List Str := ["self"]
abbrev d_Name_inner : He.DefD := ⟨("Name", some "inner"), "inner", "Part.inner", defArgs s_Name_inner, defBody s_Name_inner, defScope s_Name_inner, [], []⟩
theorem sc_Name_inner : FnScope N_Name_inner ["self"] (defScope s_Name_inner) := ⟨rfl, rfl, rfl, by decide +kernel, rfl, by decide +kernel, by decide +kernel⟩
theorem bn_Name_inner {G : Gc} : DefBinds G d_Name_inner ["self"] [] := binds0 rfl fun _ _ _ _ _ _ us hl => match us, hl with | [_], _ => rfl
abbrev s_Name_walk : Stmt := inClass (topS 3) 1
def N_Name_walk : List Str := ["self", "found", "part"]
abbrev d_Name_walk : He.DefD := ⟨("Name", some "walk"), "walk", "Part.walk", defArgs s_Name_walk, defBody s_Name_walk, defScope s_Name_walk, [], []⟩
theorem sc_Name_walk : FnScope N_Name_walk ["self"] (defScope s_Name_walk) := ⟨rfl, rfl, rfl, by decide +kernel, rfl, by decide +kernel, by decide +kernel⟩
theorem bn_Name_walk {G : Gc} : DefBinds G d_Name_walk ["self"] [] := binds0 rfl fun _ _ _ _ _ _ us hl => match us, hl with | [_], _ => rfl
abbrev s_Name_deep : Stmt := inClass (topS 3) 2
def N_Name_deep : List Str := ["self", "part"]
abbrev d_Name_deep : He.DefD := ⟨("Name", some "deep"), "deep", "Part.deep", defArgs s_Name_deep, defBody s_Name_deep, defScope s_Name_deep, [], []⟩
theorem sc_Name_deep : FnScope N_Name_deep ["self"] (defScope s_Name_deep) := ⟨rfl, rfl, rfl, by decide +kernel, rfl, by decide +kernel, by decide +kernel⟩
theorem bn_Name_deep {G : Gc} : DefBinds G d_Name_deep ["self"] [] := binds0 rfl fun _ _ _ _ _ _ us hl => match us, hl with | [_], _ => rfl
abbrev s_Name_element : Stmt := inClass (topS 3) 4
def N_Name_element : List Str := ["self"]
abbrev d_Name_element : He.DefD := ⟨("Name", some "element"), "element", "Part.element", defArgs s_Name_element, defBody s_Name_element, defScope s_Name_element, [], []⟩
theorem sc_Name_element : FnScope N_Name_element ["self"] (defScope s_Name_element) := ⟨rfl, rfl, rfl, by decide +kernel, rfl, by decide +kernel, by decide +kernel⟩
theorem bn_Name_element {G : Gc} : DefBinds G d_Name_element ["self"] [] := binds0 rfl fun _ _ _ _ _ _ us hl => match us, hl with | [_], _ => rfl
abbrev s_Name_way : Stmt := inClass (topS 3) 5
def N_Name_way : List Str := ["self"]
abbrev d_Name_way : He.DefD := ⟨("Name", some "way"), "way", "Part.way", defArgs s_Name_way, defBody s_Name_way, defScope s_Name_way, [], []⟩
theorem sc_Name_way : FnScope N_Name_way ["self"] (defScope s_Name_way) := ⟨rfl, rfl, rfl, by decide +kernel, rfl, by decide +kernel, by decide +kernel⟩
theorem bn_Name_way {G : Gc} : DefBinds G d_Name_way ["self"] [] := binds0 rfl fun _ _ _ _ _ _ us hl => match us, hl with | [_], _ => rfl
abbrev s_Row_init : Stmt := inClass (topS 6) 0
def N_Row_init : List Str := ["self", "parts"]
abbrev d_Row_init : He.DefD := ⟨("Row", some "__init__"), "__init__", "Row.__init__", defArgs s_Row_init, defBody s_Row_init, defScope s_Row_init, [.non], []⟩
theorem sc_Row_init : FnScope N_Row_init ["self", "parts"] (defScope s_Row_init) := ⟨rfl, rfl, rfl, by decide +kernel, rfl, by decide +kernel, by decide +kernel⟩
theorem bn_Row_init_0 {G : Gc} : DefBinds G d_Row_init ["self", "parts"] [.non] := bindsD 1 0 (by decide) rfl (fun H => .cons (.non) (.nil)) fun _ _ _ _ _ _ _ us its hl hi => match us, its, hl, hi with | [_], [_], _, _ => ⟨_, rfl, rfl⟩
theorem bn_Row_init_1 {G : Gc} : DefBinds G d_Row_init ["self", "parts"] [] := bindsD 2 1 (by decide) rfl (fun H => .nil) fun _ _ _ _ _ _ _ us its hl hi => match us, its, hl, hi with | [_, _], [_], _, _ => ⟨_, rfl, rfl⟩
abbrev s_Row_inner : Stmt := inClass (topS 6) 1
def N_Row_inner : List Str := ["self"]
abbrev d_Row_inner : He.DefD := ⟨("Row", some "inner"), "inner", "Row.inner", defArgs s_Row_inner, defBody s_Row_inner, defScope s_Row_inner, [], []⟩
theorem sc_Row_inner : FnScope N_Row_inner ["self"] (defScope s_Row_inner) := ⟨rfl, rfl, rfl, by decide +kernel, rfl, by decide +kernel, by decide +kernel⟩
theorem bn_Row_inner {G : Gc} : DefBinds G d_Row_inner ["self"] [] := binds0 rfl fun _ _ _ _ _ _ us hl => match us, hl with | [_], _ => rfl
abbrev s_Row_text : Stmt := inClass (topS 6) 2
def N_Row_text : List Str := ["self", "found", "part"]
abbrev d_Row_text : He.DefD := ⟨("Row", some "text"), "text", "Row.text", defArgs s_Row_text, defBody s_Row_text, defScope s_Row_text, [], []⟩
theorem sc_Row_text : FnScope N_Row_text ["self"] (defScope s_Row_text) := ⟨rfl, rfl, rfl, by decide +kernel, rfl, by decide +kernel, by decide +kernel⟩
theorem bn_Row_text {G : Gc} : DefBinds G d_Row_text ["self"] [] := binds0 rfl fun _ _ _ _ _ _ us hl => match us, hl with | [_], _ => rfl
abbrev s_Row_element : Stmt := inClass (topS 6) 3
def N_Row_element : List Str := ["self"]
abbrev d_Row_element : He.DefD := ⟨("Row", some "element"), "element", "Row.element", defArgs s_Row_element, defBody s_Row_element, defScope s_Row_element, [], []⟩
theorem sc_Row_element : FnScope N_Row_element ["self"] (defScope s_Row_element) := ⟨rfl, rfl, rfl, by decide +kernel, rfl, by decide +kernel, by decide +kernel⟩
theorem bn_Row_element {G : Gc} : DefBinds G d_Row_element ["self"] [] := binds0 rfl fun _ _ _ _ _ _ us hl => match us, hl with | [_], _ => rfl
abbrev s_Row_walk : Stmt := inClass (topS 3) 1
def N_Row_walk : List Str := ["self", "found", "part"]
abbrev d_Row_walk : He.DefD := ⟨("Row", some "walk"), "walk", "Part.walk", defArgs s_Row_walk, defBody s_Row_walk, defScope s_Row_walk, [], []⟩
theorem sc_Row_walk : FnScope N_Row_walk ["self"] (defScope s_Row_walk) := ⟨rfl, rfl, rfl, by decide +kernel, rfl, by decide +kernel, by decide +kernel⟩
theorem bn_Row_walk {G : Gc} : DefBinds G d_Row_walk ["self"] [] := binds0 rfl fun _ _ _ _ _ _ us hl => match us, hl with | [_], _ => rfl
abbrev s_Row_deep : Stmt := inClass (topS 3) 2
def N_Row_deep : List Str := ["self", "part"]
abbrev d_Row_deep : He.DefD := ⟨("Row", some "deep"), "deep", "Part.deep", defArgs s_Row_deep, defBody s_Row_deep, defScope s_Row_deep, [], []⟩
theorem sc_Row_deep : FnScope N_Row_deep ["self"] (defScope s_Row_deep) := ⟨rfl, rfl, rfl, by decide +kernel, rfl, by decide +kernel, by decide +kernel⟩
theorem bn_Row_deep {G : Gc} : DefBinds G d_Row_deep ["self"] [] := binds0 rfl fun _ _ _ _ _ _ us hl => match us, hl with | [_], _ => rfl
abbrev s_Row_way : Stmt := inClass (topS 3) 5
def N_Row_way : List Str := ["self"]
abbrev d_Row_way : He.DefD := ⟨("Row", some "way"), "way", "Part.way", defArgs s_Row_way, defBody s_Row_way, defScope s_Row_way, [], []⟩
theorem sc_Row_way : FnScope N_Row_way ["self"] (defScope s_Row_way) := ⟨rfl, rfl, rfl, by decide +kernel, rfl, by decide +kernel, by decide +kernel⟩
theorem bn_Row_way {G : Gc} : DefBinds G d_Row_way ["self"] [] := binds0 rfl fun _ _ _ _ _ _ us hl => match us, hl with | [_], _ => rfl
abbrev s_Pick_init : Stmt := inClass (topS 7) 0
def N_Pick_init : List Str := ["self", "parts"]
abbrev d_Pick_init : He.DefD := ⟨("Pick", some "__init__"), "__init__", "Pick.__init__", defArgs s_Pick_init, defBody s_Pick_init, defScope s_Pick_init, [], []⟩
theorem sc_Pick_init : FnScope N_Pick_init ["self", "parts"] (defScope s_Pick_init) := ⟨rfl, rfl, rfl, by decide +kernel, rfl, by decide +kernel, by decide +kernel⟩
theorem bn_Pick_init {G : Gc} : DefBinds G d_Pick_init ["self", "parts"] [] := binds0 rfl fun _ _ _ _ _ _ us hl => match us, hl with | [_, _], _ => rfl
abbrev s_Pick_inner : Stmt := inClass (topS 7) 1
def N_Pick_inner : List Str := ["self"]
abbrev d_Pick_inner : He.DefD := ⟨("Pick", some "inner"), "inner", "Pick.inner", defArgs s_Pick_inner, defBody s_Pick_inner, defScope s_Pick_inner, [], []⟩
theorem sc_Pick_inner : FnScope N_Pick_inner ["self"] (defScope s_Pick_inner) := ⟨rfl, rfl, rfl, by decide +kernel, rfl, by decide +kernel, by decide +kernel⟩
theorem bn_Pick_inner {G : Gc} : DefBinds G d_Pick_inner ["self"] [] := binds0 rfl fun _ _ _ _ _ _ us hl => match us, hl with | [_], _ => rfl
abbrev s_Pick_text : Stmt := inClass (topS 7) 2
def N_Pick_text : List Str := ["self", "part"]
abbrev d_Pick_text : He.DefD := ⟨("Pick", some "text"), "text", "Pick.text", defArgs s_Pick_text, defBody s_Pick_text, defScope s_Pick_text, [], []⟩
theorem sc_Pick_text : FnScope N_Pick_text ["self"] (defScope s_Pick_text) := ⟨rfl, rfl, rfl, by decide +kernel, rfl, by decide +kernel, by decide +kernel⟩
theorem bn_Pick_text {G : Gc} : DefBinds G d_Pick_text ["self"] [] := binds0 rfl fun _ _ _ _ _ _ us hl => match us, hl with | [_], _ => rfl
abbrev s_Pick_element : Stmt := inClass (topS 7) 3
def N_Pick_element : List Str := ["self"]
abbrev d_Pick_element : He.DefD := ⟨("Pick", some "element"), "element", "Pick.element", defArgs s_Pick_element, defBody s_Pick_element, defScope s_Pick_element, [], []⟩
theorem sc_Pick_element : FnScope N_Pick_element ["self"] (defScope s_Pick_element) := ⟨rfl, rfl, rfl, by decide +kernel, rfl, by decide +kernel, by decide +kernel⟩
theorem bn_Pick_element {G : Gc} : DefBinds G d_Pick_element ["self"] [] := binds0 rfl fun _ _ _ _ _ _ us hl => match us, hl with | [_], _ => rfl
abbrev s_Pick_way : Stmt := inClass (topS 7) 4
def N_Pick_way : List Str := ["self"]
abbrev d_Pick_way : He.DefD := ⟨("Pick", some "way"), "way", "Pick.way", defArgs s_Pick_way, defBody s_Pick_way, defScope s_Pick_way, [], []⟩
theorem sc_Pick_way : FnScope N_Pick_way ["self"] (defScope s_Pick_way) := ⟨rfl, rfl, rfl, by decide +kernel, rfl, by decide +kernel, by decide +kernel⟩
theorem bn_Pick_way {G : Gc} : DefBinds G d_Pick_way ["self"] [] := binds0 rfl fun _ _ _ _ _ _ us hl => match us, hl with | [_], _ => rfl
abbrev s_Pick_walk : Stmt := inClass (topS 3) 1
def N_Pick_walk : List Str := ["self", "found", "part"]
abbrev d_Pick_walk : He.DefD := ⟨("Pick", some "walk"), "walk", "Part.walk", defArgs s_Pick_walk, defBody s_Pick_walk, defScope s_Pick_walk, [], []⟩
theorem sc_Pick_walk : FnScope N_Pick_walk ["self"] (defScope s_Pick_walk) := ⟨rfl, rfl, rfl, by decide +kernel, rfl, by decide +kernel, by decide +kernel⟩
theorem bn_Pick_walk {G : Gc} : DefBinds G d_Pick_walk ["self"] [] := binds0 rfl fun _ _ _ _ _ _ us hl => match us, hl with | [_], _ => rfl
abbrev s_Pick_deep : Stmt := inClass (topS 3) 2
def N_Pick_deep : List Str := ["self", "part"]
abbrev d_Pick_deep : He.DefD := ⟨("Pick", some "deep"), "deep", "Part.deep", defArgs s_Pick_deep, defBody s_Pick_deep, defScope s_Pick_deep, [], []⟩
theorem sc_Pick_deep : FnScope N_Pick_deep ["self"] (defScope s_Pick_deep) := ⟨rfl, rfl, rfl, by decide +kernel, rfl, by decide +kernel, by decide +kernel⟩
theorem bn_Pick_deep {G : Gc} : DefBinds G d_Pick_deep ["self"] [] := binds0 rfl fun _ _ _ _ _ _ us hl => match us, hl with | [_], _ => rfl
abbrev s_Maybe_init : Stmt := inClass (topS 8) 0
def N_Maybe_init : List Str := ["self", "part"]
abbrev d_Maybe_init : He.DefD := ⟨("Maybe", some "__init__"), "__init__", "Maybe.__init__", defArgs s_Maybe_init, defBody s_Maybe_init, defScope s_Maybe_init, [], []⟩
theorem sc_Maybe_init : FnScope N_Maybe_init ["self", "part"] (defScope s_Maybe_init) := ⟨rfl, rfl, rfl, by decide +kernel, rfl, by decide +kernel, by decide +kernel⟩
theorem bn_Maybe_init {G : Gc} : DefBinds G d_Maybe_init ["self", "part"] [] := binds0 rfl fun _ _ _ _ _ _ us hl => match us, hl with | [_, _], _ => rfl
abbrev s_Maybe_inner : Stmt := inClass (topS 8) 1
def N_Maybe_inner : List Str := ["self"]
abbrev d_Maybe_inner : He.DefD := ⟨("Maybe", some "inner"), "inner", "Maybe.inner", defArgs s_Maybe_inner, defBody s_Maybe_inner, defScope s_Maybe_inner, [], []⟩
theorem sc_Maybe_inner : FnScope N_Maybe_inner ["self"] (defScope s_Maybe_inner) := ⟨rfl, rfl, rfl, by decide +kernel, rfl, by decide +kernel, by decide +kernel⟩
theorem bn_Maybe_inner {G : Gc} : DefBinds G d_Maybe_inner ["self"] [] := binds0 rfl fun _ _ _ _ _ _ us hl => match us, hl with | [_], _ => rfl
abbrev s_Maybe_text : Stmt := inClass (topS 8) 2
def N_Maybe_text : List Str := ["self"]
abbrev d_Maybe_text : He.DefD := ⟨("Maybe", some "text"), "text", "Maybe.text", defArgs s_Maybe_text, defBody s_Maybe_text, defScope s_Maybe_text, [], []⟩
theorem sc_Maybe_text : FnScope N_Maybe_text ["self"] (defScope s_Maybe_text) := ⟨rfl, rfl, rfl, by decide +kernel, rfl, by decide +kernel, by decide +kernel⟩
theorem bn_Maybe_text {G : Gc} : DefBinds G d_Maybe_text ["self"] [] := binds0 rfl fun _ _ _ _ _ _ us hl => match us, hl with | [_], _ => rfl
abbrev s_Maybe_walk : Stmt := inClass (topS 3) 1
def N_Maybe_walk : List Str := ["self", "found", "part"]
abbrev d_Maybe_walk : He.DefD := ⟨("Maybe", some "walk"), "walk", "Part.walk", defArgs s_Maybe_walk, defBody s_Maybe_walk, defScope s_Maybe_walk, [], []⟩
theorem sc_Maybe_walk : FnScope N_Maybe_walk ["self"] (defScope s_Maybe_walk) := ⟨rfl, rfl, rfl, by decide +kernel, rfl, by decide +kernel, by decide +kernel⟩
theorem bn_Maybe_walk {G : Gc} : DefBinds G d_Maybe_walk ["self"] [] := binds0 rfl fun _ _ _ _ _ _ us hl => match us, hl with | [_], _ => rfl
abbrev s_Maybe_deep : Stmt := inClass (topS 3) 2
def N_Maybe_deep : List Str := ["self", "part"]
abbrev d_Maybe_deep : He.DefD := ⟨("Maybe", some "deep"), "deep", "Part.deep", defArgs s_Maybe_deep, defBody s_Maybe_deep, defScope s_Maybe_deep, [], []⟩
theorem sc_Maybe_deep : FnScope N_Maybe_deep ["self"] (defScope s_Maybe_deep) := ⟨rfl, rfl, rfl, by decide +kernel, rfl, by decide +kernel, by decide +kernel⟩
theorem bn_Maybe_deep {G : Gc} : DefBinds G d_Maybe_deep ["self"] [] := binds0 rfl fun _ _ _ _ _ _ us hl => match us, hl with | [_], _ => rfl
abbrev s_Maybe_element : Stmt := inClass (topS 3) 4
def N_Maybe_element : List Str := ["self"]
abbrev d_Maybe_element : He.DefD := ⟨("Maybe", some "element"), "element", "Part.element", defArgs s_Maybe_element, defBody s_Maybe_element, defScope s_Maybe_element, [], []⟩
theorem sc_Maybe_element : FnScope N_Maybe_element ["self"] (defScope s_Maybe_element) := ⟨rfl, rfl, rfl, by decide +kernel, rfl, by decide +kernel, by decide +kernel⟩
theorem bn_Maybe_element {G : Gc} : DefBinds G d_Maybe_element ["self"] [] := binds0 rfl fun _ _ _ _ _ _ us hl => match us, hl with | [_], _ => rfl
abbrev s_Maybe_way : Stmt := inClass (topS 3) 5
def N_Maybe_way : List Str := ["self"]
abbrev d_Maybe_way : He.DefD := ⟨("Maybe", some "way"), "way", "Part.way", defArgs s_Maybe_way, defBody s_Maybe_way, defScope s_Maybe_way, [], []⟩
theorem sc_Maybe_way : FnScope N_Maybe_way ["self"] (defScope s_Maybe_way) := ⟨rfl, rfl, rfl, by decide +kernel, rfl, by decide +kernel, by decide +kernel⟩
theorem bn_Maybe_way {G : Gc} : DefBinds G d_Maybe_way ["self"] [] := binds0 rfl fun _ _ _ _ _ _ us hl => match us, hl with | [_], _ => rfl
abbrev s_Many_init : Stmt := inClass (topS 9) 0
def N_Many_init : List Str := ["self", "part", "least"]
abbrev d_Many_init : He.DefD := ⟨("Many", some "__init__"), "__init__", "Many.__init__", defArgs s_Many_init, defBody s_Many_init, defScope s_Many_init, [.int 0], []⟩
theorem sc_Many_init : FnScope N_Many_init ["self", "part", "least"] (defScope s_Many_init) := ⟨rfl, rfl, rfl, by decide +kernel, rfl, by decide +kernel, by decide +kernel⟩
theorem bn_Many_init_0 {G : Gc} : DefBinds G d_Many_init ["self", "part", "least"] [.int 0] := bindsD 2 0 (by decide) rfl (fun H => .cons (.int 0) (.nil)) fun _ _ _ _ _ _ _ us its hl hi => match us, its, hl, hi with | [_, _], [_], _, _ => ⟨_, rfl, rfl⟩
theorem bn_Many_init_1 {G : Gc} : DefBinds G d_Many_init ["self", "part", "least"] [] := bindsD 3 1 (by decide) rfl (fun H => .nil) fun _ _ _ _ _ _ _ us its hl hi => match us, its, hl, hi with | [_, _, _], [_], _, _ => ⟨_, rfl, rfl⟩
abbrev s_Many_inner : Stmt := inClass (topS 9) 1
def N_Many_inner : List Str := ["self"]
abbrev d_Many_inner : He.DefD := ⟨("Many", some "inner"), "inner", "Many.inner", defArgs s_Many_inner, defBody s_Many_inner, defScope s_Many_inner, [], []⟩
theorem sc_Many_inner : FnScope N_Many_inner ["self"] (defScope s_Many_inner) := ⟨rfl, rfl, rfl, by decide +kernel, rfl, by decide +kernel, by decide +kernel⟩
theorem bn_Many_inner {G : Gc} : DefBinds G d_Many_inner ["self"] [] := binds0 rfl fun _ _ _ _ _ _ us hl => match us, hl with | [_], _ => rfl
abbrev s_Many_text : Stmt := inClass (topS 9) 2
def N_Many_text : List Str := ["self"]
abbrev d_Many_text : He.DefD := ⟨("Many", some "text"), "text", "Many.text", defArgs s_Many_text, defBody s_Many_text, defScope s_Many_text, [], []⟩
theorem sc_Many_text : FnScope N_Many_text ["self"] (defScope s_Many_text) := ⟨rfl, rfl, rfl, by decide +kernel, rfl, by decide +kernel, by decide +kernel⟩
theorem bn_Many_text {G : Gc} : DefBinds G d_Many_text ["self"] [] := binds0 rfl fun _ _ _ _ _ _ us hl => match us, hl with | [_], _ => rfl
abbrev s_Many_walk : Stmt := inClass (topS 3) 1
def N_Many_walk : List Str := ["self", "found", "part"]
abbrev d_Many_walk : He.DefD := ⟨("Many", some "walk"), "walk", "Part.walk", defArgs s_Many_walk, defBody s_Many_walk, defScope s_Many_walk, [], []⟩
theorem sc_Many_walk : FnScope N_Many_walk ["self"] (defScope s_Many_walk) := ⟨rfl, rfl, rfl, by decide +kernel, rfl, by decide +kernel, by decide +kernel⟩
theorem bn_Many_walk {G : Gc} : DefBinds G d_Many_walk ["self"] [] := binds0 rfl fun _ _ _ _ _ _ us hl => match us, hl with | [_], _ => rfl
abbrev s_Many_deep : Stmt := inClass (topS 3) 2
def N_Many_deep : List Str := ["self", "part"]
abbrev d_Many_deep : He.DefD := ⟨("Many", some "deep"), "deep", "Part.deep", defArgs s_Many_deep, defBody s_Many_deep, defScope s_Many_deep, [], []⟩
theorem sc_Many_deep : FnScope N_Many_deep ["self"] (defScope s_Many_deep) := ⟨rfl, rfl, rfl, by decide +kernel, rfl, by decide +kernel, by decide +kernel⟩
theorem bn_Many_deep {G : Gc} : DefBinds G d_Many_deep ["self"] [] := binds0 rfl fun _ _ _ _ _ _ us hl => match us, hl with | [_], _ => rfl
abbrev s_Many_element : Stmt := inClass (topS 3) 4
def N_Many_element : List Str := ["self"]
abbrev d_Many_element : He.DefD := ⟨("Many", some "element"), "element", "Part.element", defArgs s_Many_element, defBody s_Many_element, defScope s_Many_element, [], []⟩
theorem sc_Many_element : FnScope N_Many_element ["self"] (defScope s_Many_element) := ⟨rfl, rfl, rfl, by decide +kernel, rfl, by decide +kernel, by decide +kernel⟩
theorem bn_Many_element {G : Gc} : DefBinds G d_Many_element ["self"] [] := binds0 rfl fun _ _ _ _ _ _ us hl => match us, hl with | [_], _ => rfl
abbrev s_Many_way : Stmt := inClass (topS 3) 5
def N_Many_way : List Str := ["self"]
abbrev d_Many_way : He.DefD := ⟨("Many", some "way"), "way", "Part.way", defArgs s_Many_way, defBody s_Many_way, defScope s_Many_way, [], []⟩
theorem sc_Many_way : FnScope N_Many_way ["self"] (defScope s_Many_way) := ⟨rfl, rfl, rfl, by decide +kernel, rfl, by decide +kernel, by decide +kernel⟩
theorem bn_Many_way {G : Gc} : DefBinds G d_Many_way ["self"] [] := binds0 rfl fun _ _ _ _ _ _ us hl => match us, hl with | [_], _ => rfl
abbrev s_law_of : Stmt := topS 11
def N_law_of : List Str := ["_law_script", "_law_k"]
abbrev d_law_of : He.DefD := ⟨("_law_of", none), "_law_of", "_law_of", defArgs s_law_of, defBody s_law_of, defScope s_law_of, [], []⟩
theorem sc_law_of : FnScope N_law_of ["_law_script", "_law_k"] (defScope s_law_of) := ⟨rfl, rfl, rfl, by decide +kernel, rfl, by decide +kernel, by decide +kernel⟩
theorem bn_law_of {G : Gc} : DefBinds G d_law_of ["_law_script", "_law_k"] [] := binds0 rfl fun _ _ _ _ _ _ us hl => match us, hl with | [_, _], _ => rfl
abbrev s_law_mixed : Stmt := topS 12
def N_law_mixed : List Str := ["_law_script", "_law_k", "_law_cell"]
abbrev d_law_mixed : He.DefD := ⟨("_law_mixed", none), "_law_mixed", "_law_mixed", defArgs s_law_mixed, defBody s_law_mixed, defScope s_law_mixed, [], []⟩
theorem sc_law_mixed : FnScope N_law_mixed ["_law_script", "_law_k"] (defScope s_law_mixed) := ⟨rfl, rfl, rfl, by decide +kernel, rfl, by decide +kernel, by decide +kernel⟩
theorem bn_law_mixed {G : Gc} : DefBinds G d_law_mixed ["_law_script", "_law_k"] [] := binds0 rfl fun _ _ _ _ _ _ us hl => match us, hl with | [_, _], _ => rfl
abbrev s_law_turned : Stmt := topS 13
def N_law_turned : List Str := ["_law_number", "_law_k"]
abbrev d_law_turned : He.DefD := ⟨("_law_turned", none), "_law_turned", "_law_turned", defArgs s_law_turned, defBody s_law_turned, defScope s_law_turned, [], []⟩
theorem sc_law_turned : FnScope N_law_turned ["_law_number", "_law_k"] (defScope s_law_turned) := ⟨rfl, rfl, rfl, by decide +kernel, rfl, by decide +kernel, by decide +kernel⟩
theorem bn_law_turned {G : Gc} : DefBinds G d_law_turned ["_law_number", "_law_k"] [] := binds0 rfl fun _ _ _ _ _ _ us hl => match us, hl with | [_, _], _ => rfl
abbrev s_law_word : Stmt := topS 14
def N_law_word : List Str := ["_law_seed", "_law_k", "_law_letters", "_law_more", "_law_tail", "_law_j", "_law_at"]
abbrev d_law_word : He.DefD := ⟨("_law_word", none), "_law_word", "_law_word", defArgs s_law_word, defBody s_law_word, defScope s_law_word, [], []⟩
theorem sc_law_word : FnScope N_law_word ["_law_seed", "_law_k"] (defScope s_law_word) := ⟨rfl, rfl, rfl, by decide +kernel, rfl, by decide +kernel, by decide +kernel⟩
theorem bn_law_word {G : Gc} : DefBinds G d_law_word ["_law_seed", "_law_k"] [] := binds0 rfl fun _ _ _ _ _ _ us hl => match us, hl with | [_, _], _ => rfl
abbrev s_law_sign : Stmt := topS 15
def N_law_sign : List Str := ["_law_seed", "_law_k", "_law_marks", "_law_first", "_law_way"]
abbrev d_law_sign : He.DefD := ⟨("_law_sign", none), "_law_sign", "_law_sign", defArgs s_law_sign, defBody s_law_sign, defScope s_law_sign, [], []⟩
theorem sc_law_sign : FnScope N_law_sign ["_law_seed", "_law_k"] (defScope s_law_sign) := ⟨rfl, rfl, rfl, by decide +kernel, rfl, by decide +kernel, by decide +kernel⟩
theorem bn_law_sign {G : Gc} : DefBinds G d_law_sign ["_law_seed", "_law_k"] [] := binds0 rfl fun _ _ _ _ _ _ us hl => match us, hl with | [_, _], _ => rfl
abbrev s_law_part : Stmt := topS 16
def N_law_part : List Str := ["_law_number", "_law_deep_here", "_law_names", "_law_signs", "_law_way", "_law_more", "_law_size", "_law_parts", "_law_j", "_law_one"]
abbrev d_law_part : He.DefD := ⟨("_law_part", none), "_law_part", "_law_part", defArgs s_law_part, defBody s_law_part, defScope s_law_part, [], []⟩
theorem sc_law_part : FnScope N_law_part ["_law_number", "_law_deep_here", "_law_names", "_law_signs"] (defScope s_law_part) := ⟨rfl, rfl, rfl, by decide +kernel, rfl, by decide +kernel, by decide +kernel⟩
theorem bn_law_part {G : Gc} : DefBinds G d_law_part ["_law_number", "_law_deep_here", "_law_names", "_law_signs"] [] := binds0 rfl fun _ _ _ _ _ _ us hl => match us, hl with | [_, _, _, _], _ => rfl
abbrev s_law_inner : Stmt := topS 17
def N_law_inner : List Str := ["_law_part_here"]
abbrev d_law_inner : He.DefD := ⟨("_law_inner", none), "_law_inner", "_law_inner", defArgs s_law_inner, defBody s_law_inner, defScope s_law_inner, [], []⟩
theorem sc_law_inner : FnScope N_law_inner ["_law_part_here"] (defScope s_law_inner) := ⟨rfl, rfl, rfl, by decide +kernel, rfl, by decide +kernel, by decide +kernel⟩
theorem bn_law_inner {G : Gc} : DefBinds G d_law_inner ["_law_part_here"] [] := binds0 rfl fun _ _ _ _ _ _ us hl => match us, hl with | [_], _ => rfl
abbrev s_law_walk : Stmt := topS 18
def N_law_walk : List Str := ["_law_part_here", "_law_found", "_law_one"]
abbrev d_law_walk : He.DefD := ⟨("_law_walk", none), "_law_walk", "_law_walk", defArgs s_law_walk, defBody s_law_walk, defScope s_law_walk, [], []⟩
theorem sc_law_walk : FnScope N_law_walk ["_law_part_here"] (defScope s_law_walk) := ⟨rfl, rfl, rfl, by decide +kernel, rfl, by decide +kernel, by decide +kernel⟩
theorem bn_law_walk {G : Gc} : DefBinds G d_law_walk ["_law_part_here"] [] := binds0 rfl fun _ _ _ _ _ _ us hl => match us, hl with | [_], _ => rfl
abbrev s_law_text : Stmt := topS 19
def N_law_text : List Str := ["_law_part_here", "_law_one", "_law_texts", "_law_wide"]
abbrev d_law_text : He.DefD := ⟨("_law_text", none), "_law_text", "_law_text", defArgs s_law_text, defBody s_law_text, defScope s_law_text, [], []⟩
theorem sc_law_text : FnScope N_law_text ["_law_part_here"] (defScope s_law_text) := ⟨rfl, rfl, rfl, by decide +kernel, rfl, by decide +kernel, by decide +kernel⟩
theorem bn_law_text {G : Gc} : DefBinds G d_law_text ["_law_part_here"] [] := binds0 rfl fun _ _ _ _ _ _ us hl => match us, hl with | [_], _ => rfl
abbrev s_law_built : Stmt := topS 20
def N_law_built : List Str := ["_law_part_here", "_law_parts", "_law_one", "_law_found"]
abbrev d_law_built : He.DefD := ⟨("_law_built", none), "_law_built", "_law_built", defArgs s_law_built, defBody s_law_built, defScope s_law_built, [], []⟩
theorem sc_law_built : FnScope N_law_built ["_law_part_here"] (defScope s_law_built) := ⟨rfl, rfl, rfl, by decide +kernel, rfl, by decide +kernel, by decide +kernel⟩
theorem bn_law_built {G : Gc} : DefBinds G d_law_built ["_law_part_here"] [] := binds0 rfl fun _ _ _ _ _ _ us hl => match us, hl with | [_], _ => rfl
abbrev s_law_back : Stmt := topS 21
def N_law_back : List Str := ["_law_part_here", "_law_own", "_law_one"]
abbrev d_law_back : He.DefD := ⟨("_law_back", none), "_law_back", "_law_back", defArgs s_law_back, defBody s_law_back, defScope s_law_back, [], []⟩
theorem sc_law_back : FnScope N_law_back ["_law_part_here"] (defScope s_law_back) := ⟨rfl, rfl, rfl, by decide +kernel, rfl, by decide +kernel, by decide +kernel⟩
theorem bn_law_back {G : Gc} : DefBinds G d_law_back ["_law_part_here"] [] := binds0 rfl fun _ _ _ _ _ _ us hl => match us, hl with | [_], _ => rfl
abbrev s_law_deep : Stmt := topS 22
def N_law_deep : List Str := ["_law_part_here", "_law_one"]
abbrev d_law_deep : He.DefD := ⟨("_law_deep", none), "_law_deep", "_law_deep", defArgs s_law_deep, defBody s_law_deep, defScope s_law_deep, [], []⟩
theorem sc_law_deep : FnScope N_law_deep ["_law_part_here"] (defScope s_law_deep) := ⟨rfl, rfl, rfl, by decide +kernel, rfl, by decide +kernel, by decide +kernel⟩
theorem bn_law_deep {G : Gc} : DefBinds G d_law_deep ["_law_part_here"] [] := binds0 rfl fun _ _ _ _ _ _ us hl => match us, hl with | [_], _ => rfl
abbrev s_law_is_so : Stmt := topS 23
def N_law_is_so : List Str := ["_law_found", "_law_part_here", "_law_inner_here", "_law_walk_here", "_law_one", "_law_deep_here", "_law_text_here"]
abbrev d_law_is_so : He.DefD := ⟨("_law_is_so", none), "_law_is_so", "_law_is_so", defArgs s_law_is_so, defBody s_law_is_so, defScope s_law_is_so, [], []⟩
theorem sc_law_is_so : FnScope N_law_is_so ["_law_found", "_law_part_here"] (defScope s_law_is_so) := ⟨rfl, rfl, rfl, by decide +kernel, rfl, by decide +kernel, by decide +kernel⟩
theorem bn_law_is_so {G : Gc} : DefBinds G d_law_is_so ["_law_found", "_law_part_here"] [] := binds0 rfl fun _ _ _ _ _ _ us hl => match us, hl with | [_, _], _ => rfl
abbrev s_law : Stmt := topS 24
def N_law : List Str := ["_law_script", "_law_names", "_law_k", "_law_signs", "_law_number", "_law_part_here", "_law_found", "_law_turn", "_law_bare"]
abbrev d_law : He.DefD := ⟨("law", none), "law", "law", defArgs s_law, defBody s_law, defScope s_law, [], []⟩
theorem sc_law : FnScope N_law ["_law_script"] (defScope s_law) := ⟨rfl, rfl, rfl, by decide +kernel, rfl, by decide +kernel, by decide +kernel⟩
theorem bn_law {G : Gc} : DefBinds G d_law ["_law_script"] [] := binds0 rfl fun _ _ _ _ _ _ us hl => match us, hl with | [_], _ => rfl
/-- what the top has left -/
structure Env (G : Gc) : Prop where
  f_max : G.mg "max" = none
  f_list : G.mg "list" = none
  f_len : G.mg "len" = none
  f_range : G.mg "range" = none
  f_min : G.mg "min" = none
  f_int : G.mg "int" = none
  f_isinstance : G.mg "isinstance" = none
  f_bool : G.mg "bool" = none
  f_str : G.mg "str" = none
  g_law_of : G.mg "_law_of" = some (.ref (He.ga G.K "_law_of"))
  g_law_mixed : G.mg "_law_mixed" = some (.ref (He.ga G.K "_law_mixed"))
  g_law_turned : G.mg "_law_turned" = some (.ref (He.ga G.K "_law_turned"))
  g_law_word : G.mg "_law_word" = some (.ref (He.ga G.K "_law_word"))
  g_law_sign : G.mg "_law_sign" = some (.ref (He.ga G.K "_law_sign"))
  g_law_part : G.mg "_law_part" = some (.ref (He.ga G.K "_law_part"))
  g_law_inner : G.mg "_law_inner" = some (.ref (He.ga G.K "_law_inner"))
  g_law_walk : G.mg "_law_walk" = some (.ref (He.ga G.K "_law_walk"))
  g_law_text : G.mg "_law_text" = some (.ref (He.ga G.K "_law_text"))
  g_law_built : G.mg "_law_built" = some (.ref (He.ga G.K "_law_built"))
  g_law_back : G.mg "_law_back" = some (.ref (He.ga G.K "_law_back"))
  g_law_deep : G.mg "_law_deep" = some (.ref (He.ga G.K "_law_deep"))
  g_law_is_so : G.mg "_law_is_so" = some (.ref (He.ga G.K "_law_is_so"))
  g_law : G.mg "law" = some (.ref (He.ga G.K "law"))
  g_Part : G.mg "Part" = some (.ref (He.ga G.K "Part"))
  g_Sign : G.mg "Sign" = some (.ref (He.ga G.K "Sign"))
  g_Name : G.mg "Name" = some (.ref (He.ga G.K "Name"))
  g_Row : G.mg "Row" = some (.ref (He.ga G.K "Row"))
  g_Pick : G.mg "Pick" = some (.ref (He.ga G.K "Pick"))
  g_Maybe : G.mg "Maybe" = some (.ref (He.ga G.K "Maybe"))
  g_Many : G.mg "Many" = some (.ref (He.ga G.K "Many"))
  k_CLASSES : GCst G "CLASSES" (.tup ((["WORD", "FIGURES"] : List Str).map D.str))
  c_Part : ClsG G "Part"
  c_Sign : ClsG G "Sign"
  n_Sign_sign : NoAt G "Sign" "sign"
  c_Name : ClsG G "Name"
  n_Name_name : NoAt G "Name" "name"
  c_Row : ClsG G "Row"
  n_Row_parts : NoAt G "Row" "parts"
  c_Pick : ClsG G "Pick"
  n_Pick_parts : NoAt G "Pick" "parts"
  c_Maybe : ClsG G "Maybe"
  n_Maybe_part : NoAt G "Maybe" "part"
  c_Many : ClsG G "Many"
  n_Many_part : NoAt G "Many" "part"
  n_Many_least : NoAt G "Many" "least"
  m_Part_inner : MethG G "Part" "inner"
  m_Part_walk : MethG G "Part" "walk"
  m_Part_deep : MethG G "Part" "deep"
  m_Part_text : MethG G "Part" "text"
  m_Part_element : MethG G "Part" "element"
  m_Part_way : MethG G "Part" "way"
  mk_Sign : MkG G "Sign"
  m_Sign_text : MethG G "Sign" "text"
  m_Sign_inner : MethG G "Sign" "inner"
  m_Sign_walk : MethG G "Sign" "walk"
  m_Sign_deep : MethG G "Sign" "deep"
  m_Sign_element : MethG G "Sign" "element"
  m_Sign_way : MethG G "Sign" "way"
  mk_Name : MkG G "Name"
  m_Name_text : MethG G "Name" "text"
  m_Name_inner : MethG G "Name" "inner"
  m_Name_walk : MethG G "Name" "walk"
  m_Name_deep : MethG G "Name" "deep"
  m_Name_element : MethG G "Name" "element"
  m_Name_way : MethG G "Name" "way"
  mk_Row : MkG G "Row"
  m_Row_inner : MethG G "Row" "inner"
  m_Row_text : MethG G "Row" "text"
  m_Row_element : MethG G "Row" "element"
  m_Row_walk : MethG G "Row" "walk"
  m_Row_deep : MethG G "Row" "deep"
  m_Row_way : MethG G "Row" "way"
  mk_Pick : MkG G "Pick"
  m_Pick_inner : MethG G "Pick" "inner"
  m_Pick_text : MethG G "Pick" "text"
  m_Pick_element : MethG G "Pick" "element"
  m_Pick_way : MethG G "Pick" "way"
  m_Pick_walk : MethG G "Pick" "walk"
  m_Pick_deep : MethG G "Pick" "deep"
  mk_Maybe : MkG G "Maybe"
  m_Maybe_inner : MethG G "Maybe" "inner"
  m_Maybe_text : MethG G "Maybe" "text"
  m_Maybe_walk : MethG G "Maybe" "walk"
  m_Maybe_deep : MethG G "Maybe" "deep"
  m_Maybe_element : MethG G "Maybe" "element"
  m_Maybe_way : MethG G "Maybe" "way"
  mk_Many : MkG G "Many"
  m_Many_inner : MethG G "Many" "inner"
  m_Many_text : MethG G "Many" "text"
  m_Many_walk : MethG G "Many" "walk"
  m_Many_deep : MethG G "Many" "deep"
  m_Many_element : MethG G "Many" "element"
  m_Many_way : MethG G "Many" "way"
  d_Part_inner : HasDef G d_Part_inner
  d_Part_walk : HasDef G d_Part_walk
  d_Part_deep : HasDef G d_Part_deep
  d_Part_text : HasDef G d_Part_text
  d_Part_element : HasDef G d_Part_element
  d_Part_way : HasDef G d_Part_way
  d_Sign_init : HasDef G d_Sign_init
  d_Sign_text : HasDef G d_Sign_text
  d_Sign_inner : HasDef G d_Sign_inner
  d_Sign_walk : HasDef G d_Sign_walk
  d_Sign_deep : HasDef G d_Sign_deep
  d_Sign_element : HasDef G d_Sign_element
  d_Sign_way : HasDef G d_Sign_way
  d_Name_init : HasDef G d_Name_init
  d_Name_text : HasDef G d_Name_text
  d_Name_inner : HasDef G d_Name_inner
  d_Name_walk : HasDef G d_Name_walk
  d_Name_deep : HasDef G d_Name_deep
  d_Name_element : HasDef G d_Name_element
  d_Name_way : HasDef G d_Name_way
  d_Row_init : HasDef G d_Row_init
  d_Row_inner : HasDef G d_Row_inner
  d_Row_text : HasDef G d_Row_text
  d_Row_element : HasDef G d_Row_element
  d_Row_walk : HasDef G d_Row_walk
  d_Row_deep : HasDef G d_Row_deep
  d_Row_way : HasDef G d_Row_way
  d_Pick_init : HasDef G d_Pick_init
  d_Pick_inner : HasDef G d_Pick_inner
  d_Pick_text : HasDef G d_Pick_text
  d_Pick_element : HasDef G d_Pick_element
  d_Pick_way : HasDef G d_Pick_way
  d_Pick_walk : HasDef G d_Pick_walk
  d_Pick_deep : HasDef G d_Pick_deep
  d_Maybe_init : HasDef G d_Maybe_init
  d_Maybe_inner : HasDef G d_Maybe_inner
  d_Maybe_text : HasDef G d_Maybe_text
  d_Maybe_walk : HasDef G d_Maybe_walk
  d_Maybe_deep : HasDef G d_Maybe_deep
  d_Maybe_element : HasDef G d_Maybe_element
  d_Maybe_way : HasDef G d_Maybe_way
  d_Many_init : HasDef G d_Many_init
  d_Many_inner : HasDef G d_Many_inner
  d_Many_text : HasDef G d_Many_text
  d_Many_walk : HasDef G d_Many_walk
  d_Many_deep : HasDef G d_Many_deep
  d_Many_element : HasDef G d_Many_element
  d_Many_way : HasDef G d_Many_way
  d_law_of : HasDef G d_law_of
  d_law_mixed : HasDef G d_law_mixed
  d_law_turned : HasDef G d_law_turned
  d_law_word : HasDef G d_law_word
  d_law_sign : HasDef G d_law_sign
  d_law_part : HasDef G d_law_part
  d_law_inner : HasDef G d_law_inner
  d_law_walk : HasDef G d_law_walk
  d_law_text : HasDef G d_law_text
  d_law_built : HasDef G d_law_built
  d_law_back : HasDef G d_law_back
  d_law_deep : HasDef G d_law_deep
  d_law_is_so : HasDef G d_law_is_so
  d_law : HasDef G d_law

def fa : List He.Fa := [.free "max", .free "list", .free "len", .free "range", .free "min", .free "int", .free "isinstance", .free "bool", .free "str", .glo "_law_of", .glo "_law_mixed", .glo "_law_turned", .glo "_law_word", .glo "_law_sign", .glo "_law_part", .glo "_law_inner", .glo "_law_walk", .glo "_law_text", .glo "_law_built", .glo "_law_back", .glo "_law_deep", .glo "_law_is_so", .glo "law", .glo "Part", .glo "Sign", .glo "Name", .glo "Row", .glo "Pick", .glo "Maybe", .glo "Many", .glo "CLASSES", .cls "Part", .cls "Sign", .noat "Sign" "sign", .cls "Name", .noat "Name" "name", .cls "Row", .noat "Row" "parts", .cls "Pick", .noat "Pick" "parts", .cls "Maybe", .noat "Maybe" "part", .cls "Many", .noat "Many" "part", .noat "Many" "least", .meth "Part" "inner", .meth "Part" "walk", .meth "Part" "deep", .meth "Part" "text", .meth "Part" "element", .meth "Part" "way", .mkr "Sign", .meth "Sign" "text", .meth "Sign" "inner", .meth "Sign" "walk", .meth "Sign" "deep", .meth "Sign" "element", .meth "Sign" "way", .mkr "Name", .meth "Name" "text", .meth "Name" "inner", .meth "Name" "walk", .meth "Name" "deep", .meth "Name" "element", .meth "Name" "way", .mkr "Row", .meth "Row" "inner", .meth "Row" "text", .meth "Row" "element", .meth "Row" "walk", .meth "Row" "deep", .meth "Row" "way", .mkr "Pick", .meth "Pick" "inner", .meth "Pick" "text", .meth "Pick" "element", .meth "Pick" "way", .meth "Pick" "walk", .meth "Pick" "deep", .mkr "Maybe", .meth "Maybe" "inner", .meth "Maybe" "text", .meth "Maybe" "walk", .meth "Maybe" "deep", .meth "Maybe" "element", .meth "Maybe" "way", .mkr "Many", .meth "Many" "inner", .meth "Many" "text", .meth "Many" "walk", .meth "Many" "deep", .meth "Many" "element", .meth "Many" "way"]
def fn : List He.DefD := [d_Part_inner, d_Part_walk, d_Part_deep, d_Part_text, d_Part_element, d_Part_way, d_Sign_init, d_Sign_text, d_Sign_inner, d_Sign_walk, d_Sign_deep, d_Sign_element, d_Sign_way, d_Name_init, d_Name_text, d_Name_inner, d_Name_walk, d_Name_deep, d_Name_element, d_Name_way, d_Row_init, d_Row_inner, d_Row_text, d_Row_element, d_Row_walk, d_Row_deep, d_Row_way, d_Pick_init, d_Pick_inner, d_Pick_text, d_Pick_element, d_Pick_way, d_Pick_walk, d_Pick_deep, d_Maybe_init, d_Maybe_inner, d_Maybe_text, d_Maybe_walk, d_Maybe_deep, d_Maybe_element, d_Maybe_way, d_Many_init, d_Many_inner, d_Many_text, d_Many_walk, d_Many_deep, d_Many_element, d_Many_way, d_law_of, d_law_mixed, d_law_turned, d_law_word, d_law_sign, d_law_part, d_law_inner, d_law_walk, d_law_text, d_law_built, d_law_back, d_law_deep, d_law_is_so, d_law]
def tupsB (K : PySem.W.Frag) : Bool := He.tupB K "CLASSES" ((["WORD", "FIGURES"] : List Str).map He.Dv.str)
def isiL : List (Str × Str × Bool) := ([("Many", "Many", true), ("Many", "Maybe", false), ("Many", "Name", false), ("Many", "Part", true), ("Many", "Pick", false), ("Many", "Row", false), ("Many", "Sign", false), ("Maybe", "Many", false), ("Maybe", "Maybe", true), ("Maybe", "Name", false), ("Maybe", "Part", true), ("Maybe", "Pick", false), ("Maybe", "Row", false), ("Maybe", "Sign", false), ("Name", "Many", false), ("Name", "Maybe", false), ("Name", "Name", true), ("Name", "Part", true), ("Name", "Pick", false), ("Name", "Row", false), ("Name", "Sign", false), ("Pick", "Many", false), ("Pick", "Maybe", false), ("Pick", "Name", false)] : List (Str × Str × Bool)) ++ ([("Pick", "Part", true), ("Pick", "Pick", true), ("Pick", "Row", false), ("Pick", "Sign", false), ("Row", "Many", false), ("Row", "Maybe", false), ("Row", "Name", false), ("Row", "Part", true), ("Row", "Pick", false), ("Row", "Row", true), ("Row", "Sign", false), ("Sign", "Many", false), ("Sign", "Maybe", false), ("Sign", "Name", false), ("Sign", "Part", true), ("Sign", "Pick", false), ("Sign", "Row", false), ("Sign", "Sign", true)] : List (Str × Str × Bool))
def iskL : List Str := ["Many", "Maybe", "Name", "Pick", "Row", "Sign"]
def more (K : PySem.W.Frag) : Bool := (isiL.all fun e => eqOB (PySem.W.kitOne K (.ref (He.ga K e.1)) (.ref (He.ga K e.2.1))) (some e.2.2)) && (iskL.all fun x => insB K x)
def ex (K : PySem.W.Frag) : Bool := (fa.all fun f => f.ok K) && (tupsB K && more K)
theorem env_of {G : Gc} {h : Heap} (X : G.K.In h) (M : h.Ns mainGlobals G.mg) (c : SaysB ex fn G.K) : Env G := by
  obtain ⟨c1, c2⟩ := c.all
  unfold ex at c1
  simp only [Bool.and_eq_true] at c1
  obtain ⟨c1, c3, c4⟩ := c1
  have F : ∀ (i : Nat) (f : He.Fa), fa[i]? = some f → f.ok G.K = true := fun i f h => List.all_eq_true.mp c1 f (List.mem_of_getElem? h)
  unfold tupsB at c3
  have t0 := c3

  exact {
    f_max := He.free_ok X M (F 0 _ rfl)
    f_list := He.free_ok X M (F 1 _ rfl)
    f_len := He.free_ok X M (F 2 _ rfl)
    f_range := He.free_ok X M (F 3 _ rfl)
    f_min := He.free_ok X M (F 4 _ rfl)
    f_int := He.free_ok X M (F 5 _ rfl)
    f_isinstance := He.free_ok X M (F 6 _ rfl)
    f_bool := He.free_ok X M (F 7 _ rfl)
    f_str := He.free_ok X M (F 8 _ rfl)
    g_law_of := He.glo_ok X M (F 9 _ rfl)
    g_law_mixed := He.glo_ok X M (F 10 _ rfl)
    g_law_turned := He.glo_ok X M (F 11 _ rfl)
    g_law_word := He.glo_ok X M (F 12 _ rfl)
    g_law_sign := He.glo_ok X M (F 13 _ rfl)
    g_law_part := He.glo_ok X M (F 14 _ rfl)
    g_law_inner := He.glo_ok X M (F 15 _ rfl)
    g_law_walk := He.glo_ok X M (F 16 _ rfl)
    g_law_text := He.glo_ok X M (F 17 _ rfl)
    g_law_built := He.glo_ok X M (F 18 _ rfl)
    g_law_back := He.glo_ok X M (F 19 _ rfl)
    g_law_deep := He.glo_ok X M (F 20 _ rfl)
    g_law_is_so := He.glo_ok X M (F 21 _ rfl)
    g_law := He.glo_ok X M (F 22 _ rfl)
    g_Part := He.glo_ok X M (F 23 _ rfl)
    g_Sign := He.glo_ok X M (F 24 _ rfl)
    g_Name := He.glo_ok X M (F 25 _ rfl)
    g_Row := He.glo_ok X M (F 26 _ rfl)
    g_Pick := He.glo_ok X M (F 27 _ rfl)
    g_Maybe := He.glo_ok X M (F 28 _ rfl)
    g_Many := He.glo_ok X M (F 29 _ rfl)
    k_CLASSES := gc_tupS (He.glo_ok X M (F 30 _ rfl)) t0
    c_Part := He.cls_ok (F 31 _ rfl)
    c_Sign := He.cls_ok (F 32 _ rfl)
    n_Sign_sign := He.noat_ok (F 33 _ rfl)
    c_Name := He.cls_ok (F 34 _ rfl)
    n_Name_name := He.noat_ok (F 35 _ rfl)
    c_Row := He.cls_ok (F 36 _ rfl)
    n_Row_parts := He.noat_ok (F 37 _ rfl)
    c_Pick := He.cls_ok (F 38 _ rfl)
    n_Pick_parts := He.noat_ok (F 39 _ rfl)
    c_Maybe := He.cls_ok (F 40 _ rfl)
    n_Maybe_part := He.noat_ok (F 41 _ rfl)
    c_Many := He.cls_ok (F 42 _ rfl)
    n_Many_part := He.noat_ok (F 43 _ rfl)
    n_Many_least := He.noat_ok (F 44 _ rfl)
    m_Part_inner := He.meth_ok (F 45 _ rfl)
    m_Part_walk := He.meth_ok (F 46 _ rfl)
    m_Part_deep := He.meth_ok (F 47 _ rfl)
    m_Part_text := He.meth_ok (F 48 _ rfl)
    m_Part_element := He.meth_ok (F 49 _ rfl)
    m_Part_way := He.meth_ok (F 50 _ rfl)
    mk_Sign := He.mkr_ok (F 51 _ rfl)
    m_Sign_text := He.meth_ok (F 52 _ rfl)
    m_Sign_inner := He.meth_ok (F 53 _ rfl)
    m_Sign_walk := He.meth_ok (F 54 _ rfl)
    m_Sign_deep := He.meth_ok (F 55 _ rfl)
    m_Sign_element := He.meth_ok (F 56 _ rfl)
    m_Sign_way := He.meth_ok (F 57 _ rfl)
    mk_Name := He.mkr_ok (F 58 _ rfl)
    m_Name_text := He.meth_ok (F 59 _ rfl)
    m_Name_inner := He.meth_ok (F 60 _ rfl)
    m_Name_walk := He.meth_ok (F 61 _ rfl)
    m_Name_deep := He.meth_ok (F 62 _ rfl)
    m_Name_element := He.meth_ok (F 63 _ rfl)
    m_Name_way := He.meth_ok (F 64 _ rfl)
    mk_Row := He.mkr_ok (F 65 _ rfl)
    m_Row_inner := He.meth_ok (F 66 _ rfl)
    m_Row_text := He.meth_ok (F 67 _ rfl)
    m_Row_element := He.meth_ok (F 68 _ rfl)
    m_Row_walk := He.meth_ok (F 69 _ rfl)
    m_Row_deep := He.meth_ok (F 70 _ rfl)
    m_Row_way := He.meth_ok (F 71 _ rfl)
    mk_Pick := He.mkr_ok (F 72 _ rfl)
    m_Pick_inner := He.meth_ok (F 73 _ rfl)
    m_Pick_text := He.meth_ok (F 74 _ rfl)
    m_Pick_element := He.meth_ok (F 75 _ rfl)
    m_Pick_way := He.meth_ok (F 76 _ rfl)
    m_Pick_walk := He.meth_ok (F 77 _ rfl)
    m_Pick_deep := He.meth_ok (F 78 _ rfl)
    mk_Maybe := He.mkr_ok (F 79 _ rfl)
    m_Maybe_inner := He.meth_ok (F 80 _ rfl)
    m_Maybe_text := He.meth_ok (F 81 _ rfl)
    m_Maybe_walk := He.meth_ok (F 82 _ rfl)
    m_Maybe_deep := He.meth_ok (F 83 _ rfl)
    m_Maybe_element := He.meth_ok (F 84 _ rfl)
    m_Maybe_way := He.meth_ok (F 85 _ rfl)
    mk_Many := He.mkr_ok (F 86 _ rfl)
    m_Many_inner := He.meth_ok (F 87 _ rfl)
    m_Many_text := He.meth_ok (F 88 _ rfl)
    m_Many_walk := He.meth_ok (F 89 _ rfl)
    m_Many_deep := He.meth_ok (F 90 _ rfl)
    m_Many_element := He.meth_ok (F 91 _ rfl)
    m_Many_way := He.meth_ok (F 92 _ rfl)
    d_Part_inner := c.def_ 0 rfl
    d_Part_walk := c.def_ 1 rfl
    d_Part_deep := c.def_ 2 rfl
    d_Part_text := c.def_ 3 rfl
    d_Part_element := c.def_ 4 rfl
    d_Part_way := c.def_ 5 rfl
    d_Sign_init := c.def_ 6 rfl
    d_Sign_text := c.def_ 7 rfl
    d_Sign_inner := c.def_ 8 rfl
    d_Sign_walk := c.def_ 9 rfl
    d_Sign_deep := c.def_ 10 rfl
    d_Sign_element := c.def_ 11 rfl
    d_Sign_way := c.def_ 12 rfl
    d_Name_init := c.def_ 13 rfl
    d_Name_text := c.def_ 14 rfl
    d_Name_inner := c.def_ 15 rfl
    d_Name_walk := c.def_ 16 rfl
    d_Name_deep := c.def_ 17 rfl
    d_Name_element := c.def_ 18 rfl
    d_Name_way := c.def_ 19 rfl
    d_Row_init := c.def_ 20 rfl
    d_Row_inner := c.def_ 21 rfl
    d_Row_text := c.def_ 22 rfl
    d_Row_element := c.def_ 23 rfl
    d_Row_walk := c.def_ 24 rfl
    d_Row_deep := c.def_ 25 rfl
    d_Row_way := c.def_ 26 rfl
    d_Pick_init := c.def_ 27 rfl
    d_Pick_inner := c.def_ 28 rfl
    d_Pick_text := c.def_ 29 rfl
    d_Pick_element := c.def_ 30 rfl
    d_Pick_way := c.def_ 31 rfl
    d_Pick_walk := c.def_ 32 rfl
    d_Pick_deep := c.def_ 33 rfl
    d_Maybe_init := c.def_ 34 rfl
    d_Maybe_inner := c.def_ 35 rfl
    d_Maybe_text := c.def_ 36 rfl
    d_Maybe_walk := c.def_ 37 rfl
    d_Maybe_deep := c.def_ 38 rfl
    d_Maybe_element := c.def_ 39 rfl
    d_Maybe_way := c.def_ 40 rfl
    d_Many_init := c.def_ 41 rfl
    d_Many_inner := c.def_ 42 rfl
    d_Many_text := c.def_ 43 rfl
    d_Many_walk := c.def_ 44 rfl
    d_Many_deep := c.def_ 45 rfl
    d_Many_element := c.def_ 46 rfl
    d_Many_way := c.def_ 47 rfl
    d_law_of := c.def_ 48 rfl
    d_law_mixed := c.def_ 49 rfl
    d_law_turned := c.def_ 50 rfl
    d_law_word := c.def_ 51 rfl
    d_law_sign := c.def_ 52 rfl
    d_law_part := c.def_ 53 rfl
    d_law_inner := c.def_ 54 rfl
    d_law_walk := c.def_ 55 rfl
    d_law_text := c.def_ 56 rfl
    d_law_built := c.def_ 57 rfl
    d_law_back := c.def_ 58 rfl
    d_law_deep := c.def_ 59 rfl
    d_law_is_so := c.def_ 60 rfl
    d_law := c.def_ 61 rfl

  }
local macro_rules | `(tactic| walk_at "in_Part_inner") => `(tactic| (have : N_Part_inner[0]? = some ("self" : Str) := rfl))
local macro_rules | `(tactic| walk_at "in_Part_walk") => `(tactic| (have : N_Part_walk[0]? = some ("self" : Str) := rfl; have : N_Part_walk[1]? = some ("found" : Str) := rfl; have : N_Part_walk[2]? = some ("part" : Str) := rfl))
local macro_rules | `(tactic| walk_at "in_Part_deep") => `(tactic| (have : N_Part_deep[0]? = some ("self" : Str) := rfl; have : N_Part_deep[1]? = some ("part" : Str) := rfl; have := Env.f_max ‹Env _›))
local macro_rules | `(tactic| walk_at "in_Part_text") => `(tactic| (have : N_Part_text[0]? = some ("self" : Str) := rfl))
local macro_rules | `(tactic| walk_at "in_Part_element") => `(tactic| (have : N_Part_element[0]? = some ("self" : Str) := rfl))
local macro_rules | `(tactic| walk_at "in_Part_way") => `(tactic| (have : N_Part_way[0]? = some ("self" : Str) := rfl))
local macro_rules | `(tactic| walk_at "in_Sign_init") => `(tactic| (have : N_Sign_init[0]? = some ("self" : Str) := rfl; have : N_Sign_init[1]? = some ("sign" : Str) := rfl))
local macro_rules | `(tactic| walk_at "in_Sign_text") => `(tactic| (have : N_Sign_text[0]? = some ("self" : Str) := rfl; have := Env.k_CLASSES ‹Env _›))
local macro_rules | `(tactic| walk_at "in_Sign_inner") => `(tactic| (have : N_Sign_inner[0]? = some ("self" : Str) := rfl))
local macro_rules | `(tactic| walk_at "in_Sign_walk") => `(tactic| (have : N_Sign_walk[0]? = some ("self" : Str) := rfl; have : N_Sign_walk[1]? = some ("found" : Str) := rfl; have : N_Sign_walk[2]? = some ("part" : Str) := rfl))
local macro_rules | `(tactic| walk_at "in_Sign_deep") => `(tactic| (have : N_Sign_deep[0]? = some ("self" : Str) := rfl; have : N_Sign_deep[1]? = some ("part" : Str) := rfl; have := Env.f_max ‹Env _›))
local macro_rules | `(tactic| walk_at "in_Sign_element") => `(tactic| (have : N_Sign_element[0]? = some ("self" : Str) := rfl))
local macro_rules | `(tactic| walk_at "in_Sign_way") => `(tactic| (have : N_Sign_way[0]? = some ("self" : Str) := rfl))
local macro_rules | `(tactic| walk_at "in_Name_init") => `(tactic| (have : N_Name_init[0]? = some ("self" : Str) := rfl; have : N_Name_init[1]? = some ("name" : Str) := rfl))
local macro_rules | `(tactic| walk_at "in_Name_text") => `(tactic| (have : N_Name_text[0]? = some ("self" : Str) := rfl))
local macro_rules | `(tactic| walk_at "in_Name_inner") => `(tactic| (have : N_Name_inner[0]? = some ("self" : Str) := rfl))
local macro_rules | `(tactic| walk_at "in_Name_walk") => `(tactic| (have : N_Name_walk[0]? = some ("self" : Str) := rfl; have : N_Name_walk[1]? = some ("found" : Str) := rfl; have : N_Name_walk[2]? = some ("part" : Str) := rfl))
local macro_rules | `(tactic| walk_at "in_Name_deep") => `(tactic| (have : N_Name_deep[0]? = some ("self" : Str) := rfl; have : N_Name_deep[1]? = some ("part" : Str) := rfl; have := Env.f_max ‹Env _›))
local macro_rules | `(tactic| walk_at "in_Name_element") => `(tactic| (have : N_Name_element[0]? = some ("self" : Str) := rfl))
local macro_rules | `(tactic| walk_at "in_Name_way") => `(tactic| (have : N_Name_way[0]? = some ("self" : Str) := rfl))
local macro_rules | `(tactic| walk_at "in_Row_init") => `(tactic| (have : N_Row_init[0]? = some ("self" : Str) := rfl; have : N_Row_init[1]? = some ("parts" : Str) := rfl; have := Env.f_list ‹Env _›))
local macro_rules | `(tactic| walk_at "in_Row_inner") => `(tactic| (have : N_Row_inner[0]? = some ("self" : Str) := rfl; have := Env.f_list ‹Env _›))
local macro_rules | `(tactic| walk_at "in_Row_text") => `(tactic| (have : N_Row_text[0]? = some ("self" : Str) := rfl; have : N_Row_text[1]? = some ("found" : Str) := rfl; have : N_Row_text[2]? = some ("part" : Str) := rfl; have := Env.f_len ‹Env _›))
local macro_rules | `(tactic| walk_at "in_Row_element") => `(tactic| (have : N_Row_element[0]? = some ("self" : Str) := rfl; have := Env.f_len ‹Env _›))
local macro_rules | `(tactic| walk_at "in_Row_walk") => `(tactic| (have : N_Row_walk[0]? = some ("self" : Str) := rfl; have : N_Row_walk[1]? = some ("found" : Str) := rfl; have : N_Row_walk[2]? = some ("part" : Str) := rfl))
local macro_rules | `(tactic| walk_at "in_Row_deep") => `(tactic| (have : N_Row_deep[0]? = some ("self" : Str) := rfl; have : N_Row_deep[1]? = some ("part" : Str) := rfl; have := Env.f_max ‹Env _›))
local macro_rules | `(tactic| walk_at "in_Row_way") => `(tactic| (have : N_Row_way[0]? = some ("self" : Str) := rfl))
local macro_rules | `(tactic| walk_at "in_Pick_init") => `(tactic| (have : N_Pick_init[0]? = some ("self" : Str) := rfl; have : N_Pick_init[1]? = some ("parts" : Str) := rfl; have := Env.f_list ‹Env _›))
local macro_rules | `(tactic| walk_at "in_Pick_inner") => `(tactic| (have : N_Pick_inner[0]? = some ("self" : Str) := rfl; have := Env.f_list ‹Env _›))
local macro_rules | `(tactic| walk_at "in_Pick_text") => `(tactic| (have : N_Pick_text[0]? = some ("self" : Str) := rfl; have : N_Pick_text[1]? = some ("part" : Str) := rfl))
local macro_rules | `(tactic| walk_at "in_Pick_element") => `(tactic| (have : N_Pick_element[0]? = some ("self" : Str) := rfl))
local macro_rules | `(tactic| walk_at "in_Pick_way") => `(tactic| (have : N_Pick_way[0]? = some ("self" : Str) := rfl))
local macro_rules | `(tactic| walk_at "in_Pick_walk") => `(tactic| (have : N_Pick_walk[0]? = some ("self" : Str) := rfl; have : N_Pick_walk[1]? = some ("found" : Str) := rfl; have : N_Pick_walk[2]? = some ("part" : Str) := rfl))
local macro_rules | `(tactic| walk_at "in_Pick_deep") => `(tactic| (have : N_Pick_deep[0]? = some ("self" : Str) := rfl; have : N_Pick_deep[1]? = some ("part" : Str) := rfl; have := Env.f_max ‹Env _›))
local macro_rules | `(tactic| walk_at "in_Maybe_init") => `(tactic| (have : N_Maybe_init[0]? = some ("self" : Str) := rfl; have : N_Maybe_init[1]? = some ("part" : Str) := rfl))
local macro_rules | `(tactic| walk_at "in_Maybe_inner") => `(tactic| (have : N_Maybe_inner[0]? = some ("self" : Str) := rfl))
local macro_rules | `(tactic| walk_at "in_Maybe_text") => `(tactic| (have : N_Maybe_text[0]? = some ("self" : Str) := rfl))
local macro_rules | `(tactic| walk_at "in_Maybe_walk") => `(tactic| (have : N_Maybe_walk[0]? = some ("self" : Str) := rfl; have : N_Maybe_walk[1]? = some ("found" : Str) := rfl; have : N_Maybe_walk[2]? = some ("part" : Str) := rfl))
local macro_rules | `(tactic| walk_at "in_Maybe_deep") => `(tactic| (have : N_Maybe_deep[0]? = some ("self" : Str) := rfl; have : N_Maybe_deep[1]? = some ("part" : Str) := rfl; have := Env.f_max ‹Env _›))
local macro_rules | `(tactic| walk_at "in_Maybe_element") => `(tactic| (have : N_Maybe_element[0]? = some ("self" : Str) := rfl))
local macro_rules | `(tactic| walk_at "in_Maybe_way") => `(tactic| (have : N_Maybe_way[0]? = some ("self" : Str) := rfl))
local macro_rules | `(tactic| walk_at "in_Many_init") => `(tactic| (have : N_Many_init[0]? = some ("self" : Str) := rfl; have : N_Many_init[1]? = some ("part" : Str) := rfl; have : N_Many_init[2]? = some ("least" : Str) := rfl))
local macro_rules | `(tactic| walk_at "in_Many_inner") => `(tactic| (have : N_Many_inner[0]? = some ("self" : Str) := rfl))
local macro_rules | `(tactic| walk_at "in_Many_text") => `(tactic| (have : N_Many_text[0]? = some ("self" : Str) := rfl))
local macro_rules | `(tactic| walk_at "in_Many_walk") => `(tactic| (have : N_Many_walk[0]? = some ("self" : Str) := rfl; have : N_Many_walk[1]? = some ("found" : Str) := rfl; have : N_Many_walk[2]? = some ("part" : Str) := rfl))
local macro_rules | `(tactic| walk_at "in_Many_deep") => `(tactic| (have : N_Many_deep[0]? = some ("self" : Str) := rfl; have : N_Many_deep[1]? = some ("part" : Str) := rfl; have := Env.f_max ‹Env _›))
local macro_rules | `(tactic| walk_at "in_Many_element") => `(tactic| (have : N_Many_element[0]? = some ("self" : Str) := rfl))
local macro_rules | `(tactic| walk_at "in_Many_way") => `(tactic| (have : N_Many_way[0]? = some ("self" : Str) := rfl))
local macro_rules | `(tactic| walk_at "in_law_of") => `(tactic| (have : N_law_of[0]? = some ("_law_script" : Str) := rfl; have : N_law_of[1]? = some ("_law_k" : Str) := rfl))
local macro_rules | `(tactic| walk_at "in_law_mixed") => `(tactic| (have : N_law_mixed[0]? = some ("_law_script" : Str) := rfl; have : N_law_mixed[1]? = some ("_law_k" : Str) := rfl; have : N_law_mixed[2]? = some ("_law_cell" : Str) := rfl; have := Env.f_max ‹Env _›; have := Env.f_len ‹Env _›))
local macro_rules | `(tactic| walk_at "in_law_turned") => `(tactic| (have : N_law_turned[0]? = some ("_law_number" : Str) := rfl; have : N_law_turned[1]? = some ("_law_k" : Str) := rfl))
local macro_rules | `(tactic| walk_at "in_law_word") => `(tactic| (have : N_law_word[0]? = some ("_law_seed" : Str) := rfl; have : N_law_word[1]? = some ("_law_k" : Str) := rfl; have : N_law_word[2]? = some ("_law_letters" : Str) := rfl; have : N_law_word[3]? = some ("_law_more" : Str) := rfl; have : N_law_word[4]? = some ("_law_tail" : Str) := rfl; have : N_law_word[5]? = some ("_law_j" : Str) := rfl; have : N_law_word[6]? = some ("_law_at" : Str) := rfl; have := Env.f_range ‹Env _›; have := Env.f_len ‹Env _›))
local macro_rules | `(tactic| walk_at "in_law_sign") => `(tactic| (have : N_law_sign[0]? = some ("_law_seed" : Str) := rfl; have : N_law_sign[1]? = some ("_law_k" : Str) := rfl; have : N_law_sign[2]? = some ("_law_marks" : Str) := rfl; have : N_law_sign[3]? = some ("_law_first" : Str) := rfl; have : N_law_sign[4]? = some ("_law_way" : Str) := rfl; have := Env.g_law_word ‹Env _›))
local macro_rules | `(tactic| walk_at "in_law_part") => `(tactic| (have : N_law_part[0]? = some ("_law_number" : Str) := rfl; have : N_law_part[1]? = some ("_law_deep_here" : Str) := rfl; have : N_law_part[2]? = some ("_law_names" : Str) := rfl; have : N_law_part[3]? = some ("_law_signs" : Str) := rfl; have : N_law_part[4]? = some ("_law_way" : Str) := rfl; have : N_law_part[5]? = some ("_law_more" : Str) := rfl; have : N_law_part[6]? = some ("_law_size" : Str) := rfl; have : N_law_part[7]? = some ("_law_parts" : Str) := rfl; have : N_law_part[8]? = some ("_law_j" : Str) := rfl; have : N_law_part[9]? = some ("_law_one" : Str) := rfl; have := Env.f_len ‹Env _›; have := Env.f_min ‹Env _›; have := Env.f_int ‹Env _›; have := Env.g_law_part ‹Env _›; have := Env.g_law_turned ‹Env _›; have := Env.f_range ‹Env _›))
local macro_rules | `(tactic| walk_at "in_law_inner") => `(tactic| (have : N_law_inner[0]? = some ("_law_part_here" : Str) := rfl; have := Env.f_list ‹Env _›))
local macro_rules | `(tactic| walk_at "in_law_walk") => `(tactic| (have : N_law_walk[0]? = some ("_law_part_here" : Str) := rfl; have : N_law_walk[1]? = some ("_law_found" : Str) := rfl; have : N_law_walk[2]? = some ("_law_one" : Str) := rfl; have := Env.g_law_inner ‹Env _›; have := Env.g_law_walk ‹Env _›))
local macro_rules | `(tactic| walk_at "in_law_text") => `(tactic| (have : N_law_text[0]? = some ("_law_part_here" : Str) := rfl; have : N_law_text[1]? = some ("_law_one" : Str) := rfl; have : N_law_text[2]? = some ("_law_texts" : Str) := rfl; have : N_law_text[3]? = some ("_law_wide" : Str) := rfl; have := Env.g_law_text ‹Env _›; have := Env.f_len ‹Env _›))
local macro_rules | `(tactic| walk_at "in_law_built") => `(tactic| (have : N_law_built[0]? = some ("_law_part_here" : Str) := rfl; have : N_law_built[1]? = some ("_law_parts" : Str) := rfl; have : N_law_built[2]? = some ("_law_one" : Str) := rfl; have : N_law_built[3]? = some ("_law_found" : Str) := rfl; have := Env.g_Sign ‹Env _›; have := Env.g_Name ‹Env _›; have := Env.g_law_built ‹Env _›; have := Env.g_Row ‹Env _›; have := Env.g_Pick ‹Env _›; have := Env.g_Maybe ‹Env _›; have := Env.g_Many ‹Env _›))
local macro_rules | `(tactic| walk_at "in_law_back") => `(tactic| (have : N_law_back[0]? = some ("_law_part_here" : Str) := rfl; have : N_law_back[1]? = some ("_law_own" : Str) := rfl; have : N_law_back[2]? = some ("_law_one" : Str) := rfl; have := Env.f_isinstance ‹Env _›; have := Env.g_Sign ‹Env _›; have := Env.g_Name ‹Env _›; have := Env.g_Row ‹Env _›; have := Env.g_Pick ‹Env _›; have := Env.g_Maybe ‹Env _›; have := Env.g_Many ‹Env _›; have := Env.g_Part ‹Env _›; have := Env.f_list ‹Env _›; have := Env.f_int ‹Env _›; have := Env.g_law_back ‹Env _›; have := Env.f_bool ‹Env _›))
local macro_rules | `(tactic| walk_at "in_law_deep") => `(tactic| (have : N_law_deep[0]? = some ("_law_part_here" : Str) := rfl; have : N_law_deep[1]? = some ("_law_one" : Str) := rfl; have := Env.f_max ‹Env _›; have := Env.g_law_deep ‹Env _›; have := Env.g_law_inner ‹Env _›))
local macro_rules | `(tactic| walk_at "in_law_is_so") => `(tactic| (have : N_law_is_so[0]? = some ("_law_found" : Str) := rfl; have : N_law_is_so[1]? = some ("_law_part_here" : Str) := rfl; have : N_law_is_so[2]? = some ("_law_inner_here" : Str) := rfl; have : N_law_is_so[3]? = some ("_law_walk_here" : Str) := rfl; have : N_law_is_so[4]? = some ("_law_one" : Str) := rfl; have : N_law_is_so[5]? = some ("_law_deep_here" : Str) := rfl; have : N_law_is_so[6]? = some ("_law_text_here" : Str) := rfl; have := Env.f_isinstance ‹Env _›; have := Env.f_list ‹Env _›; have := Env.g_law_back ‹Env _›; have := Env.g_law_inner ‹Env _›; have := Env.g_law_walk ‹Env _›; have := Env.f_bool ‹Env _›; have := Env.f_int ‹Env _›; have := Env.g_law_deep ‹Env _›; have := Env.f_str ‹Env _›; have := Env.g_law_text ‹Env _›))
local macro_rules | `(tactic| walk_at "in_law") => `(tactic| (have : N_law[0]? = some ("_law_script" : Str) := rfl; have : N_law[1]? = some ("_law_names" : Str) := rfl; have : N_law[2]? = some ("_law_k" : Str) := rfl; have : N_law[3]? = some ("_law_signs" : Str) := rfl; have : N_law[4]? = some ("_law_number" : Str) := rfl; have : N_law[5]? = some ("_law_part_here" : Str) := rfl; have : N_law[6]? = some ("_law_found" : Str) := rfl; have : N_law[7]? = some ("_law_turn" : Str) := rfl; have : N_law[8]? = some ("_law_bare" : Str) := rfl; have := Env.g_law_word ‹Env _›; have := Env.g_law_of ‹Env _›; have := Env.f_range ‹Env _›; have := Env.g_law_sign ‹Env _›; have := Env.g_law_mixed ‹Env _›; have := Env.g_law_part ‹Env _›; have := Env.g_law_built ‹Env _›; have := Env.g_law_back ‹Env _›; have := Env.g_law_is_so ‹Env _›; have := Env.g_Row ‹Env _›; have := Env.g_Many ‹Env _›; have := Env.g_Sign ‹Env _›))
local macro_rules | `(tactic| walk_at "cf") => `(tactic| first | (with_reducible exact Env.c_Part ‹Env _›) | (with_reducible exact Env.c_Sign ‹Env _›) | (with_reducible exact Env.n_Sign_sign ‹Env _›) | (with_reducible exact Env.c_Name ‹Env _›) | (with_reducible exact Env.n_Name_name ‹Env _›) | (with_reducible exact Env.c_Row ‹Env _›) | (with_reducible exact Env.n_Row_parts ‹Env _›) | (with_reducible exact Env.c_Pick ‹Env _›) | (with_reducible exact Env.n_Pick_parts ‹Env _›) | (with_reducible exact Env.c_Maybe ‹Env _›) | (with_reducible exact Env.n_Maybe_part ‹Env _›) | (with_reducible exact Env.c_Many ‹Env _›) | (with_reducible exact Env.n_Many_part ‹Env _›) | (with_reducible exact Env.n_Many_least ‹Env _›) | (with_reducible exact Env.m_Part_inner ‹Env _›) | (with_reducible exact Env.m_Part_walk ‹Env _›) | (with_reducible exact Env.m_Part_deep ‹Env _›) | (with_reducible exact Env.m_Part_text ‹Env _›) | (with_reducible exact Env.m_Part_element ‹Env _›) | (with_reducible exact Env.m_Part_way ‹Env _›) | (with_reducible exact Env.mk_Sign ‹Env _›) | (with_reducible exact Env.m_Sign_text ‹Env _›) | (with_reducible exact Env.m_Sign_inner ‹Env _›) | (with_reducible exact Env.m_Sign_walk ‹Env _›) | (with_reducible exact Env.m_Sign_deep ‹Env _›) | (with_reducible exact Env.m_Sign_element ‹Env _›) | (with_reducible exact Env.m_Sign_way ‹Env _›) | (with_reducible exact Env.mk_Name ‹Env _›) | (with_reducible exact Env.m_Name_text ‹Env _›) | (with_reducible exact Env.m_Name_inner ‹Env _›) | (with_reducible exact Env.m_Name_walk ‹Env _›) | (with_reducible exact Env.m_Name_deep ‹Env _›) | (with_reducible exact Env.m_Name_element ‹Env _›) | (with_reducible exact Env.m_Name_way ‹Env _›) | (with_reducible exact Env.mk_Row ‹Env _›) | (with_reducible exact Env.m_Row_inner ‹Env _›) | (with_reducible exact Env.m_Row_text ‹Env _›) | (with_reducible exact Env.m_Row_element ‹Env _›) | (with_reducible exact Env.m_Row_walk ‹Env _›) | (with_reducible exact Env.m_Row_deep ‹Env _›) | (with_reducible exact Env.m_Row_way ‹Env _›) | (with_reducible exact Env.mk_Pick ‹Env _›) | (with_reducible exact Env.m_Pick_inner ‹Env _›) | (with_reducible exact Env.m_Pick_text ‹Env _›) | (with_reducible exact Env.m_Pick_element ‹Env _›) | (with_reducible exact Env.m_Pick_way ‹Env _›) | (with_reducible exact Env.m_Pick_walk ‹Env _›) | (with_reducible exact Env.m_Pick_deep ‹Env _›) | (with_reducible exact Env.mk_Maybe ‹Env _›) | (with_reducible exact Env.m_Maybe_inner ‹Env _›) | (with_reducible exact Env.m_Maybe_text ‹Env _›) | (with_reducible exact Env.m_Maybe_walk ‹Env _›) | (with_reducible exact Env.m_Maybe_deep ‹Env _›) | (with_reducible exact Env.m_Maybe_element ‹Env _›) | (with_reducible exact Env.m_Maybe_way ‹Env _›) | (with_reducible exact Env.mk_Many ‹Env _›) | (with_reducible exact Env.m_Many_inner ‹Env _›) | (with_reducible exact Env.m_Many_text ‹Env _›) | (with_reducible exact Env.m_Many_walk ‹Env _›) | (with_reducible exact Env.m_Many_deep ‹Env _›) | (with_reducible exact Env.m_Many_element ‹Env _›) | (with_reducible exact Env.m_Many_way ‹Env _›))
abbrev kv_CLASSES : D := .tup ((["WORD", "FIGURES"] : List Str).map D.str)
def i_Part_inner : Nat := 0
def i_Part_walk : Nat := 1
def i_Part_deep : Nat := 2
def i_Part_text : Nat := 3
def i_Part_element : Nat := 4
def i_Part_way : Nat := 5
def i_Sign_init : Nat := 6
def i_Sign_text : Nat := 7
def i_Sign_inner : Nat := 8
def i_Sign_walk : Nat := 9
def i_Sign_deep : Nat := 10
def i_Sign_element : Nat := 11
def i_Sign_way : Nat := 12
def i_Name_init : Nat := 13
def i_Name_text : Nat := 14
def i_Name_inner : Nat := 15
def i_Name_walk : Nat := 16
def i_Name_deep : Nat := 17
def i_Name_element : Nat := 18
def i_Name_way : Nat := 19
def i_Row_init : Nat := 20
def i_Row_inner : Nat := 21
def i_Row_text : Nat := 22
def i_Row_element : Nat := 23
def i_Row_walk : Nat := 24
def i_Row_deep : Nat := 25
def i_Row_way : Nat := 26
def i_Pick_init : Nat := 27
def i_Pick_inner : Nat := 28
def i_Pick_text : Nat := 29
def i_Pick_element : Nat := 30
def i_Pick_way : Nat := 31
def i_Pick_walk : Nat := 32
def i_Pick_deep : Nat := 33
def i_Maybe_init : Nat := 34
def i_Maybe_inner : Nat := 35
def i_Maybe_text : Nat := 36
def i_Maybe_walk : Nat := 37
def i_Maybe_deep : Nat := 38
def i_Maybe_element : Nat := 39
def i_Maybe_way : Nat := 40
def i_Many_init : Nat := 41
def i_Many_inner : Nat := 42
def i_Many_text : Nat := 43
def i_Many_walk : Nat := 44
def i_Many_deep : Nat := 45
def i_Many_element : Nat := 46
def i_Many_way : Nat := 47
def i_law_of : Nat := 48
def i_law_mixed : Nat := 49
def i_law_turned : Nat := 50
def i_law_word : Nat := 51
def i_law_sign : Nat := 52
def i_law_part : Nat := 53
def i_law_inner : Nat := 54
def i_law_walk : Nat := 55
def i_law_text : Nat := 56
def i_law_built : Nat := 57
def i_law_back : Nat := 58
def i_law_deep : Nat := 59
def i_law_is_so : Nat := 60
def i_law : Nat := 61
def tb : Tab := { fa := fa, fn := [((d_Part_inner, ["self"]) : He.DefD × List Str), ((d_Part_walk, ["self"]) : He.DefD × List Str), ((d_Part_deep, ["self"]) : He.DefD × List Str), ((d_Part_text, ["self"]) : He.DefD × List Str), ((d_Part_element, ["self"]) : He.DefD × List Str), ((d_Part_way, ["self"]) : He.DefD × List Str), ((d_Sign_init, ["self", "sign"]) : He.DefD × List Str), ((d_Sign_text, ["self"]) : He.DefD × List Str), ((d_Sign_inner, ["self"]) : He.DefD × List Str), ((d_Sign_walk, ["self"]) : He.DefD × List Str), ((d_Sign_deep, ["self"]) : He.DefD × List Str), ((d_Sign_element, ["self"]) : He.DefD × List Str), ((d_Sign_way, ["self"]) : He.DefD × List Str), ((d_Name_init, ["self", "name"]) : He.DefD × List Str), ((d_Name_text, ["self"]) : He.DefD × List Str), ((d_Name_inner, ["self"]) : He.DefD × List Str), ((d_Name_walk, ["self"]) : He.DefD × List Str), ((d_Name_deep, ["self"]) : He.DefD × List Str), ((d_Name_element, ["self"]) : He.DefD × List Str), ((d_Name_way, ["self"]) : He.DefD × List Str), ((d_Row_init, ["self", "parts"]) : He.DefD × List Str), ((d_Row_inner, ["self"]) : He.DefD × List Str), ((d_Row_text, ["self"]) : He.DefD × List Str), ((d_Row_element, ["self"]) : He.DefD × List Str), ((d_Row_walk, ["self"]) : He.DefD × List Str), ((d_Row_deep, ["self"]) : He.DefD × List Str), ((d_Row_way, ["self"]) : He.DefD × List Str), ((d_Pick_init, ["self", "parts"]) : He.DefD × List Str), ((d_Pick_inner, ["self"]) : He.DefD × List Str), ((d_Pick_text, ["self"]) : He.DefD × List Str), ((d_Pick_element, ["self"]) : He.DefD × List Str), ((d_Pick_way, ["self"]) : He.DefD × List Str), ((d_Pick_walk, ["self"]) : He.DefD × List Str), ((d_Pick_deep, ["self"]) : He.DefD × List Str), ((d_Maybe_init, ["self", "part"]) : He.DefD × List Str), ((d_Maybe_inner, ["self"]) : He.DefD × List Str), ((d_Maybe_text, ["self"]) : He.DefD × List Str), ((d_Maybe_walk, ["self"]) : He.DefD × List Str), ((d_Maybe_deep, ["self"]) : He.DefD × List Str), ((d_Maybe_element, ["self"]) : He.DefD × List Str), ((d_Maybe_way, ["self"]) : He.DefD × List Str), ((d_Many_init, ["self", "part", "least"]) : He.DefD × List Str), ((d_Many_inner, ["self"]) : He.DefD × List Str), ((d_Many_text, ["self"]) : He.DefD × List Str), ((d_Many_walk, ["self"]) : He.DefD × List Str), ((d_Many_deep, ["self"]) : He.DefD × List Str), ((d_Many_element, ["self"]) : He.DefD × List Str), ((d_Many_way, ["self"]) : He.DefD × List Str), ((d_law_of, ["_law_script", "_law_k"]) : He.DefD × List Str), ((d_law_mixed, ["_law_script", "_law_k"]) : He.DefD × List Str), ((d_law_turned, ["_law_number", "_law_k"]) : He.DefD × List Str), ((d_law_word, ["_law_seed", "_law_k"]) : He.DefD × List Str), ((d_law_sign, ["_law_seed", "_law_k"]) : He.DefD × List Str), ((d_law_part, ["_law_number", "_law_deep_here", "_law_names", "_law_signs"]) : He.DefD × List Str), ((d_law_inner, ["_law_part_here"]) : He.DefD × List Str), ((d_law_walk, ["_law_part_here"]) : He.DefD × List Str), ((d_law_text, ["_law_part_here"]) : He.DefD × List Str), ((d_law_built, ["_law_part_here"]) : He.DefD × List Str), ((d_law_back, ["_law_part_here"]) : He.DefD × List Str), ((d_law_deep, ["_law_part_here"]) : He.DefD × List Str), ((d_law_is_so, ["_law_found", "_law_part_here"]) : He.DefD × List Str), ((d_law, ["_law_script"]) : He.DefD × List Str)], isi := isiL, isk := iskL }
noncomputable def f_Part_inner (call : Orc) (a_self : T) : Sh T := (newLst [])
noncomputable def f_Part_walk (call : Orc) (a_self : T) : Sh T := bnd (newLst [a_self]) fun v_found_1 => bnd (bnd (bnd (bnd (bnd (opM tb "inner" a_self) fun i4 => call i4 [a_self]) frz) itT) fun its10 => forN (fun x_5 (s2 : T) => bnd (bnd (ret s2) fun u8 => bnd (bnd (bnd (opM tb "walk" x_5) fun i7 => call i7 [x_5]) frz) fun u9 => opAddO u8 u9) fun v_found_6 => ret v_found_6) its10 v_found_1) fun q3 => (ret q3)
noncomputable def f_Part_deep (call : Orc) (a_self : T) : Sh T := (bnd (ret (.int 1)) fun u6 => bnd (bnd (compS (bnd (bnd (bnd (opM tb "inner" a_self) fun i1 => call i1 [a_self]) frz) itT) (fun x_2 => toD (bnd (opM tb "deep" x_2) fun i3 => call i3 [x_2]))) fun u4 => bnd (ret (.int 0)) fun u5 => opMaxD u4 u5) fun u7 => opAdd u6 u7)
noncomputable def f_Part_text (call : Orc) (a_self : T) : Sh T := (ret (.str ""))
noncomputable def f_Part_element (call : Orc) (a_self : T) : Sh T := (bnd (opM tb "text" a_self) fun i1 => call i1 [a_self])
noncomputable def f_Part_way (call : Orc) (a_self : T) : Sh T := (bnd (opM tb "text" a_self) fun i1 => call i1 [a_self])
noncomputable def f_Sign_init (call : Orc) (a_self : T) (a_sign : T) : Sh Unit := bnd (bnd (ret a_sign) fun u2 => bnd (ret a_self) fun u1 => setFld tb "sign" u1 u2) fun _ => ret ()
noncomputable def f_Sign_text (call : Orc) (a_self : T) : Sh T := iff (tst (bnd (opFld tb "sign" a_self) fun u1 => bnd (ret (.dat kv_CLASSES)) fun u2 => opIn u1 u2)) (opFld tb "sign" a_self) (bnd (bnd (ret (.str "'")) fun u3 => bnd (opFld tb "sign" a_self) fun u4 => opAdd u3 u4) fun u5 => bnd (ret (.str "'")) fun u6 => opAdd u5 u6)
noncomputable def f_Name_init (call : Orc) (a_self : T) (a_name : T) : Sh Unit := bnd (bnd (ret a_name) fun u2 => bnd (ret a_self) fun u1 => setFld tb "name" u1 u2) fun _ => ret ()
noncomputable def f_Name_text (call : Orc) (a_self : T) : Sh T := (opFld tb "name" a_self)
noncomputable def f_Row_init (call : Orc) (a_self : T) (a_parts : T) : Sh Unit := bnd (bnd (mkLst []) fun u2 => bnd (ret a_self) fun u1 => setFld tb "parts" u1 u2) fun _ => bnd (iff (tst (opNotN a_parts)) (bnd (bnd (fListK [a_parts]) fun u5 => bnd (ret a_self) fun u4 => setFld tb "parts" u4 u5) fun _ => ret ()) (ret ()) : Sh (Unit)) fun p3 => ret ()
noncomputable def f_Row_inner (call : Orc) (a_self : T) : Sh T := (bnd (bnd (opFld tb "parts" a_self) fun u1 => bnd (ret []) fun us2 => ret (u1 :: us2)) (fListO))
noncomputable def f_Row_text (call : Orc) (a_self : T) : Sh T := bnd (bnd (ret (.str " ")) fun u4 => bnd (compS (bnd (opFld tb "parts" a_self) itT) (fun x_2 => toD (bnd (opM tb "element" x_2) fun i3 => call i3 [x_2]))) fun u5 => opJoin u4 u5) fun v_found_1 => iff (tst (bnd (bnd (bnd (opFld tb "parts" a_self) fun u6 => bnd (ret []) fun us7 => ret (u6 :: us7)) (fLen)) fun u8 => bnd (ret (.int 2)) fun u9 => opLt u8 u9)) (bnd (opAdd (.str "(") v_found_1) fun u10 => bnd (ret (.str ")")) fun u11 => opAdd u10 u11) (ret v_found_1)
noncomputable def f_Row_element (call : Orc) (a_self : T) : Sh T := iff (tst (bnd (bnd (bnd (opFld tb "parts" a_self) fun u1 => bnd (ret []) fun us2 => ret (u1 :: us2)) (fLen)) fun u3 => bnd (ret (.int 2)) fun u4 => opLt u3 u4)) (bnd (opM tb "text" a_self) fun i5 => call i5 [a_self]) (bnd (bnd (ret (.str "(")) fun u7 => bnd (bnd (opM tb "text" a_self) fun i6 => call i6 [a_self]) fun u8 => opAdd u7 u8) fun u9 => bnd (ret (.str ")")) fun u10 => opAdd u9 u10)
noncomputable def f_Pick_init (call : Orc) (a_self : T) (a_parts : T) : Sh Unit := bnd (bnd (fListK [a_parts]) fun u2 => bnd (ret a_self) fun u1 => setFld tb "parts" u1 u2) fun _ => ret ()
noncomputable def f_Pick_inner (call : Orc) (a_self : T) : Sh T := (bnd (bnd (opFld tb "parts" a_self) fun u1 => bnd (ret []) fun us2 => ret (u1 :: us2)) (fListO))
noncomputable def f_Pick_text (call : Orc) (a_self : T) : Sh T := (bnd (ret (.str " | ")) fun u3 => bnd (compS (bnd (opFld tb "parts" a_self) itT) (fun x_1 => toD (bnd (opM tb "way" x_1) fun i2 => call i2 [x_1]))) fun u4 => opJoin u3 u4)
noncomputable def f_Pick_element (call : Orc) (a_self : T) : Sh T := (bnd (bnd (ret (.str "(")) fun u2 => bnd (bnd (opM tb "text" a_self) fun i1 => call i1 [a_self]) fun u3 => opAdd u2 u3) fun u4 => bnd (ret (.str ")")) fun u5 => opAdd u4 u5)
noncomputable def f_Pick_way (call : Orc) (a_self : T) : Sh T := (bnd (bnd (ret (.str "(")) fun u2 => bnd (bnd (opM tb "text" a_self) fun i1 => call i1 [a_self]) fun u3 => opAdd u2 u3) fun u4 => bnd (ret (.str ")")) fun u5 => opAdd u4 u5)
noncomputable def f_Maybe_init (call : Orc) (a_self : T) (a_part : T) : Sh Unit := bnd (bnd (ret a_part) fun u2 => bnd (ret a_self) fun u1 => setFld tb "part" u1 u2) fun _ => ret ()
noncomputable def f_Maybe_inner (call : Orc) (a_self : T) : Sh T := (bnd (bnd (opFld tb "part" a_self) fun u1 => bnd (ret []) fun us2 => ret (u1 :: us2)) (newLst))
noncomputable def f_Maybe_text (call : Orc) (a_self : T) : Sh T := (bnd (bnd (ret (.str "[")) fun u3 => bnd (bnd (opFld tb "part" a_self) fun u2 => bnd (opM tb "text" u2) fun i1 => call i1 [u2]) fun u4 => opAdd u3 u4) fun u5 => bnd (ret (.str "]")) fun u6 => opAdd u5 u6)
noncomputable def f_Many_init (call : Orc) (a_self : T) (a_part : T) (a_least : T) : Sh Unit := bnd (bnd (ret a_part) fun u2 => bnd (ret a_self) fun u1 => setFld tb "part" u1 u2) fun _ => bnd (bnd (ret a_least) fun u4 => bnd (ret a_self) fun u3 => setFld tb "least" u3 u4) fun _ => ret ()
noncomputable def f_Many_inner (call : Orc) (a_self : T) : Sh T := (bnd (bnd (opFld tb "part" a_self) fun u1 => bnd (ret []) fun us2 => ret (u1 :: us2)) (newLst))
noncomputable def f_Many_text (call : Orc) (a_self : T) : Sh T := (bnd (bnd (bnd (ret (.str "{")) fun u3 => bnd (bnd (opFld tb "part" a_self) fun u2 => bnd (opM tb "text" u2) fun i1 => call i1 [u2]) fun u4 => opAdd u3 u4) fun u5 => bnd (ret (.str "}")) fun u6 => opAdd u5 u6) fun u9 => bnd (bnd (ret (.str "+")) fun u7 => bnd (opFld tb "least" a_self) fun u8 => opMul u7 u8) fun u10 => opAdd u9 u10)
noncomputable def f_law_of (call : Orc) (a_script : T) (a_k : T) : Sh T := (bnd (bnd (bnd (bnd (ret a_script) fun u1 => bnd (bndI (ret a_k)) fun u2 => bnd (bndI (opAdd a_k (.int 1))) fun u3 => opSl u1 u2 u3) fun u4 => bnd (mkLst [.int 0]) fun u5 => opAdd u4 u5) fun u6 => bnd (ret (.int 0)) fun u7 => opIx u6 u7) fun u8 => bnd (opPow (.int 10) (.int 60)) fun u9 => opMod u8 u9)
noncomputable def f_law_mixed (call : Orc) (a_script : T) (a_k : T) : Sh T := bnd (bnd (bnd (ret a_script) fun u2 => bnd (mkLst [.int 0]) fun u3 => opAdd u2 u3) fun u10 => bnd (bnd (ret a_k) fun u8 => bnd (bnd (bnd (ret (.int 1)) fun u6 => bnd (bnd (fLen [a_script]) fun u4 => bnd (ret []) fun us5 => ret (u4 :: us5)) fun us7 => ret (u6 :: us7)) (fMax)) fun u9 => opMod u8 u9) fun u11 => opIx u10 u11) fun v_cell_1 => (bnd (bnd (bnd (opAdd v_cell_1 (.int 1)) fun u14 => bnd (bnd (opMul (.int 1009) a_k) fun u12 => bnd (ret a_k) fun u13 => opMul u12 u13) fun u15 => opAdd u14 u15) fun u18 => bnd (bnd (ret (.int 48271)) fun u16 => bnd (opMul (.int 2) a_k) fun u17 => opAdd u16 u17) fun u19 => opMul u18 u19) fun u20 => bnd (ret (.int 2147483647)) fun u21 => opMod u20 u21)
noncomputable def f_law_turned (call : Orc) (a_number : T) (a_k : T) : Sh T := (bnd (bnd (bnd (opAdd a_number (.int 1)) fun u3 => bnd (bnd (opMul (.int 5081) a_k) fun u1 => bnd (ret a_k) fun u2 => opMul u1 u2) fun u4 => opAdd u3 u4) fun u7 => bnd (bnd (mkLst [.int 48271, .int 16807, .int 69621, .int 39373]) fun u5 => bnd (opMod a_k (.int 4)) fun u6 => opIx u5 u6) fun u8 => opMul u7 u8) fun u9 => bnd (ret (.int 2147483647)) fun u10 => opMod u9 u10)
noncomputable def f_law_word (call : Orc) (a_seed : T) (a_k : T) : Sh T := bnd (ret (.str "abcdefhilmnorstu")) fun v_letters_1 => bnd (bnd (opDiv a_seed (.int 2)) fun u7 => bnd (bnd (bnd (opMul a_k a_k) fun u3 => bnd (ret (.int 4621)) fun u4 => opMul u3 u4) fun u5 => bnd (opMod a_seed (.int 2)) fun u6 => opMul u5 u6) fun u8 => opAdd u7 u8) fun v_more_2 => bnd (bnd (ret (.str "")) fun u17 => bnd (compS (bnd (opMod v_more_2 (.int 7)) rg1) (fun x_10 => toD (bnd (ret v_letters_1) fun u15 => bnd (bnd (bnd (ret v_more_2) fun u11 => bnd (opMul (.int 5) x_10) fun u12 => opAdd u11 u12) fun u13 => bnd (ret (.int 16)) fun u14 => opMod u13 u14) fun u16 => opIx u15 u16))) fun u18 => opJoin u17 u18) fun v_tail_9 => bnd (bnd (opDiv a_seed (.int 14)) fun u22 => bnd (bnd (fLen [v_tail_9]) fun u20 => bnd (ret (.int 1)) fun u21 => opAdd u20 u21) fun u23 => opMod u22 u23) fun v_at_19 => (bnd (bnd (bnd (bnd (ret v_tail_9) fun u24 => bnd (ret none) fun u25 => bnd (bndI (ret v_at_19)) fun u26 => opSl u24 u25 u26) fun u29 => bnd (bnd (ret (.str "jkpqvwxyz")) fun u27 => bnd (opMod a_k (.int 9)) fun u28 => opIx u27 u28) fun u30 => opAdd u29 u30) fun u35 => bnd (bnd (ret (.str "q")) fun u33 => bnd (bnd (opDiv a_k (.int 9)) fun u31 => bnd (ret (.int 2)) fun u32 => opMod u31 u32) fun u34 => opMul u33 u34) fun u36 => opAdd u35 u36) fun u40 => bnd (bnd (ret v_tail_9) fun u37 => bnd (bndI (ret v_at_19)) fun u38 => bnd (ret none) fun u39 => opSl u37 u38 u39) fun u41 => opAdd u40 u41)
noncomputable def f_law_sign (call : Orc) (a_seed : T) (a_k : T) : Sh T := bnd (ret (.str "()[]{},;:.+-*/<>=!&^~@#$?")) fun v_marks_1 => bnd (bnd (ret v_marks_1) fun u7 => bnd (bnd (bnd (opDiv a_seed (.int 81)) fun u3 => bnd (opMul (.int 7) a_k) fun u4 => opAdd u3 u4) fun u5 => bnd (ret (.int 25)) fun u6 => opMod u5 u6) fun u8 => opIx u7 u8) fun v_first_2 => bnd (bnd (bnd (ret a_seed) fun u12 => bnd (bnd (mkLst [.int 1, .int 3, .int 9, .int 27]) fun u10 => bnd (opMod a_k (.int 4)) fun u11 => opIx u10 u11) fun u13 => opDiv u12 u13) fun u14 => bnd (ret (.int 3)) fun u15 => opMod u14 u15) fun v_way_9 => (bnd (bnd (bnd (ret v_first_2) fun u34 => bnd (bnd (bnd (ret v_first_2) fun u24 => bnd (bnd (ret v_marks_1) fun u22 => bnd (bnd (bnd (bnd (opDiv a_seed (.int 5)) fun u16 => bnd (opMul (.int 11) a_k) fun u17 => opAdd u16 u17) fun u18 => bnd (ret (.int 3)) fun u19 => opAdd u18 u19) fun u20 => bnd (ret (.int 25)) fun u21 => opMod u20 u21) fun u23 => opIx u22 u23) fun u25 => opAdd u24 u25) fun u32 => bnd (bnd (bnd (bnd (opDiv a_seed (.int 2)) fun u28 => bnd (bnd (ret a_k) fun u26 => bnd (ret []) fun us27 => ret (u26 :: us27)) fun us29 => ret (u28 :: us29)) (call i_law_word)) fun u30 => bnd (ret []) fun us31 => ret (u30 :: us31)) fun us33 => ret (u32 :: us33)) fun us35 => ret (u34 :: us35)) (mkLst)) fun u36 => bnd (ret v_way_9) fun u37 => opIx u36 u37)
noncomputable def f_law_part (call : Orc) (a_number : T) (a_deep_here : T) (a_names : T) (a_signs : T) : Sh T := bnd (opMod a_number (.int 9)) fun v_way_1 => bnd (opDiv a_number (.int 9)) fun v_more_2 => iff (orB (tst (opLt v_way_1 (.int 3))) (tst (opLt a_deep_here (.int 1)))) (bnd (bnd (ret (.str "sign")) fun u9 => bnd (bnd (bnd (ret a_signs) fun u5 => bnd (bnd (ret v_more_2) fun u3 => bnd (fLen [a_signs]) fun u4 => opMod u3 u4) fun u6 => opIx u5 u6) fun u7 => bnd (ret []) fun us8 => ret (u7 :: us8)) fun us10 => ret (u9 :: us10)) (mkTup)) (iff (tst (opLt v_way_1 (.int 5))) (bnd (bnd (ret (.str "name")) fun u17 => bnd (bnd (bnd (ret a_names) fun u13 => bnd (bnd (ret v_more_2) fun u11 => bnd (fLen [a_names]) fun u12 => opMod u11 u12) fun u14 => opIx u13 u14) fun u15 => bnd (ret []) fun us16 => ret (u15 :: us16)) fun us18 => ret (u17 :: us18)) (mkTup)) (iff (tst (opLt v_way_1 (.int 7))) (bnd (bnd (ret (.int 2)) fun u20 => bnd (opMod v_more_2 (.int 2)) fun u21 => opAdd u20 u21) fun v_size_19 => bnd (iff (tst (opEq v_way_1 (.int 5))) (bnd (bnd (mkLst [.int 0, .int 1, .int 2, .int 3, .int 2, .int 2]) fun u24 => bnd (opMod v_more_2 (.int 6)) fun u25 => opIx u24 u25) fun v_size_23 => ret v_size_23) (ret v_size_19) : Sh (T)) fun p22 => bnd (bnd (bnd (ret p22) fun u33 => bnd (bnd (bnd (mkLst [.int 3, .int 2]) fun u29 => bnd (bnd (bnd (opEq a_deep_here (.int 2)) fun u27 => bnd (ret []) fun us28 => ret (u27 :: us28)) (fInt)) fun u30 => opIx u29 u30) fun u31 => bnd (ret []) fun us32 => ret (u31 :: us32)) fun us34 => ret (u33 :: us34)) (fMin)) fun v_size_26 => bnd (compS (bnd (ret v_size_26) rg1) (fun x_36 => toD (bnd (bnd (call i_law_turned [v_more_2, x_36]) fun u43 => bnd (bnd (opSub a_deep_here (.int 1)) fun u41 => bnd (bnd (ret a_names) fun u39 => bnd (bnd (ret a_signs) fun u37 => bnd (ret []) fun us38 => ret (u37 :: us38)) fun us40 => ret (u39 :: us40)) fun us42 => ret (u41 :: us42)) fun us44 => ret (u43 :: us44)) (call i_law_part)))) fun v_parts_35 => (bnd (bnd (bnd (mkLst [.str "row", .str "pick"]) fun u45 => bnd (opSub v_way_1 (.int 5)) fun u46 => opIx u45 u46) fun u49 => bnd (bnd (ret v_parts_35) fun u47 => bnd (ret []) fun us48 => ret (u47 :: us48)) fun us50 => ret (u49 :: us50)) (mkTup))) (bnd (bnd (bnd (call i_law_turned [v_more_2, .int 1]) fun u58 => bnd (bnd (opSub a_deep_here (.int 1)) fun u56 => bnd (bnd (ret a_names) fun u54 => bnd (bnd (ret a_signs) fun u52 => bnd (ret []) fun us53 => ret (u52 :: us53)) fun us55 => ret (u54 :: us55)) fun us57 => ret (u56 :: us57)) fun us59 => ret (u58 :: us59)) (call i_law_part)) fun v_one_51 => (iff (tst (opEq v_way_1 (.int 7))) (mkTup [.str "maybe", v_one_51]) (bnd (bnd (ret (.str "many")) fun u64 => bnd (bnd (ret v_one_51) fun u62 => bnd (bnd (opMod v_more_2 (.int 2)) fun u60 => bnd (ret []) fun us61 => ret (u60 :: us61)) fun us63 => ret (u62 :: us63)) fun us65 => ret (u64 :: us65)) (mkTup))))))
noncomputable def f_law_inner (call : Orc) (a_part_here : T) : Sh T := iff (tst (bnd (opIx a_part_here (.int 0)) fun u1 => bnd (mkTup [.str "row", .str "pick"]) fun u2 => opIn u1 u2)) (bnd (bnd (opIx a_part_here (.int 1)) fun u3 => bnd (ret []) fun us4 => ret (u3 :: us4)) (fListK)) (iff (tst (bnd (opIx a_part_here (.int 0)) fun u5 => bnd (mkTup [.str "maybe", .str "many"]) fun u6 => opIn u5 u6)) (bnd (bnd (opIx a_part_here (.int 1)) fun u7 => bnd (ret []) fun us8 => ret (u7 :: us8)) (mkLst)) (mkLst []))
noncomputable def f_law_walk (call : Orc) (a_part_here : T) : Sh T := bnd (mkLst [a_part_here]) fun v_found_1 => bnd (bnd (bnd (call i_law_inner [a_part_here]) itT) fun its8 => forN (fun x_4 (s2 : T) => bnd (bnd (ret s2) fun u6 => bnd (call i_law_walk [x_4]) fun u7 => opAdd u6 u7) fun v_found_5 => ret v_found_5) its8 v_found_1) fun q3 => (ret q3)
noncomputable def f_law_text (call : Orc) (a_part_here : T) : Sh T := iff (tst (bnd (opIx a_part_here (.int 0)) fun u1 => bnd (ret (.str "sign")) fun u2 => opEq u1 u2)) (iff (tst (bnd (opIx a_part_here (.int 1)) fun u3 => bnd (mkTup [.str "WORD", .str "FIGURES"]) fun u4 => opIn u3 u4)) (opIx a_part_here (.int 1)) (bnd (bnd (ret (.str "'")) fun u5 => bnd (opIx a_part_here (.int 1)) fun u6 => opAdd u5 u6) fun u7 => bnd (ret (.str "'")) fun u8 => opAdd u7 u8)) (iff (tst (bnd (opIx a_part_here (.int 0)) fun u9 => bnd (ret (.str "name")) fun u10 => opEq u9 u10)) (opIx a_part_here (.int 1)) (iff (tst (bnd (opIx a_part_here (.int 0)) fun u11 => bnd (ret (.str "maybe")) fun u12 => opEq u11 u12)) (bnd (bnd (ret (.str "[")) fun u15 => bnd (bnd (bnd (opIx a_part_here (.int 1)) fun u13 => bnd (ret []) fun us14 => ret (u13 :: us14)) (call i_law_text)) fun u16 => opAdd u15 u16) fun u17 => bnd (ret (.str "]")) fun u18 => opAdd u17 u18) (iff (tst (bnd (opIx a_part_here (.int 0)) fun u19 => bnd (ret (.str "many")) fun u20 => opEq u19 u20)) (bnd (bnd (bnd (ret (.str "{")) fun u23 => bnd (bnd (bnd (opIx a_part_here (.int 1)) fun u21 => bnd (ret []) fun us22 => ret (u21 :: us22)) (call i_law_text)) fun u24 => opAdd u23 u24) fun u25 => bnd (ret (.str "}")) fun u26 => opAdd u25 u26) fun u29 => bnd (bnd (mkLst [.str "", .str "+"]) fun u27 => bnd (opIx a_part_here (.int 2)) fun u28 => opIx u27 u28) fun u30 => opAdd u29 u30) (iff (tst (bnd (opIx a_part_here (.int 0)) fun u31 => bnd (ret (.str "pick")) fun u32 => opEq u31 u32)) (bnd (ret (.str " | ")) fun u40 => bnd (compS (bnd (opIx a_part_here (.int 1)) itT) (fun x_33 => toD (iff (tst (bnd (opIx x_33 (.int 0)) fun u34 => bnd (ret (.str "pick")) fun u35 => opEq u34 u35)) (bnd (bnd (ret (.str "(")) fun u36 => bnd (call i_law_text [x_33]) fun u37 => opAdd u36 u37) fun u38 => bnd (ret (.str ")")) fun u39 => opAdd u38 u39) (call i_law_text [x_33])))) fun u41 => opJoin u40 u41) (bnd (newLst []) fun v_texts_42 => bnd (bnd (bnd (opIx a_part_here (.int 1)) itT) fun its71 => forN (fun x_55 (s43 : Unit) => bnd (orV (bnd (opIx x_55 (.int 0)) fun u57 => bnd (ret (.str "pick")) fun u58 => opEq u57 u58) (andV (bnd (opIx x_55 (.int 0)) fun u59 => bnd (ret (.str "row")) fun u60 => opEq u59 u60) (bnd (bnd (bnd (opIx x_55 (.int 1)) fun u61 => bnd (ret []) fun us62 => ret (u61 :: us62)) (fLen)) fun u63 => bnd (ret (.int 1)) fun u64 => opGt u63 u64))) fun v_wide_56 => bnd (bnd (ret v_texts_42) fun u69 => bnd (isL u69) fun _ => bnd (iff (tst (ret v_wide_56)) (bnd (bnd (ret (.str "(")) fun u65 => bnd (call i_law_text [x_55]) fun u66 => opAdd u65 u66) fun u67 => bnd (ret (.str ")")) fun u68 => opAdd u67 u68) (call i_law_text [x_55])) fun u70 => opApp u69 u70) fun _ => ret ()) its71 ()) fun q44 => (iff (tst (bnd (fLen [v_texts_42]) fun u45 => bnd (ret (.int 2)) fun u46 => opLt u45 u46)) (bnd (bnd (ret (.str "(")) fun u49 => bnd (bnd (ret (.str " ")) fun u47 => bnd (ret v_texts_42) fun u48 => opJoin u47 u48) fun u50 => opAdd u49 u50) fun u51 => bnd (ret (.str ")")) fun u52 => opAdd u51 u52) (bnd (ret (.str " ")) fun u53 => bnd (ret v_texts_42) fun u54 => opJoin u53 u54)))))))
noncomputable def f_law_built (call : Orc) (a_part_here : T) : Sh T := iff (tst (bnd (opIx a_part_here (.int 0)) fun u1 => bnd (ret (.str "sign")) fun u2 => opEq u1 u2)) (bnd (bnd (opIx a_part_here (.int 1)) fun u3 => bnd (ret []) fun us4 => ret (u3 :: us4)) (mkD call i_Sign_init "Sign")) (iff (tst (bnd (opIx a_part_here (.int 0)) fun u5 => bnd (ret (.str "name")) fun u6 => opEq u5 u6)) (bnd (bnd (opIx a_part_here (.int 1)) fun u7 => bnd (ret []) fun us8 => ret (u7 :: us8)) (mkD call i_Name_init "Name")) (iff (tst (bnd (opIx a_part_here (.int 0)) fun u9 => bnd (mkTup [.str "row", .str "pick"]) fun u10 => opIn u9 u10)) (bnd (compO (bnd (opIx a_part_here (.int 1)) itT) (fun x_12 => toD (call i_law_built [x_12]))) fun v_parts_11 => bnd (iff (tst (bnd (opIx a_part_here (.int 0)) fun u14 => bnd (ret (.str "row")) fun u15 => opEq u14 u15)) (mkD call i_Row_init "Row" [v_parts_11]) (mkD call i_Pick_init "Pick" [v_parts_11])) fun v_found_13 => bnd (bnd (ret v_parts_11) fun u16 => bnd (isL u16) fun _ => bnd (mkD call i_Name_init "Name" [.str "zz"]) fun u17 => opApp u16 u17) fun _ => (ret v_found_13)) (iff (tst (bnd (opIx a_part_here (.int 0)) fun u18 => bnd (ret (.str "maybe")) fun u19 => opEq u18 u19)) (bnd (bnd (bnd (bnd (opIx a_part_here (.int 1)) fun u20 => bnd (ret []) fun us21 => ret (u20 :: us21)) (call i_law_built)) fun u22 => bnd (ret []) fun us23 => ret (u22 :: us23)) (mkD call i_Maybe_init "Maybe")) (bnd (bnd (bnd (bnd (opIx a_part_here (.int 1)) fun u24 => bnd (ret []) fun us25 => ret (u24 :: us25)) (call i_law_built)) fun u28 => bnd (bnd (opIx a_part_here (.int 2)) fun u26 => bnd (ret []) fun us27 => ret (u26 :: us27)) fun us29 => ret (u28 :: us29)) (mkD call i_Many_init "Many")))))
noncomputable def f_law_back (call : Orc) (a_part_here : T) : Sh T := bnd (bnd (bnd (bnd (ret a_part_here) (opIsC tb "Sign")) fun u8 => bnd (bnd (bnd (ret a_part_here) (opIsC tb "Name")) fun u6 => bnd (bnd (bnd (ret a_part_here) (opIsC tb "Row")) fun u4 => bnd (bnd (bnd (ret a_part_here) (opIsC tb "Pick")) fun u2 => bnd (ret []) fun us3 => ret (u2 :: us3)) fun us5 => ret (u4 :: us5)) fun us7 => ret (u6 :: us7)) fun us9 => ret (u8 :: us9)) (mkLst)) fun v_own_1 => bnd (bnd (ret v_own_1) fun u15 => bnd (bnd (bnd (bnd (ret a_part_here) (opIsC tb "Maybe")) fun u13 => bnd (bnd (bnd (ret a_part_here) (opIsC tb "Many")) fun u11 => bnd (ret []) fun us12 => ret (u11 :: us12)) fun us14 => ret (u13 :: us14)) (mkLst)) fun u16 => opAdd u15 u16) fun v_own_10 => iff (orB (notB (tst (bnd (ret a_part_here) (opIsC tb "Part")))) (tst (bnd (bnd (ret v_own_10) fun u17 => opCntB u17 (.bl true)) fun u18 => bnd (ret (.int 1)) fun u19 => opNe u18 u19))) (ret .non) (iff (orB (tst (opIx v_own_10 (.int 0))) (tst (opIx v_own_10 (.int 1)))) (iff (tst (opIx v_own_10 (.int 0))) (bnd (bnd (ret (.str "sign")) fun u22 => bnd (bnd (opFld tb "sign" a_part_here) fun u20 => bnd (ret []) fun us21 => ret (u20 :: us21)) fun us23 => ret (u22 :: us23)) (mkTup)) (bnd (bnd (ret (.str "name")) fun u26 => bnd (bnd (opFld tb "name" a_part_here) fun u24 => bnd (ret []) fun us25 => ret (u24 :: us25)) fun us27 => ret (u26 :: us27)) (mkTup))) (iff (orB (tst (opIx v_own_10 (.int 2))) (tst (opIx v_own_10 (.int 3)))) (iff (notB (tst (bnd (opFld tb "parts" a_part_here) (opIsTy "list")))) (ret .non) (bnd (bnd (bnd (mkLst [.str "row", .str "pick"]) fun u30 => bnd (bnd (bnd (opIx v_own_10 (.int 3)) fun u28 => bnd (ret []) fun us29 => ret (u28 :: us29)) (fInt)) fun u31 => opIx u30 u31) fun u35 => bnd (bnd (compS (bnd (opFld tb "parts" a_part_here) itT) (fun x_32 => toD (call i_law_back [x_32]))) fun u33 => bnd (ret []) fun us34 => ret (u33 :: us34)) fun us36 => ret (u35 :: us36)) (mkTup))) (iff (tst (opIx v_own_10 (.int 4))) (bnd (bnd (ret (.str "maybe")) fun u41 => bnd (bnd (bnd (bnd (opFld tb "part" a_part_here) fun u37 => bnd (ret []) fun us38 => ret (u37 :: us38)) (call i_law_back)) fun u39 => bnd (ret []) fun us40 => ret (u39 :: us40)) fun us42 => ret (u41 :: us42)) (mkTup)) (iff (notB (tst (bnd (opFld tb "least" a_part_here) (opIsTy "bool")))) (bnd (bnd (ret (.str "many")) fun u49 => bnd (bnd (bnd (bnd (opFld tb "part" a_part_here) fun u43 => bnd (ret []) fun us44 => ret (u43 :: us44)) (call i_law_back)) fun u47 => bnd (bnd (opFld tb "least" a_part_here) fun u45 => bnd (ret []) fun us46 => ret (u45 :: us46)) fun us48 => ret (u47 :: us48)) fun us50 => ret (u49 :: us50)) (mkTup)) (ret .non)))))
noncomputable def f_law_deep (call : Orc) (a_part_here : T) : Sh T := (bnd (ret (.int 1)) fun u4 => bnd (bnd (compS (bnd (call i_law_inner [a_part_here]) itT) (fun x_1 => toD (call i_law_deep [x_1]))) fun u2 => bnd (ret (.int 0)) fun u3 => opMaxD u2 u3) fun u5 => opAdd u4 u5)
noncomputable def f_law_is_so (call : Orc) (a_found : T) (a_part_here : T) : Sh T := bnd (bnd (bnd (bnd (opM tb "inner" a_found) fun i1 => call i1 [a_found]) fun u5 => bnd (bnd (bnd (opM tb "walk" a_found) fun i2 => call i2 [a_found]) fun u3 => bnd (ret []) fun us4 => ret (u3 :: us4)) fun us6 => ret (u5 :: us6)) unl2) fun p7 => iff (orB (notB (tst (bnd (ret p7.1) (opIsTy "list")))) (tst (bnd (compSO (ret p7.1) (fun x_8 => toD (call i_law_back [x_8]))) fun u9 => bnd (call i_law_inner [a_part_here]) fun u10 => opNe u9 u10))) (ret (.bl false)) (iff (orB (notB (tst (bnd (ret p7.2) (opIsTy "list")))) (tst (bnd (compSO (ret p7.2) (fun x_11 => toD (call i_law_back [x_11]))) fun u12 => bnd (call i_law_walk [a_part_here]) fun u13 => opNe u12 u13))) (ret (.bl false)) (bnd (opApp p7.1 a_found) fun _ => bnd (bnd (ret p7.2) opClear) fun _ => bnd (bnd (bnd (bnd (opM tb "deep" a_found) fun i14 => call i14 [a_found]) fun u18 => bnd (bnd (bnd (opM tb "text" a_found) fun i15 => call i15 [a_found]) fun u16 => bnd (ret []) fun us17 => ret (u16 :: us17)) fun us19 => ret (u18 :: us19)) unl2) fun p20 => iff (orB (tst (bnd (ret p20.1) (opIsTy "bool"))) (orB (notB (tst (bnd (ret p20.1) (opIsTy "int")))) (tst (bnd (ret p20.1) fun u21 => bnd (call i_law_deep [a_part_here]) fun u22 => opNe u21 u22)))) (ret (.bl false)) (andV (bnd (ret p20.2) (opIsTy "str")) (bnd (ret p20.2) fun u23 => bnd (call i_law_text [a_part_here]) fun u24 => opEq u23 u24))))
noncomputable def f_law (call : Orc) (a_script : T) : Sh T := bnd (compS (bnd (ret (.int 3)) rg1) (fun x_2 => toD (bnd (bnd (call i_law_of [a_script, .int 0]) fun u5 => bnd (bnd (ret x_2) fun u3 => bnd (ret []) fun us4 => ret (u3 :: us4)) fun us6 => ret (u5 :: us6)) (call i_law_word)))) fun v_names_1 => bnd (compO (bnd (ret (.int 4)) rg1) (fun x_8 => toD (bnd (bnd (call i_law_of [a_script, .int 1]) fun u11 => bnd (bnd (ret x_8) fun u9 => bnd (ret []) fun us10 => ret (u9 :: us10)) fun us12 => ret (u11 :: us12)) (call i_law_sign)))) fun v_signs_7 => bnd (bnd (bnd (bnd (bnd (ret (.str "WORD")) fun u17 => bnd (bnd (ret (.str "FIGURES")) fun u15 => bnd (bnd (opIx v_signs_7 (.int 0)) fun u13 => bnd (ret []) fun us14 => ret (u13 :: us14)) fun us16 => ret (u15 :: us16)) fun us18 => ret (u17 :: us18)) (mkLst)) fun u23 => bnd (bnd (bnd (call i_law_of [a_script, .int 2]) fun u19 => bnd (ret (.int 4)) fun u20 => opDiv u19 u20) fun u21 => bnd (ret (.int 3)) fun u22 => opMod u21 u22) fun u24 => opIx u23 u24) fun u28 => bnd (ret v_signs_7) fun u27 => bnd (bnd (call i_law_of [a_script, .int 2]) fun u25 => bnd (ret (.int 4)) fun u26 => opMod u25 u26) fun u29 => setIx u27 u29 u28) fun _ => bnd (bnd (bnd (ret (.int 3)) rg1) fun its99 => forL (fun x_63 (s30 : Unit) => bnd (bnd (bnd (bnd (bnd (bnd (bnd (ret a_script) fun u67 => bnd (bnd (opAdd (.int 3) x_63) fun u65 => bnd (ret []) fun us66 => ret (u65 :: us66)) fun us68 => ret (u67 :: us68)) (call i_law_mixed)) fun u69 => bnd (ret (.int 9)) fun u70 => opDiv u69 u70) fun u71 => bnd (ret (.int 9)) fun u72 => opMul u71 u72) fun u75 => bnd (bnd (mkLst [.int 5, .int 6, .int 7]) fun u73 => bnd (ret x_63) fun u74 => opIx u73 u74) fun u76 => opAdd u75 u76) fun u81 => bnd (bnd (bnd (call i_law_of [a_script, .int 2]) fun u77 => bnd (ret (.int 12)) fun u78 => opDiv u77 u78) fun u79 => bnd (ret (.int 2)) fun u80 => opMod u79 u80) fun u82 => opAdd u81 u82) fun v_number_64 => bnd (bnd (bnd (ret v_number_64) fun u90 => bnd (bnd (ret (.int 3)) fun u88 => bnd (bnd (ret v_names_1) fun u86 => bnd (bnd (bnd (ret v_signs_7) frz) fun u84 => bnd (ret []) fun us85 => ret (u84 :: us85)) fun us87 => ret (u86 :: us87)) fun us89 => ret (u88 :: us89)) fun us91 => ret (u90 :: us91)) (call i_law_part)) fun v_part_here_83 => bnd (call i_law_built [v_part_here_83]) fun v_found_92 => bnd (bnd (bnd (bnd (ret (.int 2)) rg1) fun its98 => forL (fun x_95 (s93 : Unit) => iff (orB (tst (bnd (call i_law_back [v_found_92]) fun u96 => bnd (ret v_part_here_83) fun u97 => opNe u96 u97)) (notB (tst (call i_law_is_so [v_found_92, v_part_here_83])))) (bnd (ret (.bl false)) fun t => ret (.rt t)) (ret (.nx ()))) its98 ()) castE) (onL fun q94 => ret (.nx ()))) its99 ()) (onR fun q31 => bnd (bnd (bnd (mkD call i_Row_init "Row" [.non]) fun u37 => bnd (bnd (bnd (bnd (mkD call i_Sign_init "Sign" [.str "a"]) fun u33 => bnd (ret []) fun us34 => ret (u33 :: us34)) fun us => mkD call i_Many_init "Many" (us ++ dats [.int 0])) fun u35 => bnd (ret []) fun us36 => ret (u35 :: us36)) fun us38 => ret (u37 :: us38)) (mkLst)) fun v_bare_32 => iff (orB (tst (bnd (bnd (opIx v_bare_32 (.int 0)) (opFld tb "parts")) fun u39 => bnd (mkLst []) fun u40 => opNe u39 u40)) (orB (tst (bnd (bnd (opIx v_bare_32 (.int 1)) (opFld tb "least")) fun u41 => bnd (ret (.int 0)) fun u42 => opNe u41 u42)) (orB (tst (bnd (bnd (opIx v_bare_32 (.int 0)) fun u44 => bnd (opM tb "text" u44) fun i43 => call i43 [u44]) fun u45 => bnd (ret (.str "()")) fun u46 => opNe u45 u46)) (tst (bnd (bnd (opIx v_bare_32 (.int 1)) fun u48 => bnd (opM tb "text" u48) fun i47 => call i47 [u48]) fun u49 => bnd (ret (.str "{'a'}")) fun u50 => opNe u49 u50))))) (ret (.bl false)) (andV (bnd (bnd (bnd (bnd (mkD call i_Sign_init "Sign" [.str "a"]) fun u53 => bnd (bnd (ret (.int 1)) fun u51 => bnd (ret []) fun us52 => ret (u51 :: us52)) fun us54 => ret (u53 :: us54)) (mkD call i_Many_init "Many")) fun u56 => bnd (opM tb "text" u56) fun i55 => call i55 [u56]) fun u57 => bnd (ret (.str "{'a'}+")) fun u58 => opEq u57 u58) (bnd (bnd (bnd (opIx v_bare_32 (.int 0)) fun u60 => bnd (opM tb "inner" u60) fun i59 => call i59 [u60]) frz) fun u61 => bnd (mkLst []) fun u62 => opEq u61 u62)))
section
variable {G : Gc} {n : Nat} {call : Orc} (E : Env G) (Tk : TabOk G tb) (O : OrcOk G n tb call)
include E Tk O in
theorem b_Part_inner (a_self : T) : RetS (bodyC G N_Part_inner d_Part_inner (n + 1)) d_Part_inner.body [some a_self] (f_Part_inner call a_self) := by
  unfold f_Part_inner
  exact rs_ret (sv_lstOP sa_nil)
include E Tk O in
theorem b_Part_walk (a_self : T) : RetS (bodyC G N_Part_walk d_Part_walk (n + 1)) d_Part_walk.body [some a_self, none, none] (f_Part_walk call a_self) := by
  have v_self : visB (defScope s_Part_walk) "self" = true := by kernel_rfl
  have l_found : locB (defScope s_Part_walk) "found" = true := by kernel_rfl
  have v_found : visB (defScope s_Part_walk) "found" = true := by kernel_rfl
  have l_part : locB (defScope s_Part_walk) "part" = true := by kernel_rfl
  have v_part : visB (defScope s_Part_walk) "part" = true := by kernel_rfl
  unfold f_Part_walk
  refine rs_n (st_asgG (g := fun v_found_1 => [some a_self, some v_found_1, none]) (i := 1) (sv_lstOP (sa_consP (sv_nm (i := 0) rfl v_self rfl) sa_nil)) rfl l_found (fun _ => rfl)) fun v_found_1 => ?_
  refine rs_n (g := fun s2 : T => [some a_self, some s2, none]) (nst_for (a0 := v_found_1) (it_seq (sv_frz (sv_meth0P Tk O hk0 (sv_nm (i := 0) rfl v_self rfl) _))) (tg_nm (i := 2) rfl l_part) (⟨rfl, ⟨rfl, trivial⟩⟩) fun x_5 s2 => ?_) fun q3 => ?_
  · refine turn_nm (Γ1 := [some a_self, some s2, some x_5]) rfl (fun _ e => nomatch e) (NxS.run ?_)
    refine ns_n (st_asgG (g := fun v_found_6 => [some a_self, some v_found_6, some x_5]) (i := 1) (sv_bin (sv_nm (i := 1) rfl v_found rfl) (sv_frz (sv_meth0P Tk O hk0 (sv_nm (i := 2) rfl v_part rfl) _)) (fun _ _ => addO_ok)) rfl l_found (fun _ => rfl)) fun v_found_6 => ?_
    exact ns_nil (⟨rfl, ⟨rfl, trivial⟩⟩)
  exact rs_ret (sv_nm (i := 1) rfl v_found rfl)
include E Tk O in
theorem b_Part_deep (a_self : T) : RetS (bodyC G N_Part_deep d_Part_deep (n + 1)) d_Part_deep.body [some a_self, none] (f_Part_deep call a_self) := by
  have v_self : visB (defScope s_Part_deep) "self" = true := by kernel_rfl
  have g_max : gloB (defScope s_Part_deep) "max" = true := by kernel_rfl
  unfold f_Part_deep
  exact rs_ret (sv_bin sv_int (sv_maxDef (sv_comp (own := [("part", 1)]) (Γ1 := [some a_self, none]) (it_seq (sv_frz (sv_meth0P Tk O hk0 (sv_nm (i := 0) rfl v_self rfl) _))) (by kernel_rfl) (tg_nm (i := 1) rfl (by kernel_rfl)) rfl (fun x_2 => turn_nm (Γ1 := [some a_self, some x_2]) rfl (vsin (by decide)) (ct_el (sv_meth0P Tk O hk0 (sv_nm (i := 1) rfl (by kernel_rfl) rfl) _)))) sv_int g_max E.f_max) (fun _ _ => add_ok))
include E Tk O in
theorem b_Part_text (a_self : T) : RetS (bodyC G N_Part_text d_Part_text (n + 1)) d_Part_text.body [some a_self] (f_Part_text call a_self) := by
  unfold f_Part_text
  exact rs_ret sv_str
include E Tk O in
theorem b_Part_element (a_self : T) : RetS (bodyC G N_Part_element d_Part_element (n + 1)) d_Part_element.body [some a_self] (f_Part_element call a_self) := by
  have v_self : visB (defScope s_Part_element) "self" = true := by kernel_rfl
  unfold f_Part_element
  exact rs_ret (sv_meth0P Tk O hk0 (sv_nm (i := 0) rfl v_self rfl) _)
include E Tk O in
theorem b_Part_way (a_self : T) : RetS (bodyC G N_Part_way d_Part_way (n + 1)) d_Part_way.body [some a_self] (f_Part_way call a_self) := by
  have v_self : visB (defScope s_Part_way) "self" = true := by kernel_rfl
  unfold f_Part_way
  exact rs_ret (sv_meth0P Tk O hk0 (sv_nm (i := 0) rfl v_self rfl) _)
include E Tk O in
theorem b_Sign_init (a_self : T) (a_sign : T) : NxS (bodyC G N_Sign_init d_Sign_init (n + 1)) d_Sign_init.body [some a_self, some a_sign] (fun _ : Unit => [none, none]) (f_Sign_init call a_self a_sign) := by
  have v_sign : visB (defScope s_Sign_init) "sign" = true := by kernel_rfl
  have v_self : visB (defScope s_Sign_init) "self" = true := by kernel_rfl
  unfold f_Sign_init
  refine ns_n (nst_fld Tk (sv_nm (i := 1) rfl v_sign rfl) (sv_nm (i := 0) rfl v_self rfl)) fun _ => ?_
  exact ns_nil (trivial)
include E Tk O in
theorem b_Sign_text (a_self : T) : RetS (bodyC G N_Sign_text d_Sign_text (n + 1)) d_Sign_text.body [some a_self] (f_Sign_text call a_self) := by
  have v_self : visB (defScope s_Sign_text) "self" = true := by kernel_rfl
  have g_CLASSES : gloB (defScope s_Sign_text) "CLASSES" = true := by kernel_rfl
  unfold f_Sign_text
  refine rs_if (ts_cmp (sv_fldP Tk (sv_nm (i := 0) rfl v_self rfl)) (sv_gc E.k_CLASSES g_CLASSES) (fun _ _ => in_ok)) ?_ ?_
  · exact rs_ret (sv_fldP Tk (sv_nm (i := 0) rfl v_self rfl))
  · exact rs_ret (sv_bin (sv_bin sv_str (sv_fldP Tk (sv_nm (i := 0) rfl v_self rfl)) (fun _ _ => add_ok)) sv_str (fun _ _ => add_ok))
include E Tk O in
theorem b_Name_init (a_self : T) (a_name : T) : NxS (bodyC G N_Name_init d_Name_init (n + 1)) d_Name_init.body [some a_self, some a_name] (fun _ : Unit => [none, none]) (f_Name_init call a_self a_name) := by
  have v_name : visB (defScope s_Name_init) "name" = true := by kernel_rfl
  have v_self : visB (defScope s_Name_init) "self" = true := by kernel_rfl
  unfold f_Name_init
  refine ns_n (nst_fld Tk (sv_nm (i := 1) rfl v_name rfl) (sv_nm (i := 0) rfl v_self rfl)) fun _ => ?_
  exact ns_nil (trivial)
include E Tk O in
theorem b_Name_text (a_self : T) : RetS (bodyC G N_Name_text d_Name_text (n + 1)) d_Name_text.body [some a_self] (f_Name_text call a_self) := by
  have v_self : visB (defScope s_Name_text) "self" = true := by kernel_rfl
  unfold f_Name_text
  exact rs_ret (sv_fldP Tk (sv_nm (i := 0) rfl v_self rfl))
include E Tk O in
theorem b_Row_init (a_self : T) (a_parts : T) : NxS (bodyC G N_Row_init d_Row_init (n + 1)) d_Row_init.body [some a_self, some a_parts] (fun _ : Unit => [none, none]) (f_Row_init call a_self a_parts) := by
  have v_self : visB (defScope s_Row_init) "self" = true := by kernel_rfl
  have v_parts : visB (defScope s_Row_init) "parts" = true := by kernel_rfl
  have g_list : gloB (defScope s_Row_init) "list" = true := by kernel_rfl
  unfold f_Row_init
  refine ns_n (nst_fld Tk (sv_lstP sa_nil) (sv_nm (i := 0) rfl v_self rfl)) fun _ => ?_
  refine ns_n (g := fun p3 : Unit => [some a_self, some a_parts]) (nst_if (ts_cmpP (sv_nm (i := 1) rfl v_parts rfl) sv_non notN_okS) ?_ ?_) fun p3 => ?_
  · refine ns_n (nst_fld Tk (sv_tyP (sa_consP (sv_nm (i := 1) rfl v_parts rfl) sa_nil) (fun _ => fListK_ok) g_list E.f_list bb_list rfl nn_list) (sv_nm (i := 0) rfl v_self rfl)) fun _ => ?_
    exact ns_nil (⟨rfl, ⟨rfl, trivial⟩⟩)
  · exact ns_nil (⟨rfl, ⟨rfl, trivial⟩⟩)
  exact ns_nil (trivial)
include E Tk O in
theorem b_Row_inner (a_self : T) : RetS (bodyC G N_Row_inner d_Row_inner (n + 1)) d_Row_inner.body [some a_self] (f_Row_inner call a_self) := by
  have v_self : visB (defScope s_Row_inner) "self" = true := by kernel_rfl
  have g_list : gloB (defScope s_Row_inner) "list" = true := by kernel_rfl
  unfold f_Row_inner
  exact rs_ret (sv_ty (sa_cons (sv_fldP Tk (sv_nm (i := 0) rfl v_self rfl)) sa_nil) (fun _ => fListO_ok) g_list E.f_list bb_list rfl nn_list)
include E Tk O in
theorem b_Row_text (a_self : T) : RetS (bodyC G N_Row_text d_Row_text (n + 1)) d_Row_text.body [some a_self, none, none] (f_Row_text call a_self) := by
  have v_self : visB (defScope s_Row_text) "self" = true := by kernel_rfl
  have l_found : locB (defScope s_Row_text) "found" = true := by kernel_rfl
  have g_len : gloB (defScope s_Row_text) "len" = true := by kernel_rfl
  have v_found : visB (defScope s_Row_text) "found" = true := by kernel_rfl
  unfold f_Row_text
  refine rs_n (st_asgG (g := fun v_found_1 => [some a_self, some v_found_1, none]) (i := 1) (sv_join sv_str (sv_comp (own := [("part", 2)]) (Γ1 := [some a_self, none, none]) (it_seq (sv_fldP Tk (sv_nm (i := 0) rfl v_self rfl))) (by kernel_rfl) (tg_nm (i := 2) rfl (by kernel_rfl)) rfl (fun x_2 => turn_nm (Γ1 := [some a_self, none, some x_2]) rfl (vsin (by decide)) (ct_el (sv_meth0P Tk O hk0 (sv_nm (i := 2) rfl (by kernel_rfl) rfl) _))))) rfl l_found (fun _ => rfl)) fun v_found_1 => ?_
  refine rs_if (ts_cmp (sv_bi (sa_cons (sv_fldP Tk (sv_nm (i := 0) rfl v_self rfl)) sa_nil) (fun _ => fLen_ok) g_len E.f_len bb_len rfl nn_len) sv_int (fun _ _ => lt_ok)) ?_ ?_
  · exact rs_ret (sv_bin (sv_binP sv_str (sv_nm (i := 1) rfl v_found rfl) add_ok) sv_str (fun _ _ => add_ok))
  · exact rs_ret (sv_nm (i := 1) rfl v_found rfl)
include E Tk O in
theorem b_Row_element (a_self : T) : RetS (bodyC G N_Row_element d_Row_element (n + 1)) d_Row_element.body [some a_self] (f_Row_element call a_self) := by
  have v_self : visB (defScope s_Row_element) "self" = true := by kernel_rfl
  have g_len : gloB (defScope s_Row_element) "len" = true := by kernel_rfl
  unfold f_Row_element
  refine rs_if (ts_cmp (sv_bi (sa_cons (sv_fldP Tk (sv_nm (i := 0) rfl v_self rfl)) sa_nil) (fun _ => fLen_ok) g_len E.f_len bb_len rfl nn_len) sv_int (fun _ _ => lt_ok)) ?_ ?_
  · exact rs_ret (sv_meth0P Tk O hk0 (sv_nm (i := 0) rfl v_self rfl) _)
  · exact rs_ret (sv_bin (sv_bin sv_str (sv_meth0P Tk O hk0 (sv_nm (i := 0) rfl v_self rfl) _) (fun _ _ => add_ok)) sv_str (fun _ _ => add_ok))
include E Tk O in
theorem b_Pick_init (a_self : T) (a_parts : T) : NxS (bodyC G N_Pick_init d_Pick_init (n + 1)) d_Pick_init.body [some a_self, some a_parts] (fun _ : Unit => [none, none]) (f_Pick_init call a_self a_parts) := by
  have v_parts : visB (defScope s_Pick_init) "parts" = true := by kernel_rfl
  have g_list : gloB (defScope s_Pick_init) "list" = true := by kernel_rfl
  have v_self : visB (defScope s_Pick_init) "self" = true := by kernel_rfl
  unfold f_Pick_init
  refine ns_n (nst_fld Tk (sv_tyP (sa_consP (sv_nm (i := 1) rfl v_parts rfl) sa_nil) (fun _ => fListK_ok) g_list E.f_list bb_list rfl nn_list) (sv_nm (i := 0) rfl v_self rfl)) fun _ => ?_
  exact ns_nil (trivial)
include E Tk O in
theorem b_Pick_inner (a_self : T) : RetS (bodyC G N_Pick_inner d_Pick_inner (n + 1)) d_Pick_inner.body [some a_self] (f_Pick_inner call a_self) := by
  have v_self : visB (defScope s_Pick_inner) "self" = true := by kernel_rfl
  have g_list : gloB (defScope s_Pick_inner) "list" = true := by kernel_rfl
  unfold f_Pick_inner
  exact rs_ret (sv_ty (sa_cons (sv_fldP Tk (sv_nm (i := 0) rfl v_self rfl)) sa_nil) (fun _ => fListO_ok) g_list E.f_list bb_list rfl nn_list)
include E Tk O in
theorem b_Pick_text (a_self : T) : RetS (bodyC G N_Pick_text d_Pick_text (n + 1)) d_Pick_text.body [some a_self, none] (f_Pick_text call a_self) := by
  have v_self : visB (defScope s_Pick_text) "self" = true := by kernel_rfl
  unfold f_Pick_text
  exact rs_ret (sv_join sv_str (sv_comp (own := [("part", 1)]) (Γ1 := [some a_self, none]) (it_seq (sv_fldP Tk (sv_nm (i := 0) rfl v_self rfl))) (by kernel_rfl) (tg_nm (i := 1) rfl (by kernel_rfl)) rfl (fun x_1 => turn_nm (Γ1 := [some a_self, some x_1]) rfl (vsin (by decide)) (ct_el (sv_meth0P Tk O hk0 (sv_nm (i := 1) rfl (by kernel_rfl) rfl) _)))))
include E Tk O in
theorem b_Pick_element (a_self : T) : RetS (bodyC G N_Pick_element d_Pick_element (n + 1)) d_Pick_element.body [some a_self] (f_Pick_element call a_self) := by
  have v_self : visB (defScope s_Pick_element) "self" = true := by kernel_rfl
  unfold f_Pick_element
  exact rs_ret (sv_bin (sv_bin sv_str (sv_meth0P Tk O hk0 (sv_nm (i := 0) rfl v_self rfl) _) (fun _ _ => add_ok)) sv_str (fun _ _ => add_ok))
include E Tk O in
theorem b_Pick_way (a_self : T) : RetS (bodyC G N_Pick_way d_Pick_way (n + 1)) d_Pick_way.body [some a_self] (f_Pick_way call a_self) := by
  have v_self : visB (defScope s_Pick_way) "self" = true := by kernel_rfl
  unfold f_Pick_way
  exact rs_ret (sv_bin (sv_bin sv_str (sv_meth0P Tk O hk0 (sv_nm (i := 0) rfl v_self rfl) _) (fun _ _ => add_ok)) sv_str (fun _ _ => add_ok))
include E Tk O in
theorem b_Maybe_init (a_self : T) (a_part : T) : NxS (bodyC G N_Maybe_init d_Maybe_init (n + 1)) d_Maybe_init.body [some a_self, some a_part] (fun _ : Unit => [none, none]) (f_Maybe_init call a_self a_part) := by
  have v_part : visB (defScope s_Maybe_init) "part" = true := by kernel_rfl
  have v_self : visB (defScope s_Maybe_init) "self" = true := by kernel_rfl
  unfold f_Maybe_init
  refine ns_n (nst_fld Tk (sv_nm (i := 1) rfl v_part rfl) (sv_nm (i := 0) rfl v_self rfl)) fun _ => ?_
  exact ns_nil (trivial)
include E Tk O in
theorem b_Maybe_inner (a_self : T) : RetS (bodyC G N_Maybe_inner d_Maybe_inner (n + 1)) d_Maybe_inner.body [some a_self] (f_Maybe_inner call a_self) := by
  have v_self : visB (defScope s_Maybe_inner) "self" = true := by kernel_rfl
  unfold f_Maybe_inner
  exact rs_ret (sv_lstO (sa_cons (sv_fldP Tk (sv_nm (i := 0) rfl v_self rfl)) sa_nil))
include E Tk O in
theorem b_Maybe_text (a_self : T) : RetS (bodyC G N_Maybe_text d_Maybe_text (n + 1)) d_Maybe_text.body [some a_self] (f_Maybe_text call a_self) := by
  have v_self : visB (defScope s_Maybe_text) "self" = true := by kernel_rfl
  unfold f_Maybe_text
  exact rs_ret (sv_bin (sv_bin sv_str (sv_meth0 Tk O hk0 (sv_fldP Tk (sv_nm (i := 0) rfl v_self rfl)) _) (fun _ _ => add_ok)) sv_str (fun _ _ => add_ok))
include E Tk O in
theorem b_Many_init (a_self : T) (a_part : T) (a_least : T) : NxS (bodyC G N_Many_init d_Many_init (n + 1)) d_Many_init.body [some a_self, some a_part, some a_least] (fun _ : Unit => [none, none, none]) (f_Many_init call a_self a_part a_least) := by
  have v_part : visB (defScope s_Many_init) "part" = true := by kernel_rfl
  have v_self : visB (defScope s_Many_init) "self" = true := by kernel_rfl
  have v_least : visB (defScope s_Many_init) "least" = true := by kernel_rfl
  unfold f_Many_init
  refine ns_n (nst_fld Tk (sv_nm (i := 1) rfl v_part rfl) (sv_nm (i := 0) rfl v_self rfl)) fun _ => ?_
  refine ns_n (nst_fld Tk (sv_nm (i := 2) rfl v_least rfl) (sv_nm (i := 0) rfl v_self rfl)) fun _ => ?_
  exact ns_nil (trivial)
include E Tk O in
theorem b_Many_inner (a_self : T) : RetS (bodyC G N_Many_inner d_Many_inner (n + 1)) d_Many_inner.body [some a_self] (f_Many_inner call a_self) := by
  have v_self : visB (defScope s_Many_inner) "self" = true := by kernel_rfl
  unfold f_Many_inner
  exact rs_ret (sv_lstO (sa_cons (sv_fldP Tk (sv_nm (i := 0) rfl v_self rfl)) sa_nil))
include E Tk O in
theorem b_Many_text (a_self : T) : RetS (bodyC G N_Many_text d_Many_text (n + 1)) d_Many_text.body [some a_self] (f_Many_text call a_self) := by
  have v_self : visB (defScope s_Many_text) "self" = true := by kernel_rfl
  unfold f_Many_text
  exact rs_ret (sv_bin (sv_bin (sv_bin sv_str (sv_meth0 Tk O hk0 (sv_fldP Tk (sv_nm (i := 0) rfl v_self rfl)) _) (fun _ _ => add_ok)) sv_str (fun _ _ => add_ok)) (sv_bin sv_str (sv_fldP Tk (sv_nm (i := 0) rfl v_self rfl)) (fun _ _ => mul_ok)) (fun _ _ => add_ok))
include E Tk O in
theorem b_law_of (a_script : T) (a_k : T) : RetS (bodyC G N_law_of d_law_of (n + 1)) d_law_of.body [some a_script, some a_k] (f_law_of call a_script a_k) := by
  have v__law_script : visB (defScope s_law_of) "_law_script" = true := by kernel_rfl
  have v__law_k : visB (defScope s_law_of) "_law_k" = true := by kernel_rfl
  unfold f_law_of
  exact rs_ret (sv_bin (sv_ix (sv_bin (sv_slice (sv_nm (i := 0) rfl v__law_script rfl) (os_some (sv_nm (i := 1) rfl v__law_k rfl)) (os_some (sv_binP (sv_nm (i := 1) rfl v__law_k rfl) sv_int add_ok))) (sv_lstP (sa_consP sv_int sa_nil)) (fun _ _ => add_ok)) sv_int (fun _ _ => ix_ok)) (sv_binP sv_int sv_int pow_ok) (fun _ _ => mod_ok))
include E Tk O in
theorem b_law_mixed (a_script : T) (a_k : T) : RetS (bodyC G N_law_mixed d_law_mixed (n + 1)) d_law_mixed.body [some a_script, some a_k, none] (f_law_mixed call a_script a_k) := by
  have v__law_script : visB (defScope s_law_mixed) "_law_script" = true := by kernel_rfl
  have v__law_k : visB (defScope s_law_mixed) "_law_k" = true := by kernel_rfl
  have g_len : gloB (defScope s_law_mixed) "len" = true := by kernel_rfl
  have g_max : gloB (defScope s_law_mixed) "max" = true := by kernel_rfl
  have l__law_cell : locB (defScope s_law_mixed) "_law_cell" = true := by kernel_rfl
  have v__law_cell : visB (defScope s_law_mixed) "_law_cell" = true := by kernel_rfl
  unfold f_law_mixed
  refine rs_n (st_asgG (g := fun v_cell_1 => [some a_script, some a_k, some v_cell_1]) (i := 2) (sv_ix (sv_bin (sv_nm (i := 0) rfl v__law_script rfl) (sv_lstP (sa_consP sv_int sa_nil)) (fun _ _ => add_ok)) (sv_bin (sv_nm (i := 1) rfl v__law_k rfl) (sv_bi (sa_cons sv_int (sa_cons (sv_biP (sa_consP (sv_nm (i := 0) rfl v__law_script rfl) sa_nil) (fun _ => fLen_ok) g_len E.f_len bb_len rfl nn_len) sa_nil)) (fun _ => fMax_ok) g_max E.f_max bb_max rfl nn_max) (fun _ _ => mod_ok)) (fun _ _ => ix_ok)) rfl l__law_cell (fun _ => rfl)) fun v_cell_1 => ?_
  exact rs_ret (sv_bin (sv_bin (sv_bin (sv_binP (sv_nm (i := 2) rfl v__law_cell rfl) sv_int add_ok) (sv_bin (sv_binP sv_int (sv_nm (i := 1) rfl v__law_k rfl) mul_ok) (sv_nm (i := 1) rfl v__law_k rfl) (fun _ _ => mul_ok)) (fun _ _ => add_ok)) (sv_bin sv_int (sv_binP sv_int (sv_nm (i := 1) rfl v__law_k rfl) mul_ok) (fun _ _ => add_ok)) (fun _ _ => mul_ok)) sv_int (fun _ _ => mod_ok))
include E Tk O in
theorem b_law_turned (a_number : T) (a_k : T) : RetS (bodyC G N_law_turned d_law_turned (n + 1)) d_law_turned.body [some a_number, some a_k] (f_law_turned call a_number a_k) := by
  have v__law_number : visB (defScope s_law_turned) "_law_number" = true := by kernel_rfl
  have v__law_k : visB (defScope s_law_turned) "_law_k" = true := by kernel_rfl
  unfold f_law_turned
  exact rs_ret (sv_bin (sv_bin (sv_bin (sv_binP (sv_nm (i := 0) rfl v__law_number rfl) sv_int add_ok) (sv_bin (sv_binP sv_int (sv_nm (i := 1) rfl v__law_k rfl) mul_ok) (sv_nm (i := 1) rfl v__law_k rfl) (fun _ _ => mul_ok)) (fun _ _ => add_ok)) (sv_ix (sv_lstP (sa_consP sv_int (sa_consP sv_int (sa_consP sv_int (sa_consP sv_int sa_nil))))) (sv_binP (sv_nm (i := 1) rfl v__law_k rfl) sv_int mod_ok) (fun _ _ => ix_ok)) (fun _ _ => mul_ok)) sv_int (fun _ _ => mod_ok))
include E Tk O in
theorem b_law_word (a_seed : T) (a_k : T) : RetS (bodyC G N_law_word d_law_word (n + 1)) d_law_word.body [some a_seed, some a_k, none, none, none, none, none] (f_law_word call a_seed a_k) := by
  have l__law_letters : locB (defScope s_law_word) "_law_letters" = true := by kernel_rfl
  have v__law_seed : visB (defScope s_law_word) "_law_seed" = true := by kernel_rfl
  have v__law_k : visB (defScope s_law_word) "_law_k" = true := by kernel_rfl
  have l__law_more : locB (defScope s_law_word) "_law_more" = true := by kernel_rfl
  have v__law_more : visB (defScope s_law_word) "_law_more" = true := by kernel_rfl
  have g_range : gloB (defScope s_law_word) "range" = true := by kernel_rfl
  have l__law_tail : locB (defScope s_law_word) "_law_tail" = true := by kernel_rfl
  have v__law_tail : visB (defScope s_law_word) "_law_tail" = true := by kernel_rfl
  have g_len : gloB (defScope s_law_word) "len" = true := by kernel_rfl
  have l__law_at : locB (defScope s_law_word) "_law_at" = true := by kernel_rfl
  have v__law_at : visB (defScope s_law_word) "_law_at" = true := by kernel_rfl
  unfold f_law_word
  refine rs_n (st_asgG (g := fun v_letters_1 => [some a_seed, some a_k, some v_letters_1, none, none, none, none]) (i := 2) sv_str rfl l__law_letters (fun _ => rfl)) fun v_letters_1 => ?_
  refine rs_n (st_asgG (g := fun v_more_2 => [some a_seed, some a_k, some v_letters_1, some v_more_2, none, none, none]) (i := 3) (sv_bin (sv_binP (sv_nm (i := 0) rfl v__law_seed rfl) sv_int div_ok) (sv_bin (sv_bin (sv_binP (sv_nm (i := 1) rfl v__law_k rfl) (sv_nm (i := 1) rfl v__law_k rfl) mul_ok) sv_int (fun _ _ => mul_ok)) (sv_binP (sv_nm (i := 0) rfl v__law_seed rfl) sv_int mod_ok) (fun _ _ => mul_ok)) (fun _ _ => add_ok)) rfl l__law_more (fun _ => rfl)) fun v_more_2 => ?_
  refine rs_n (st_asgG (g := fun v_tail_9 => [some a_seed, some a_k, some v_letters_1, some v_more_2, some v_tail_9, none, none]) (i := 4) (sv_join sv_str (sv_comp (own := [("_law_j", 5)]) (Γ1 := [some a_seed, some a_k, some v_letters_1, some v_more_2, none, none, none]) (it_rg1 (sv_binP (sv_nm (i := 3) rfl v__law_more rfl) sv_int mod_ok) g_range E.f_range) (by kernel_rfl) (tg_nm (i := 5) rfl (by kernel_rfl)) rfl (fun x_10 => turn_nm (Γ1 := [some a_seed, some a_k, some v_letters_1, some v_more_2, none, some x_10, none]) rfl (vsin (by decide)) (ct_el (sv_ix (sv_nm (i := 2) rfl (by kernel_rfl) rfl) (sv_bin (sv_bin (sv_nm (i := 3) rfl (by kernel_rfl) rfl) (sv_binP sv_int (sv_nm (i := 5) rfl (by kernel_rfl) rfl) mul_ok) (fun _ _ => add_ok)) sv_int (fun _ _ => mod_ok)) (fun _ _ => ix_ok)))))) rfl l__law_tail (fun _ => rfl)) fun v_tail_9 => ?_
  refine rs_n (st_asgG (g := fun v_at_19 => [some a_seed, some a_k, some v_letters_1, some v_more_2, some v_tail_9, none, some v_at_19]) (i := 6) (sv_bin (sv_binP (sv_nm (i := 0) rfl v__law_seed rfl) sv_int div_ok) (sv_bin (sv_biP (sa_consP (sv_nm (i := 4) rfl v__law_tail rfl) sa_nil) (fun _ => fLen_ok) g_len E.f_len bb_len rfl nn_len) sv_int (fun _ _ => add_ok)) (fun _ _ => mod_ok)) rfl l__law_at (fun _ => rfl)) fun v_at_19 => ?_
  exact rs_ret (sv_bin (sv_bin (sv_bin (sv_slice (sv_nm (i := 4) rfl v__law_tail rfl) os_none (os_some (sv_nm (i := 6) rfl v__law_at rfl))) (sv_ix sv_str (sv_binP (sv_nm (i := 1) rfl v__law_k rfl) sv_int mod_ok) (fun _ _ => ix_ok)) (fun _ _ => add_ok)) (sv_bin sv_str (sv_bin (sv_binP (sv_nm (i := 1) rfl v__law_k rfl) sv_int div_ok) sv_int (fun _ _ => mod_ok)) (fun _ _ => mul_ok)) (fun _ _ => add_ok)) (sv_slice (sv_nm (i := 4) rfl v__law_tail rfl) (os_some (sv_nm (i := 6) rfl v__law_at rfl)) os_none) (fun _ _ => add_ok))
include E Tk O in
theorem b_law_sign (a_seed : T) (a_k : T) : RetS (bodyC G N_law_sign d_law_sign (n + 1)) d_law_sign.body [some a_seed, some a_k, none, none, none] (f_law_sign call a_seed a_k) := by
  have l__law_marks : locB (defScope s_law_sign) "_law_marks" = true := by kernel_rfl
  have v__law_marks : visB (defScope s_law_sign) "_law_marks" = true := by kernel_rfl
  have v__law_seed : visB (defScope s_law_sign) "_law_seed" = true := by kernel_rfl
  have v__law_k : visB (defScope s_law_sign) "_law_k" = true := by kernel_rfl
  have l__law_first : locB (defScope s_law_sign) "_law_first" = true := by kernel_rfl
  have l__law_way : locB (defScope s_law_sign) "_law_way" = true := by kernel_rfl
  have v__law_first : visB (defScope s_law_sign) "_law_first" = true := by kernel_rfl
  have g__law_word : gloB (defScope s_law_sign) "_law_word" = true := by kernel_rfl
  have v__law_way : visB (defScope s_law_sign) "_law_way" = true := by kernel_rfl
  unfold f_law_sign
  refine rs_n (st_asgG (g := fun v_marks_1 => [some a_seed, some a_k, some v_marks_1, none, none]) (i := 2) sv_str rfl l__law_marks (fun _ => rfl)) fun v_marks_1 => ?_
  refine rs_n (st_asgG (g := fun v_first_2 => [some a_seed, some a_k, some v_marks_1, some v_first_2, none]) (i := 3) (sv_ix (sv_nm (i := 2) rfl v__law_marks rfl) (sv_bin (sv_bin (sv_binP (sv_nm (i := 0) rfl v__law_seed rfl) sv_int div_ok) (sv_binP sv_int (sv_nm (i := 1) rfl v__law_k rfl) mul_ok) (fun _ _ => add_ok)) sv_int (fun _ _ => mod_ok)) (fun _ _ => ix_ok)) rfl l__law_first (fun _ => rfl)) fun v_first_2 => ?_
  refine rs_n (st_asgG (g := fun v_way_9 => [some a_seed, some a_k, some v_marks_1, some v_first_2, some v_way_9]) (i := 4) (sv_bin (sv_bin (sv_nm (i := 0) rfl v__law_seed rfl) (sv_ix (sv_lstP (sa_consP sv_int (sa_consP sv_int (sa_consP sv_int (sa_consP sv_int sa_nil))))) (sv_binP (sv_nm (i := 1) rfl v__law_k rfl) sv_int mod_ok) (fun _ _ => ix_ok)) (fun _ _ => div_ok)) sv_int (fun _ _ => mod_ok)) rfl l__law_way (fun _ => rfl)) fun v_way_9 => ?_
  exact rs_ret (sv_ix (sv_lst (sa_cons (sv_nm (i := 3) rfl v__law_first rfl) (sa_cons (sv_bin (sv_nm (i := 3) rfl v__law_first rfl) (sv_ix (sv_nm (i := 2) rfl v__law_marks rfl) (sv_bin (sv_bin (sv_bin (sv_binP (sv_nm (i := 0) rfl v__law_seed rfl) sv_int div_ok) (sv_binP sv_int (sv_nm (i := 1) rfl v__law_k rfl) mul_ok) (fun _ _ => add_ok)) sv_int (fun _ _ => add_ok)) sv_int (fun _ _ => mod_ok)) (fun _ _ => ix_ok)) (fun _ _ => add_ok)) (sa_cons (sv_callN Tk O hk0 (sa_cons (sv_binP (sv_nm (i := 0) rfl v__law_seed rfl) sv_int div_ok) (sa_cons (sv_nm (i := 1) rfl v__law_k rfl) sa_nil)) rfl rfl bn_law_word g__law_word (by kernel_rfl)) sa_nil)))) (sv_nm (i := 4) rfl v__law_way rfl) (fun _ _ => ix_ok))
include E Tk O in
theorem b_law_part (a_number : T) (a_deep_here : T) (a_names : T) (a_signs : T) : RetS (bodyC G N_law_part d_law_part (n + 1)) d_law_part.body [some a_number, some a_deep_here, some a_names, some a_signs, none, none, none, none, none, none] (f_law_part call a_number a_deep_here a_names a_signs) := by
  have v__law_number : visB (defScope s_law_part) "_law_number" = true := by kernel_rfl
  have l__law_way : locB (defScope s_law_part) "_law_way" = true := by kernel_rfl
  have l__law_more : locB (defScope s_law_part) "_law_more" = true := by kernel_rfl
  have v__law_way : visB (defScope s_law_part) "_law_way" = true := by kernel_rfl
  have v__law_deep_here : visB (defScope s_law_part) "_law_deep_here" = true := by kernel_rfl
  have v__law_signs : visB (defScope s_law_part) "_law_signs" = true := by kernel_rfl
  have v__law_more : visB (defScope s_law_part) "_law_more" = true := by kernel_rfl
  have g_len : gloB (defScope s_law_part) "len" = true := by kernel_rfl
  have v__law_names : visB (defScope s_law_part) "_law_names" = true := by kernel_rfl
  have l__law_size : locB (defScope s_law_part) "_law_size" = true := by kernel_rfl
  have v__law_size : visB (defScope s_law_part) "_law_size" = true := by kernel_rfl
  have g_int : gloB (defScope s_law_part) "int" = true := by kernel_rfl
  have g_min : gloB (defScope s_law_part) "min" = true := by kernel_rfl
  have g_range : gloB (defScope s_law_part) "range" = true := by kernel_rfl
  have v__law_parts : visB (defScope s_law_part) "_law_parts" = true := by kernel_rfl
  have g__law_part : gloB (defScope s_law_part) "_law_part" = true := by kernel_rfl
  have g__law_turned : gloB (defScope s_law_part) "_law_turned" = true := by kernel_rfl
  have l__law_one : locB (defScope s_law_part) "_law_one" = true := by kernel_rfl
  have v__law_one : visB (defScope s_law_part) "_law_one" = true := by kernel_rfl
  unfold f_law_part
  refine rs_n (st_asgG (g := fun v_way_1 => [some a_number, some a_deep_here, some a_names, some a_signs, some v_way_1, none, none, none, none, none]) (i := 4) (sv_binP (sv_nm (i := 0) rfl v__law_number rfl) sv_int mod_ok) rfl l__law_way (fun _ => rfl)) fun v_way_1 => ?_
  refine rs_n (st_asgG (g := fun v_more_2 => [some a_number, some a_deep_here, some a_names, some a_signs, some v_way_1, some v_more_2, none, none, none, none]) (i := 5) (sv_binP (sv_nm (i := 0) rfl v__law_number rfl) sv_int div_ok) rfl l__law_more (fun _ => rfl)) fun v_more_2 => ?_
  refine rs_if (ws_ts (ws_or (ts_cmpP (sv_nm (i := 4) rfl v__law_way rfl) sv_int lt_ok) (ws_or1 (ts_cmpP (sv_nm (i := 1) rfl v__law_deep_here rfl) sv_int lt_ok)))) ?_ ?_
  · exact rs_ret (sv_tup (sa_cons sv_str (sa_cons (sv_ix (sv_nm (i := 3) rfl v__law_signs rfl) (sv_bin (sv_nm (i := 5) rfl v__law_more rfl) (sv_biP (sa_consP (sv_nm (i := 3) rfl v__law_signs rfl) sa_nil) (fun _ => fLen_ok) g_len E.f_len bb_len rfl nn_len) (fun _ _ => mod_ok)) (fun _ _ => ix_ok)) sa_nil)))
  · refine rs_if (ts_cmpP (sv_nm (i := 4) rfl v__law_way rfl) sv_int lt_ok) ?_ ?_
    · exact rs_ret (sv_tup (sa_cons sv_str (sa_cons (sv_ix (sv_nm (i := 2) rfl v__law_names rfl) (sv_bin (sv_nm (i := 5) rfl v__law_more rfl) (sv_biP (sa_consP (sv_nm (i := 2) rfl v__law_names rfl) sa_nil) (fun _ => fLen_ok) g_len E.f_len bb_len rfl nn_len) (fun _ _ => mod_ok)) (fun _ _ => ix_ok)) sa_nil)))
    · refine rs_if (ts_cmpP (sv_nm (i := 4) rfl v__law_way rfl) sv_int lt_ok) ?_ ?_
      · refine rs_n (st_asgG (g := fun v_size_19 => [some a_number, some a_deep_here, some a_names, some a_signs, some v_way_1, some v_more_2, some v_size_19, none, none, none]) (i := 6) (sv_bin sv_int (sv_binP (sv_nm (i := 5) rfl v__law_more rfl) sv_int mod_ok) (fun _ _ => add_ok)) rfl l__law_size (fun _ => rfl)) fun v_size_19 => ?_
        refine rs_n (g := fun p22 : T => [some a_number, some a_deep_here, some a_names, some a_signs, some v_way_1, some v_more_2, some p22, none, none, none]) (nst_if (ts_cmpP (sv_nm (i := 4) rfl v__law_way rfl) sv_int eq_ok) ?_ ?_) fun p22 => ?_
        · refine ns_n (st_asgG (g := fun v_size_23 => [some a_number, some a_deep_here, some a_names, some a_signs, some v_way_1, some v_more_2, some v_size_23, none, none, none]) (i := 6) (sv_ix (sv_lstP (sa_consP sv_int (sa_consP sv_int (sa_consP sv_int (sa_consP sv_int (sa_consP sv_int (sa_consP sv_int sa_nil))))))) (sv_binP (sv_nm (i := 5) rfl v__law_more rfl) sv_int mod_ok) (fun _ _ => ix_ok)) rfl l__law_size (fun _ => rfl)) fun v_size_23 => ?_
          exact ns_nil (⟨rfl, ⟨rfl, ⟨rfl, ⟨rfl, ⟨rfl, ⟨rfl, ⟨rfl, trivial⟩⟩⟩⟩⟩⟩⟩)
        · exact ns_nil (⟨rfl, ⟨rfl, ⟨rfl, ⟨rfl, ⟨rfl, ⟨rfl, ⟨rfl, trivial⟩⟩⟩⟩⟩⟩⟩)
        refine rs_n (st_asgG (g := fun v_size_26 => [some a_number, some a_deep_here, some a_names, some a_signs, some v_way_1, some v_more_2, some v_size_26, none, none, none]) (i := 6) (sv_bi (sa_cons (sv_nm (i := 6) rfl v__law_size rfl) (sa_cons (sv_ix (sv_lstP (sa_consP sv_int (sa_consP sv_int sa_nil))) (sv_ty (sa_cons (sv_cmpP (sv_nm (i := 1) rfl v__law_deep_here rfl) sv_int eq_ok) sa_nil) (fun _ => fInt_ok) g_int E.f_int bb_int rfl nn_int) (fun _ _ => ix_ok)) sa_nil)) (fun _ => fMin_ok) g_min E.f_min bb_min rfl nn_min) rfl l__law_size (fun _ => rfl)) fun v_size_26 => ?_
        refine rs_n (st_lcG (g := fun v_parts_35 => [some a_number, some a_deep_here, some a_names, some a_signs, some v_way_1, some v_more_2, some v_size_26, some v_parts_35, none, none]) (i := 7) (own := [("_law_j", 8)]) (Γ1 := [some a_number, some a_deep_here, some a_names, some a_signs, some v_way_1, some v_more_2, some v_size_26, none, none, none]) (it_rg1 (sv_nm (i := 6) rfl v__law_size rfl) g_range E.f_range) rfl (by kernel_rfl) (by kernel_rfl) (tg_nm (i := 8) rfl (by kernel_rfl)) rfl (fun x_36 => turn_nm (Γ1 := [some a_number, some a_deep_here, some a_names, some a_signs, some v_way_1, some v_more_2, some v_size_26, none, some x_36, none]) rfl (vsin (by decide)) (ct_el (sv_callN Tk O hk0 (sa_cons (sv_callP Tk O hk0 (sa_consP (sv_nm (i := 5) rfl (by kernel_rfl) rfl) (sa_consP (sv_nm (i := 8) rfl (by kernel_rfl) rfl) sa_nil)) rfl rfl bn_law_turned (by kernel_rfl) (by kernel_rfl)) (sa_cons (sv_binP (sv_nm (i := 1) rfl (by kernel_rfl) rfl) sv_int sub_ok) (sa_cons (sv_nm (i := 2) rfl (by kernel_rfl) rfl) (sa_cons (sv_nm (i := 3) rfl (by kernel_rfl) rfl) sa_nil)))) rfl rfl bn_law_part (by kernel_rfl) (by kernel_rfl)))) rfl (by kernel_rfl) (fun _ => rfl)) fun v_parts_35 => ?_
        exact rs_ret (sv_tup (sa_cons (sv_ix (sv_lstP (sa_consP sv_str (sa_consP sv_str sa_nil))) (sv_binP (sv_nm (i := 4) rfl v__law_way rfl) sv_int sub_ok) (fun _ _ => ix_ok)) (sa_cons (sv_nm (i := 7) rfl v__law_parts rfl) sa_nil)))
      · refine rs_n (st_asgG (g := fun v_one_51 => [some a_number, some a_deep_here, some a_names, some a_signs, some v_way_1, some v_more_2, none, none, none, some v_one_51]) (i := 9) (sv_callN Tk O hk0 (sa_cons (sv_callP Tk O hk0 (sa_consP (sv_nm (i := 5) rfl v__law_more rfl) (sa_consP sv_int sa_nil)) rfl rfl bn_law_turned g__law_turned (by kernel_rfl)) (sa_cons (sv_binP (sv_nm (i := 1) rfl v__law_deep_here rfl) sv_int sub_ok) (sa_cons (sv_nm (i := 2) rfl v__law_names rfl) (sa_cons (sv_nm (i := 3) rfl v__law_signs rfl) sa_nil)))) rfl rfl bn_law_part g__law_part (by kernel_rfl)) rfl l__law_one (fun _ => rfl)) fun v_one_51 => ?_
        exact rs_ret (sv_if (ts_cmpP (sv_nm (i := 4) rfl v__law_way rfl) sv_int eq_ok) (sv_tupP (sa_consP sv_str (sa_consP (sv_nm (i := 9) rfl v__law_one rfl) sa_nil))) (sv_tup (sa_cons sv_str (sa_cons (sv_nm (i := 9) rfl v__law_one rfl) (sa_cons (sv_binP (sv_nm (i := 5) rfl v__law_more rfl) sv_int mod_ok) sa_nil)))))
include E Tk O in
theorem b_law_inner (a_part_here : T) : RetS (bodyC G N_law_inner d_law_inner (n + 1)) d_law_inner.body [some a_part_here] (f_law_inner call a_part_here) := by
  have v__law_part_here : visB (defScope s_law_inner) "_law_part_here" = true := by kernel_rfl
  have g_list : gloB (defScope s_law_inner) "list" = true := by kernel_rfl
  unfold f_law_inner
  refine rs_if (ts_cmp (sv_ixP (sv_nm (i := 0) rfl v__law_part_here rfl) sv_int ix_ok) (sv_tupP (sa_consP sv_str (sa_consP sv_str sa_nil))) (fun _ _ => in_ok)) ?_ ?_
  · exact rs_ret (sv_ty (sa_cons (sv_ixP (sv_nm (i := 0) rfl v__law_part_here rfl) sv_int ix_ok) sa_nil) (fun _ => fListK_ok) g_list E.f_list bb_list rfl nn_list)
  · exact rs_ret (sv_if (ts_cmp (sv_ixP (sv_nm (i := 0) rfl v__law_part_here rfl) sv_int ix_ok) (sv_tupP (sa_consP sv_str (sa_consP sv_str sa_nil))) (fun _ _ => in_ok)) (sv_lst (sa_cons (sv_ixP (sv_nm (i := 0) rfl v__law_part_here rfl) sv_int ix_ok) sa_nil)) (sv_lstP sa_nil))
include E Tk O in
theorem b_law_walk (a_part_here : T) : RetS (bodyC G N_law_walk d_law_walk (n + 1)) d_law_walk.body [some a_part_here, none, none] (f_law_walk call a_part_here) := by
  have v__law_part_here : visB (defScope s_law_walk) "_law_part_here" = true := by kernel_rfl
  have l__law_found : locB (defScope s_law_walk) "_law_found" = true := by kernel_rfl
  have v__law_found : visB (defScope s_law_walk) "_law_found" = true := by kernel_rfl
  have g__law_inner : gloB (defScope s_law_walk) "_law_inner" = true := by kernel_rfl
  have l__law_one : locB (defScope s_law_walk) "_law_one" = true := by kernel_rfl
  have g__law_walk : gloB (defScope s_law_walk) "_law_walk" = true := by kernel_rfl
  have v__law_one : visB (defScope s_law_walk) "_law_one" = true := by kernel_rfl
  unfold f_law_walk
  refine rs_n (st_asgG (g := fun v_found_1 => [some a_part_here, some v_found_1, none]) (i := 1) (sv_lstP (sa_consP (sv_nm (i := 0) rfl v__law_part_here rfl) sa_nil)) rfl l__law_found (fun _ => rfl)) fun v_found_1 => ?_
  refine rs_n (g := fun s2 : T => [some a_part_here, some s2, none]) (nst_for (a0 := v_found_1) (it_seq (sv_callP Tk O hk0 (sa_consP (sv_nm (i := 0) rfl v__law_part_here rfl) sa_nil) rfl rfl bn_law_inner g__law_inner (by kernel_rfl))) (tg_nm (i := 2) rfl l__law_one) (⟨rfl, ⟨rfl, trivial⟩⟩) fun x_4 s2 => ?_) fun q3 => ?_
  · refine turn_nm (Γ1 := [some a_part_here, some s2, some x_4]) rfl (fun _ e => nomatch e) (NxS.run ?_)
    refine ns_n (st_asgG (g := fun v_found_5 => [some a_part_here, some v_found_5, some x_4]) (i := 1) (sv_bin (sv_nm (i := 1) rfl v__law_found rfl) (sv_callP Tk O hk0 (sa_consP (sv_nm (i := 2) rfl v__law_one rfl) sa_nil) rfl rfl bn_law_walk g__law_walk (by kernel_rfl)) (fun _ _ => add_ok)) rfl l__law_found (fun _ => rfl)) fun v_found_5 => ?_
    exact ns_nil (⟨rfl, ⟨rfl, trivial⟩⟩)
  exact rs_ret (sv_nm (i := 1) rfl v__law_found rfl)
include E Tk O in
theorem b_law_text (a_part_here : T) : RetS (bodyC G N_law_text d_law_text (n + 1)) d_law_text.body [some a_part_here, none, none, none] (f_law_text call a_part_here) := by
  have v__law_part_here : visB (defScope s_law_text) "_law_part_here" = true := by kernel_rfl
  have g__law_text : gloB (defScope s_law_text) "_law_text" = true := by kernel_rfl
  have l__law_texts : locB (defScope s_law_text) "_law_texts" = true := by kernel_rfl
  have v__law_texts : visB (defScope s_law_text) "_law_texts" = true := by kernel_rfl
  have g_len : gloB (defScope s_law_text) "len" = true := by kernel_rfl
  have l__law_one : locB (defScope s_law_text) "_law_one" = true := by kernel_rfl
  have v__law_one : visB (defScope s_law_text) "_law_one" = true := by kernel_rfl
  have l__law_wide : locB (defScope s_law_text) "_law_wide" = true := by kernel_rfl
  have v__law_wide : visB (defScope s_law_text) "_law_wide" = true := by kernel_rfl
  unfold f_law_text
  refine rs_if (ts_cmp (sv_ixP (sv_nm (i := 0) rfl v__law_part_here rfl) sv_int ix_ok) sv_str (fun _ _ => eq_ok)) ?_ ?_
  · exact rs_ret (sv_if (ts_cmp (sv_ixP (sv_nm (i := 0) rfl v__law_part_here rfl) sv_int ix_ok) (sv_tupP (sa_consP sv_str (sa_consP sv_str sa_nil))) (fun _ _ => in_ok)) (sv_ixP (sv_nm (i := 0) rfl v__law_part_here rfl) sv_int ix_ok) (sv_bin (sv_bin sv_str (sv_ixP (sv_nm (i := 0) rfl v__law_part_here rfl) sv_int ix_ok) (fun _ _ => add_ok)) sv_str (fun _ _ => add_ok)))
  · refine rs_if (ts_cmp (sv_ixP (sv_nm (i := 0) rfl v__law_part_here rfl) sv_int ix_ok) sv_str (fun _ _ => eq_ok)) ?_ ?_
    · exact rs_ret (sv_ixP (sv_nm (i := 0) rfl v__law_part_here rfl) sv_int ix_ok)
    · refine rs_if (ts_cmp (sv_ixP (sv_nm (i := 0) rfl v__law_part_here rfl) sv_int ix_ok) sv_str (fun _ _ => eq_ok)) ?_ ?_
      · exact rs_ret (sv_bin (sv_bin sv_str (sv_callN Tk O hk0 (sa_cons (sv_ixP (sv_nm (i := 0) rfl v__law_part_here rfl) sv_int ix_ok) sa_nil) rfl rfl bn_law_text g__law_text (by kernel_rfl)) (fun _ _ => add_ok)) sv_str (fun _ _ => add_ok))
      · refine rs_if (ts_cmp (sv_ixP (sv_nm (i := 0) rfl v__law_part_here rfl) sv_int ix_ok) sv_str (fun _ _ => eq_ok)) ?_ ?_
        · exact rs_ret (sv_bin (sv_bin (sv_bin sv_str (sv_callN Tk O hk0 (sa_cons (sv_ixP (sv_nm (i := 0) rfl v__law_part_here rfl) sv_int ix_ok) sa_nil) rfl rfl bn_law_text g__law_text (by kernel_rfl)) (fun _ _ => add_ok)) sv_str (fun _ _ => add_ok)) (sv_ix (sv_lstP (sa_consP sv_str (sa_consP sv_str sa_nil))) (sv_ixP (sv_nm (i := 0) rfl v__law_part_here rfl) sv_int ix_ok) (fun _ _ => ix_ok)) (fun _ _ => add_ok))
        · refine rs_if (ts_cmp (sv_ixP (sv_nm (i := 0) rfl v__law_part_here rfl) sv_int ix_ok) sv_str (fun _ _ => eq_ok)) ?_ ?_
          · exact rs_ret (sv_join sv_str (sv_comp (own := [("_law_one", 1)]) (Γ1 := [some a_part_here, none, none, none]) (it_seq (sv_ixP (sv_nm (i := 0) rfl v__law_part_here rfl) sv_int ix_ok)) (by kernel_rfl) (tg_nm (i := 1) rfl (by kernel_rfl)) rfl (fun x_33 => turn_nm (Γ1 := [some a_part_here, some x_33, none, none]) rfl (vsin (by decide)) (ct_el (sv_if (ts_cmp (sv_ixP (sv_nm (i := 1) rfl (by kernel_rfl) rfl) sv_int ix_ok) sv_str (fun _ _ => eq_ok)) (sv_bin (sv_bin sv_str (sv_callP Tk O hk0 (sa_consP (sv_nm (i := 1) rfl (by kernel_rfl) rfl) sa_nil) rfl rfl bn_law_text (by kernel_rfl) (by kernel_rfl)) (fun _ _ => add_ok)) sv_str (fun _ _ => add_ok)) (sv_callP Tk O hk0 (sa_consP (sv_nm (i := 1) rfl (by kernel_rfl) rfl) sa_nil) rfl rfl bn_law_text (by kernel_rfl) (by kernel_rfl)))))))
          · refine rs_n (st_asgG (g := fun v_texts_42 => [some a_part_here, none, some v_texts_42, none]) (i := 2) (sv_lstOP sa_nil) rfl l__law_texts (fun _ => rfl)) fun v_texts_42 => ?_
            refine rs_n (g := fun s43 : Unit => [some a_part_here, none, some v_texts_42, none]) (nst_for (a0 := ()) (it_seq (sv_ixP (sv_nm (i := 0) rfl v__law_part_here rfl) sv_int ix_ok)) (tg_nm (i := 1) rfl l__law_one) (⟨rfl, ⟨rfl, trivial⟩⟩) fun x_55 s43 => ?_) fun q44 => ?_
            · refine turn_nm (Γ1 := [some a_part_here, some x_55, some v_texts_42, none]) rfl (fun _ e => nomatch e) (NxS.run ?_)
              refine ns_n (st_asgG (g := fun v_wide_56 => [some a_part_here, some x_55, some v_texts_42, some v_wide_56]) (i := 3) (sv_or (sv_cmp (sv_ixP (sv_nm (i := 1) rfl v__law_one rfl) sv_int ix_ok) sv_str (fun _ _ => eq_ok)) (sv_bool1 (sv_and (sv_cmp (sv_ixP (sv_nm (i := 1) rfl v__law_one rfl) sv_int ix_ok) sv_str (fun _ _ => eq_ok)) (sv_bool1 (sv_cmp (sv_bi (sa_cons (sv_ixP (sv_nm (i := 1) rfl v__law_one rfl) sv_int ix_ok) sa_nil) (fun _ => fLen_ok) g_len E.f_len bb_len rfl nn_len) sv_int (fun _ _ => gt_ok)))))) rfl l__law_wide (fun _ => rfl)) fun v_wide_56 => ?_
              refine ns_n (st_expS (sv_append (sv_nm (i := 2) rfl v__law_texts rfl) (sv_if (ts_val (sv_nm (i := 3) rfl v__law_wide rfl)) (sv_bin (sv_bin sv_str (sv_callP Tk O hk0 (sa_consP (sv_nm (i := 1) rfl v__law_one rfl) sa_nil) rfl rfl bn_law_text g__law_text (by kernel_rfl)) (fun _ _ => add_ok)) sv_str (fun _ _ => add_ok)) (sv_callP Tk O hk0 (sa_consP (sv_nm (i := 1) rfl v__law_one rfl) sa_nil) rfl rfl bn_law_text g__law_text (by kernel_rfl))))) fun _ => ?_
              exact ns_nil (⟨rfl, ⟨rfl, trivial⟩⟩)
            exact rs_ret (sv_if (ts_cmp (sv_biP (sa_consP (sv_nm (i := 2) rfl v__law_texts rfl) sa_nil) (fun _ => fLen_ok) g_len E.f_len bb_len rfl nn_len) sv_int (fun _ _ => lt_ok)) (sv_bin (sv_bin sv_str (sv_join sv_str (sv_nm (i := 2) rfl v__law_texts rfl)) (fun _ _ => add_ok)) sv_str (fun _ _ => add_ok)) (sv_join sv_str (sv_nm (i := 2) rfl v__law_texts rfl)))
include E Tk O in
theorem b_law_built (a_part_here : T) : RetS (bodyC G N_law_built d_law_built (n + 1)) d_law_built.body [some a_part_here, none, none, none] (f_law_built call a_part_here) := by
  have v__law_part_here : visB (defScope s_law_built) "_law_part_here" = true := by kernel_rfl
  have g_Sign : gloB (defScope s_law_built) "Sign" = true := by kernel_rfl
  have g_Name : gloB (defScope s_law_built) "Name" = true := by kernel_rfl
  have g_Row : gloB (defScope s_law_built) "Row" = true := by kernel_rfl
  have v__law_parts : visB (defScope s_law_built) "_law_parts" = true := by kernel_rfl
  have g_Pick : gloB (defScope s_law_built) "Pick" = true := by kernel_rfl
  have l__law_found : locB (defScope s_law_built) "_law_found" = true := by kernel_rfl
  have v__law_found : visB (defScope s_law_built) "_law_found" = true := by kernel_rfl
  have g_Maybe : gloB (defScope s_law_built) "Maybe" = true := by kernel_rfl
  have g__law_built : gloB (defScope s_law_built) "_law_built" = true := by kernel_rfl
  have g_Many : gloB (defScope s_law_built) "Many" = true := by kernel_rfl
  unfold f_law_built
  refine rs_if (ts_cmp (sv_ixP (sv_nm (i := 0) rfl v__law_part_here rfl) sv_int ix_ok) sv_str (fun _ _ => eq_ok)) ?_ ?_
  · exact rs_ret (sv_mkDN Tk O hk1 (sa_cons (sv_ixP (sv_nm (i := 0) rfl v__law_part_here rfl) sv_int ix_ok) sa_nil) rfl rfl bn_Sign_init g_Sign (by kernel_rfl) (by kernel_rfl))
  · refine rs_if (ts_cmp (sv_ixP (sv_nm (i := 0) rfl v__law_part_here rfl) sv_int ix_ok) sv_str (fun _ _ => eq_ok)) ?_ ?_
    · exact rs_ret (sv_mkDN Tk O hk1 (sa_cons (sv_ixP (sv_nm (i := 0) rfl v__law_part_here rfl) sv_int ix_ok) sa_nil) rfl rfl bn_Name_init g_Name (by kernel_rfl) (by kernel_rfl))
    · refine rs_if (ts_cmp (sv_ixP (sv_nm (i := 0) rfl v__law_part_here rfl) sv_int ix_ok) (sv_tupP (sa_consP sv_str (sa_consP sv_str sa_nil))) (fun _ _ => in_ok)) ?_ ?_
      · refine rs_n (st_lcOG (g := fun v_parts_11 => [some a_part_here, some v_parts_11, none, none]) (i := 1) (own := [("_law_one", 2)]) (Γ1 := [some a_part_here, none, none, none]) (it_seq (sv_ixP (sv_nm (i := 0) rfl v__law_part_here rfl) sv_int ix_ok)) rfl (by kernel_rfl) (by kernel_rfl) (tg_nm (i := 2) rfl (by kernel_rfl)) rfl (fun x_12 => turn_nm (Γ1 := [some a_part_here, none, some x_12, none]) rfl (vsin (by decide)) (ct_el (sv_callP Tk O hk0 (sa_consP (sv_nm (i := 2) rfl (by kernel_rfl) rfl) sa_nil) rfl rfl bn_law_built (by kernel_rfl) (by kernel_rfl)))) rfl (by kernel_rfl) (fun _ => rfl)) fun v_parts_11 => ?_
        refine rs_n (st_asgG (g := fun v_found_13 => [some a_part_here, some v_parts_11, none, some v_found_13]) (i := 3) (sv_if (ts_cmp (sv_ixP (sv_nm (i := 0) rfl v__law_part_here rfl) sv_int ix_ok) sv_str (fun _ _ => eq_ok)) (sv_mkDP Tk O hk1 (sa_consP (sv_nm (i := 1) rfl v__law_parts rfl) sa_nil) rfl rfl bn_Row_init_1 g_Row (by kernel_rfl) (by kernel_rfl)) (sv_mkDP Tk O hk1 (sa_consP (sv_nm (i := 1) rfl v__law_parts rfl) sa_nil) rfl rfl bn_Pick_init g_Pick (by kernel_rfl) (by kernel_rfl))) rfl l__law_found (fun _ => rfl)) fun v_found_13 => ?_
        refine rs_n (st_expS (sv_append (sv_nm (i := 1) rfl v__law_parts rfl) (sv_mkDP Tk O hk1 (sa_consP sv_str sa_nil) rfl rfl bn_Name_init g_Name (by kernel_rfl) (by kernel_rfl)))) fun _ => ?_
        exact rs_ret (sv_nm (i := 3) rfl v__law_found rfl)
      · refine rs_if (ts_cmp (sv_ixP (sv_nm (i := 0) rfl v__law_part_here rfl) sv_int ix_ok) sv_str (fun _ _ => eq_ok)) ?_ ?_
        · exact rs_ret (sv_mkDN Tk O hk1 (sa_cons (sv_callN Tk O hk0 (sa_cons (sv_ixP (sv_nm (i := 0) rfl v__law_part_here rfl) sv_int ix_ok) sa_nil) rfl rfl bn_law_built g__law_built (by kernel_rfl)) sa_nil) rfl rfl bn_Maybe_init g_Maybe (by kernel_rfl) (by kernel_rfl))
        · exact rs_ret (sv_mkDN Tk O hk1 (sa_cons (sv_callN Tk O hk0 (sa_cons (sv_ixP (sv_nm (i := 0) rfl v__law_part_here rfl) sv_int ix_ok) sa_nil) rfl rfl bn_law_built g__law_built (by kernel_rfl)) (sa_cons (sv_ixP (sv_nm (i := 0) rfl v__law_part_here rfl) sv_int ix_ok) sa_nil)) rfl rfl bn_Many_init_1 g_Many (by kernel_rfl) (by kernel_rfl))
include E Tk O in
theorem b_law_back (a_part_here : T) : RetS (bodyC G N_law_back d_law_back (n + 1)) d_law_back.body [some a_part_here, none, none] (f_law_back call a_part_here) := by
  have v__law_part_here : visB (defScope s_law_back) "_law_part_here" = true := by kernel_rfl
  have g_isinstance : gloB (defScope s_law_back) "isinstance" = true := by kernel_rfl
  have g_Sign : gloB (defScope s_law_back) "Sign" = true := by kernel_rfl
  have g_Name : gloB (defScope s_law_back) "Name" = true := by kernel_rfl
  have g_Row : gloB (defScope s_law_back) "Row" = true := by kernel_rfl
  have g_Pick : gloB (defScope s_law_back) "Pick" = true := by kernel_rfl
  have l__law_own : locB (defScope s_law_back) "_law_own" = true := by kernel_rfl
  have v__law_own : visB (defScope s_law_back) "_law_own" = true := by kernel_rfl
  have g_Maybe : gloB (defScope s_law_back) "Maybe" = true := by kernel_rfl
  have g_Many : gloB (defScope s_law_back) "Many" = true := by kernel_rfl
  have g_Part : gloB (defScope s_law_back) "Part" = true := by kernel_rfl
  have g_list : gloB (defScope s_law_back) "list" = true := by kernel_rfl
  have g_int : gloB (defScope s_law_back) "int" = true := by kernel_rfl
  have g__law_back : gloB (defScope s_law_back) "_law_back" = true := by kernel_rfl
  have g_bool : gloB (defScope s_law_back) "bool" = true := by kernel_rfl
  unfold f_law_back
  refine rs_n (st_asgG (g := fun v_own_1 => [some a_part_here, some v_own_1, none]) (i := 1) (sv_lst (sa_cons (sv_isC Tk (sv_nm (i := 0) rfl v__law_part_here rfl) g_isinstance (by kernel_rfl) g_Sign (by kernel_rfl)) (sa_cons (sv_isC Tk (sv_nm (i := 0) rfl v__law_part_here rfl) g_isinstance (by kernel_rfl) g_Name (by kernel_rfl)) (sa_cons (sv_isC Tk (sv_nm (i := 0) rfl v__law_part_here rfl) g_isinstance (by kernel_rfl) g_Row (by kernel_rfl)) (sa_cons (sv_isC Tk (sv_nm (i := 0) rfl v__law_part_here rfl) g_isinstance (by kernel_rfl) g_Pick (by kernel_rfl)) sa_nil))))) rfl l__law_own (fun _ => rfl)) fun v_own_1 => ?_
  refine rs_n (st_asgG (g := fun v_own_10 => [some a_part_here, some v_own_10, none]) (i := 1) (sv_bin (sv_nm (i := 1) rfl v__law_own rfl) (sv_lst (sa_cons (sv_isC Tk (sv_nm (i := 0) rfl v__law_part_here rfl) g_isinstance (by kernel_rfl) g_Maybe (by kernel_rfl)) (sa_cons (sv_isC Tk (sv_nm (i := 0) rfl v__law_part_here rfl) g_isinstance (by kernel_rfl) g_Many (by kernel_rfl)) sa_nil))) (fun _ _ => add_ok)) rfl l__law_own (fun _ => rfl)) fun v_own_10 => ?_
  refine rs_if (ws_ts (ws_or (ts_not (ts_val (sv_isC Tk (sv_nm (i := 0) rfl v__law_part_here rfl) g_isinstance (by kernel_rfl) g_Part (by kernel_rfl)))) (ws_or1 (ts_cmp (sv_count (sv_nm (i := 1) rfl v__law_own rfl) sv_bl) sv_int (fun _ _ => ne_ok))))) ?_ ?_
  · exact rs_ret sv_non
  · refine rs_if (ws_ts (ws_or (ts_val (sv_ixP (sv_nm (i := 1) rfl v__law_own rfl) sv_int ix_ok)) (ws_or1 (ts_val (sv_ixP (sv_nm (i := 1) rfl v__law_own rfl) sv_int ix_ok))))) ?_ ?_
    · exact rs_ret (sv_if (ts_val (sv_ixP (sv_nm (i := 1) rfl v__law_own rfl) sv_int ix_ok)) (sv_tup (sa_cons sv_str (sa_cons (sv_fldP Tk (sv_nm (i := 0) rfl v__law_part_here rfl)) sa_nil))) (sv_tup (sa_cons sv_str (sa_cons (sv_fldP Tk (sv_nm (i := 0) rfl v__law_part_here rfl)) sa_nil))))
    · refine rs_if (ws_ts (ws_or (ts_val (sv_ixP (sv_nm (i := 1) rfl v__law_own rfl) sv_int ix_ok)) (ws_or1 (ts_val (sv_ixP (sv_nm (i := 1) rfl v__law_own rfl) sv_int ix_ok))))) ?_ ?_
      · refine rs_if (ts_not (ts_val (sv_isTy (sv_fldP Tk (sv_nm (i := 0) rfl v__law_part_here rfl)) bb_list g_isinstance E.f_isinstance g_list E.f_list rfl nn_list))) ?_ ?_
        · exact rs_ret sv_non
        · exact rs_ret (sv_tup (sa_cons (sv_ix (sv_lstP (sa_consP sv_str (sa_consP sv_str sa_nil))) (sv_ty (sa_cons (sv_ixP (sv_nm (i := 1) rfl v__law_own rfl) sv_int ix_ok) sa_nil) (fun _ => fInt_ok) g_int E.f_int bb_int rfl nn_int) (fun _ _ => ix_ok)) (sa_cons (sv_comp (own := [("_law_one", 2)]) (Γ1 := [some a_part_here, some v_own_10, none]) (it_seq (sv_fldP Tk (sv_nm (i := 0) rfl v__law_part_here rfl))) (by kernel_rfl) (tg_nm (i := 2) rfl (by kernel_rfl)) rfl (fun x_32 => turn_nm (Γ1 := [some a_part_here, some v_own_10, some x_32]) rfl (vsin (by decide)) (ct_el (sv_callP Tk O hk0 (sa_consP (sv_nm (i := 2) rfl (by kernel_rfl) rfl) sa_nil) rfl rfl bn_law_back (by kernel_rfl) (by kernel_rfl))))) sa_nil)))
      · refine rs_if (ts_val (sv_ixP (sv_nm (i := 1) rfl v__law_own rfl) sv_int ix_ok)) ?_ ?_
        · exact rs_ret (sv_tup (sa_cons sv_str (sa_cons (sv_callN Tk O hk0 (sa_cons (sv_fldP Tk (sv_nm (i := 0) rfl v__law_part_here rfl)) sa_nil) rfl rfl bn_law_back g__law_back (by kernel_rfl)) sa_nil)))
        · exact rs_ret (sv_if (ts_not (ts_val (sv_isTy (sv_fldP Tk (sv_nm (i := 0) rfl v__law_part_here rfl)) bb_bool g_isinstance E.f_isinstance g_bool E.f_bool rfl nn_bool))) (sv_tup (sa_cons sv_str (sa_cons (sv_callN Tk O hk0 (sa_cons (sv_fldP Tk (sv_nm (i := 0) rfl v__law_part_here rfl)) sa_nil) rfl rfl bn_law_back g__law_back (by kernel_rfl)) (sa_cons (sv_fldP Tk (sv_nm (i := 0) rfl v__law_part_here rfl)) sa_nil)))) sv_non)
include E Tk O in
theorem b_law_deep (a_part_here : T) : RetS (bodyC G N_law_deep d_law_deep (n + 1)) d_law_deep.body [some a_part_here, none] (f_law_deep call a_part_here) := by
  have g__law_inner : gloB (defScope s_law_deep) "_law_inner" = true := by kernel_rfl
  have v__law_part_here : visB (defScope s_law_deep) "_law_part_here" = true := by kernel_rfl
  have g_max : gloB (defScope s_law_deep) "max" = true := by kernel_rfl
  unfold f_law_deep
  exact rs_ret (sv_bin sv_int (sv_maxDef (sv_comp (own := [("_law_one", 1)]) (Γ1 := [some a_part_here, none]) (it_seq (sv_callP Tk O hk0 (sa_consP (sv_nm (i := 0) rfl v__law_part_here rfl) sa_nil) rfl rfl bn_law_inner g__law_inner (by kernel_rfl))) (by kernel_rfl) (tg_nm (i := 1) rfl (by kernel_rfl)) rfl (fun x_1 => turn_nm (Γ1 := [some a_part_here, some x_1]) rfl (vsin (by decide)) (ct_el (sv_callP Tk O hk0 (sa_consP (sv_nm (i := 1) rfl (by kernel_rfl) rfl) sa_nil) rfl rfl bn_law_deep (by kernel_rfl) (by kernel_rfl))))) sv_int g_max E.f_max) (fun _ _ => add_ok))
include E Tk O in
theorem b_law_is_so (a_found : T) (a_part_here : T) : RetS (bodyC G N_law_is_so d_law_is_so (n + 1)) d_law_is_so.body [some a_found, some a_part_here, none, none, none, none, none] (f_law_is_so call a_found a_part_here) := by
  have v__law_found : visB (defScope s_law_is_so) "_law_found" = true := by kernel_rfl
  have v__law_inner_here : visB (defScope s_law_is_so) "_law_inner_here" = true := by kernel_rfl
  have g_isinstance : gloB (defScope s_law_is_so) "isinstance" = true := by kernel_rfl
  have g_list : gloB (defScope s_law_is_so) "list" = true := by kernel_rfl
  have g__law_inner : gloB (defScope s_law_is_so) "_law_inner" = true := by kernel_rfl
  have v__law_part_here : visB (defScope s_law_is_so) "_law_part_here" = true := by kernel_rfl
  have v__law_walk_here : visB (defScope s_law_is_so) "_law_walk_here" = true := by kernel_rfl
  have g__law_walk : gloB (defScope s_law_is_so) "_law_walk" = true := by kernel_rfl
  have v__law_deep_here : visB (defScope s_law_is_so) "_law_deep_here" = true := by kernel_rfl
  have g_bool : gloB (defScope s_law_is_so) "bool" = true := by kernel_rfl
  have g_int : gloB (defScope s_law_is_so) "int" = true := by kernel_rfl
  have g__law_deep : gloB (defScope s_law_is_so) "_law_deep" = true := by kernel_rfl
  have v__law_text_here : visB (defScope s_law_is_so) "_law_text_here" = true := by kernel_rfl
  have g_str : gloB (defScope s_law_is_so) "str" = true := by kernel_rfl
  have g__law_text : gloB (defScope s_law_is_so) "_law_text" = true := by kernel_rfl
  unfold f_law_is_so
  refine rs_n (nst_par2 (g := fun p7 => [some a_found, some a_part_here, some p7.1, some p7.2, none, none, none]) (i := 2) (j := 3) rfl rfl (by decide) (by kernel_rfl) (by kernel_rfl) (sa_cons (sv_meth0P Tk O hk0 (sv_nm (i := 0) rfl v__law_found rfl) _) (sa_cons (sv_meth0P Tk O hk0 (sv_nm (i := 0) rfl v__law_found rfl) _) sa_nil)) (sw_of fun env => by kernel_rfl) (fun _ _ => rfl)) fun p7 => ?_
  refine rs_if (ws_ts (ws_or (ts_not (ts_val (sv_isTy (sv_nm (i := 2) rfl v__law_inner_here rfl) bb_list g_isinstance E.f_isinstance g_list E.f_list rfl nn_list))) (ws_or1 (ts_cmp (sv_compSO (own := [("_law_one", 4)]) (Γ1 := [some a_found, some a_part_here, some p7.1, some p7.2, none, none, none]) (sv_nm (i := 2) rfl v__law_inner_here rfl) (by kernel_rfl) (tg_nm (i := 4) rfl (by kernel_rfl)) rfl (fun x_8 => turn_nm (Γ1 := [some a_found, some a_part_here, some p7.1, some p7.2, some x_8, none, none]) rfl (vsin (by decide)) (ct_el (sv_callP Tk O hk0 (sa_consP (sv_nm (i := 4) rfl (by kernel_rfl) rfl) sa_nil) rfl rfl bn_law_back (by kernel_rfl) (by kernel_rfl))))) (sv_callP Tk O hk0 (sa_consP (sv_nm (i := 1) rfl v__law_part_here rfl) sa_nil) rfl rfl bn_law_inner g__law_inner (by kernel_rfl)) (fun _ _ => ne_ok))))) ?_ ?_
  · exact rs_ret sv_bl
  · refine rs_if (ws_ts (ws_or (ts_not (ts_val (sv_isTy (sv_nm (i := 3) rfl v__law_walk_here rfl) bb_list g_isinstance E.f_isinstance g_list E.f_list rfl nn_list))) (ws_or1 (ts_cmp (sv_compSO (own := [("_law_one", 4)]) (Γ1 := [some a_found, some a_part_here, some p7.1, some p7.2, none, none, none]) (sv_nm (i := 3) rfl v__law_walk_here rfl) (by kernel_rfl) (tg_nm (i := 4) rfl (by kernel_rfl)) rfl (fun x_11 => turn_nm (Γ1 := [some a_found, some a_part_here, some p7.1, some p7.2, some x_11, none, none]) rfl (vsin (by decide)) (ct_el (sv_callP Tk O hk0 (sa_consP (sv_nm (i := 4) rfl (by kernel_rfl) rfl) sa_nil) rfl rfl bn_law_back (by kernel_rfl) (by kernel_rfl))))) (sv_callP Tk O hk0 (sa_consP (sv_nm (i := 1) rfl v__law_part_here rfl) sa_nil) rfl rfl bn_law_walk g__law_walk (by kernel_rfl)) (fun _ _ => ne_ok))))) ?_ ?_
    · exact rs_ret sv_bl
    · refine rs_n (st_expS (sv_appendP (sv_nm (i := 2) rfl v__law_inner_here rfl) (sv_nm (i := 0) rfl v__law_found rfl))) fun _ => ?_
      refine rs_n (st_expS (sv_clear (sv_nm (i := 3) rfl v__law_walk_here rfl))) fun _ => ?_
      refine rs_n (nst_par2 (g := fun p20 => [some a_found, some a_part_here, some p7.1, some p7.2, none, some p20.1, some p20.2]) (i := 5) (j := 6) rfl rfl (by decide) (by kernel_rfl) (by kernel_rfl) (sa_cons (sv_meth0P Tk O hk0 (sv_nm (i := 0) rfl v__law_found rfl) _) (sa_cons (sv_meth0P Tk O hk0 (sv_nm (i := 0) rfl v__law_found rfl) _) sa_nil)) (sw_of fun env => by kernel_rfl) (fun _ _ => rfl)) fun p20 => ?_
      refine rs_if (ws_ts (ws_or (ts_val (sv_isTy (sv_nm (i := 5) rfl v__law_deep_here rfl) bb_bool g_isinstance E.f_isinstance g_bool E.f_bool rfl nn_bool)) (ws_or (ts_not (ts_val (sv_isTy (sv_nm (i := 5) rfl v__law_deep_here rfl) bb_int g_isinstance E.f_isinstance g_int E.f_int rfl nn_int))) (ws_or1 (ts_cmp (sv_nm (i := 5) rfl v__law_deep_here rfl) (sv_callP Tk O hk0 (sa_consP (sv_nm (i := 1) rfl v__law_part_here rfl) sa_nil) rfl rfl bn_law_deep g__law_deep (by kernel_rfl)) (fun _ _ => ne_ok)))))) ?_ ?_
      · exact rs_ret sv_bl
      · exact rs_ret (sv_and (sv_isTy (sv_nm (i := 6) rfl v__law_text_here rfl) bb_str g_isinstance E.f_isinstance g_str E.f_str rfl nn_str) (sv_bool1 (sv_cmp (sv_nm (i := 6) rfl v__law_text_here rfl) (sv_callP Tk O hk0 (sa_consP (sv_nm (i := 1) rfl v__law_part_here rfl) sa_nil) rfl rfl bn_law_text g__law_text (by kernel_rfl)) (fun _ _ => eq_ok))))
include E Tk O in
theorem b_law (a_script : T) : RetS (bodyC G N_law d_law (n + 1)) d_law.body [some a_script, none, none, none, none, none, none, none, none] (f_law call a_script) := by
  have g_range : gloB (defScope s_law) "range" = true := by kernel_rfl
  have v__law_signs : visB (defScope s_law) "_law_signs" = true := by kernel_rfl
  have g__law_of : gloB (defScope s_law) "_law_of" = true := by kernel_rfl
  have v__law_script : visB (defScope s_law) "_law_script" = true := by kernel_rfl
  have g_Row : gloB (defScope s_law) "Row" = true := by kernel_rfl
  have g_Many : gloB (defScope s_law) "Many" = true := by kernel_rfl
  have g_Sign : gloB (defScope s_law) "Sign" = true := by kernel_rfl
  have l__law_bare : locB (defScope s_law) "_law_bare" = true := by kernel_rfl
  have v__law_bare : visB (defScope s_law) "_law_bare" = true := by kernel_rfl
  have l__law_k : locB (defScope s_law) "_law_k" = true := by kernel_rfl
  have g__law_mixed : gloB (defScope s_law) "_law_mixed" = true := by kernel_rfl
  have v__law_k : visB (defScope s_law) "_law_k" = true := by kernel_rfl
  have l__law_number : locB (defScope s_law) "_law_number" = true := by kernel_rfl
  have g__law_part : gloB (defScope s_law) "_law_part" = true := by kernel_rfl
  have v__law_number : visB (defScope s_law) "_law_number" = true := by kernel_rfl
  have v__law_names : visB (defScope s_law) "_law_names" = true := by kernel_rfl
  have l__law_part_here : locB (defScope s_law) "_law_part_here" = true := by kernel_rfl
  have g__law_built : gloB (defScope s_law) "_law_built" = true := by kernel_rfl
  have v__law_part_here : visB (defScope s_law) "_law_part_here" = true := by kernel_rfl
  have l__law_found : locB (defScope s_law) "_law_found" = true := by kernel_rfl
  have l__law_turn : locB (defScope s_law) "_law_turn" = true := by kernel_rfl
  have g__law_back : gloB (defScope s_law) "_law_back" = true := by kernel_rfl
  have v__law_found : visB (defScope s_law) "_law_found" = true := by kernel_rfl
  have g__law_is_so : gloB (defScope s_law) "_law_is_so" = true := by kernel_rfl
  unfold f_law
  refine rs_n (st_lcG (g := fun v_names_1 => [some a_script, some v_names_1, none, none, none, none, none, none, none]) (i := 1) (own := [("_law_k", 2)]) (Γ1 := [some a_script, none, none, none, none, none, none, none, none]) (it_rg1 sv_int g_range E.f_range) rfl (by kernel_rfl) (by kernel_rfl) (tg_nm (i := 2) rfl (by kernel_rfl)) rfl (fun x_2 => turn_nm (Γ1 := [some a_script, none, some x_2, none, none, none, none, none, none]) rfl (vsin (by decide)) (ct_el (sv_callN Tk O hk0 (sa_cons (sv_callP Tk O hk0 (sa_consP (sv_nm (i := 0) rfl (by kernel_rfl) rfl) (sa_consP sv_int sa_nil)) rfl rfl bn_law_of (by kernel_rfl) (by kernel_rfl)) (sa_cons (sv_nm (i := 2) rfl (by kernel_rfl) rfl) sa_nil)) rfl rfl bn_law_word (by kernel_rfl) (by kernel_rfl)))) rfl (by kernel_rfl) (fun _ => rfl)) fun v_names_1 => ?_
  refine rs_n (st_lcOG (g := fun v_signs_7 => [some a_script, some v_names_1, none, some v_signs_7, none, none, none, none, none]) (i := 3) (own := [("_law_k", 2)]) (Γ1 := [some a_script, some v_names_1, none, none, none, none, none, none, none]) (it_rg1 sv_int g_range E.f_range) rfl (by kernel_rfl) (by kernel_rfl) (tg_nm (i := 2) rfl (by kernel_rfl)) rfl (fun x_8 => turn_nm (Γ1 := [some a_script, some v_names_1, some x_8, none, none, none, none, none, none]) rfl (vsin (by decide)) (ct_el (sv_callN Tk O hk0 (sa_cons (sv_callP Tk O hk0 (sa_consP (sv_nm (i := 0) rfl (by kernel_rfl) rfl) (sa_consP sv_int sa_nil)) rfl rfl bn_law_of (by kernel_rfl) (by kernel_rfl)) (sa_cons (sv_nm (i := 2) rfl (by kernel_rfl) rfl) sa_nil)) rfl rfl bn_law_sign (by kernel_rfl) (by kernel_rfl)))) rfl (by kernel_rfl) (fun _ => rfl)) fun v_signs_7 => ?_
  refine rs_n (nst_ix (sv_ix (sv_lst (sa_cons sv_str (sa_cons sv_str (sa_cons (sv_ixP (sv_nm (i := 3) rfl v__law_signs rfl) sv_int ix_ok) sa_nil)))) (sv_bin (sv_bin (sv_callP Tk O hk0 (sa_consP (sv_nm (i := 0) rfl v__law_script rfl) (sa_consP sv_int sa_nil)) rfl rfl bn_law_of g__law_of (by kernel_rfl)) sv_int (fun _ _ => div_ok)) sv_int (fun _ _ => mod_ok)) (fun _ _ => ix_ok)) (sv_nm (i := 3) rfl v__law_signs rfl) (sv_bin (sv_callP Tk O hk0 (sa_consP (sv_nm (i := 0) rfl v__law_script rfl) (sa_consP sv_int sa_nil)) rfl rfl bn_law_of g__law_of (by kernel_rfl)) sv_int (fun _ _ => mod_ok))) fun _ => ?_
  refine rs_l (g := fun s30 : Unit => [some a_script, some v_names_1, none, some v_signs_7, none, none, none, none, none]) (gl := fun z : Empty => nomatch z) (lst_for (a0 := ()) (it_rg1 sv_int g_range E.f_range) (tg_nm (i := 2) rfl l__law_k) (⟨rfl, ⟨rfl, ⟨rfl, trivial⟩⟩⟩) fun x_63 s30 => ?_) fun q31 => ?_
  · refine turn_nm (Γ1 := [some a_script, some v_names_1, some x_63, some v_signs_7, none, none, none, none, none]) rfl (fun _ e => nomatch e) (BlkS.run ?_)
    refine ls_n (st_asgG (g := fun v_number_64 => [some a_script, some v_names_1, some x_63, some v_signs_7, some v_number_64, none, none, none, none]) (i := 4) (sv_bin (sv_bin (sv_bin (sv_bin (sv_callN Tk O hk0 (sa_cons (sv_nm (i := 0) rfl v__law_script rfl) (sa_cons (sv_binP sv_int (sv_nm (i := 2) rfl v__law_k rfl) add_ok) sa_nil)) rfl rfl bn_law_mixed g__law_mixed (by kernel_rfl)) sv_int (fun _ _ => div_ok)) sv_int (fun _ _ => mul_ok)) (sv_ix (sv_lstP (sa_consP sv_int (sa_consP sv_int (sa_consP sv_int sa_nil)))) (sv_nm (i := 2) rfl v__law_k rfl) (fun _ _ => ix_ok)) (fun _ _ => add_ok)) (sv_bin (sv_bin (sv_callP Tk O hk0 (sa_consP (sv_nm (i := 0) rfl v__law_script rfl) (sa_consP sv_int sa_nil)) rfl rfl bn_law_of g__law_of (by kernel_rfl)) sv_int (fun _ _ => div_ok)) sv_int (fun _ _ => mod_ok)) (fun _ _ => add_ok)) rfl l__law_number (fun _ => rfl)) fun v_number_64 => ?_
    refine ls_n (st_asgG (g := fun v_part_here_83 => [some a_script, some v_names_1, some x_63, some v_signs_7, some v_number_64, some v_part_here_83, none, none, none]) (i := 5) (sv_callN Tk O hk0 (sa_cons (sv_nm (i := 4) rfl v__law_number rfl) (sa_cons sv_int (sa_cons (sv_nm (i := 1) rfl v__law_names rfl) (sa_cons (sv_frz (sv_nm (i := 3) rfl v__law_signs rfl)) sa_nil)))) rfl rfl bn_law_part g__law_part (by kernel_rfl)) rfl l__law_part_here (fun _ => rfl)) fun v_part_here_83 => ?_
    refine ls_n (st_asgG (g := fun v_found_92 => [some a_script, some v_names_1, some x_63, some v_signs_7, some v_number_64, some v_part_here_83, some v_found_92, none, none]) (i := 6) (sv_callP Tk O hk0 (sa_consP (sv_nm (i := 5) rfl v__law_part_here rfl) sa_nil) rfl rfl bn_law_built g__law_built (by kernel_rfl)) rfl l__law_found (fun _ => rfl)) fun v_found_92 => ?_
    refine ls_l (g := fun s93 : Unit => [some a_script, some v_names_1, some x_63, some v_signs_7, some v_number_64, some v_part_here_83, some v_found_92, none, none]) (gl := _) (lst_castE (lst_for (a0 := ()) (it_rg1 sv_int g_range E.f_range) (tg_nm (i := 7) rfl l__law_turn) (⟨rfl, ⟨rfl, ⟨rfl, ⟨rfl, ⟨rfl, ⟨rfl, ⟨rfl, trivial⟩⟩⟩⟩⟩⟩⟩) fun x_95 s93 => ?_)) fun q94 => ?_
    · refine turn_nm (Γ1 := [some a_script, some v_names_1, some x_63, some v_signs_7, some v_number_64, some v_part_here_83, some v_found_92, some x_95, none]) rfl (fun _ e => nomatch e) (BlkS.run ?_)
      refine ls_ifR (ws_ts (ws_or (ts_cmp (sv_callP Tk O hk0 (sa_consP (sv_nm (i := 6) rfl v__law_found rfl) sa_nil) rfl rfl bn_law_back g__law_back (by kernel_rfl)) (sv_nm (i := 5) rfl v__law_part_here rfl) (fun _ _ => ne_ok)) (ws_or1 (ts_not (ts_val (sv_callP Tk O hk0 (sa_consP (sv_nm (i := 6) rfl v__law_found rfl) (sa_consP (sv_nm (i := 5) rfl v__law_part_here rfl) sa_nil)) rfl rfl bn_law_is_so g__law_is_so (by kernel_rfl))))))) ?_ ?_
      · exact rs_ret sv_bl
      · exact ls_nil (⟨rfl, ⟨rfl, ⟨rfl, ⟨rfl, ⟨rfl, ⟨rfl, ⟨rfl, trivial⟩⟩⟩⟩⟩⟩⟩)
    exact ls_nil (⟨rfl, ⟨rfl, ⟨rfl, trivial⟩⟩⟩)
  refine rs_n (st_asgG (g := fun v_bare_32 => [some a_script, some v_names_1, none, some v_signs_7, none, none, none, none, some v_bare_32]) (i := 8) (sv_lst (sa_cons (sv_mkD0 Tk O hk1 rfl rfl bn_Row_init_0 g_Row (by kernel_rfl) (by kernel_rfl)) (sa_cons (sv_mkD Tk O hk1 (sa_cons (sv_mkDP Tk O hk1 (sa_consP sv_str sa_nil) rfl rfl bn_Sign_init g_Sign (by kernel_rfl) (by kernel_rfl)) sa_nil) rfl rfl bn_Many_init_0 g_Many (by kernel_rfl) (by kernel_rfl)) sa_nil))) rfl l__law_bare (fun _ => rfl)) fun v_bare_32 => ?_
  refine rs_if (ws_ts (ws_or (ts_cmp (sv_fld Tk (sv_ixP (sv_nm (i := 8) rfl v__law_bare rfl) sv_int ix_ok)) (sv_lstP sa_nil) (fun _ _ => ne_ok)) (ws_or (ts_cmp (sv_fld Tk (sv_ixP (sv_nm (i := 8) rfl v__law_bare rfl) sv_int ix_ok)) sv_int (fun _ _ => ne_ok)) (ws_or (ts_cmp (sv_meth0 Tk O hk0 (sv_ixP (sv_nm (i := 8) rfl v__law_bare rfl) sv_int ix_ok) _) sv_str (fun _ _ => ne_ok)) (ws_or1 (ts_cmp (sv_meth0 Tk O hk0 (sv_ixP (sv_nm (i := 8) rfl v__law_bare rfl) sv_int ix_ok) _) sv_str (fun _ _ => ne_ok))))))) ?_ ?_
  · exact rs_ret sv_bl
  · exact rs_ret (sv_and (sv_cmp (sv_meth0 Tk O hk0 (sv_mkDN Tk O hk1 (sa_cons (sv_mkDP Tk O hk1 (sa_consP sv_str sa_nil) rfl rfl bn_Sign_init g_Sign (by kernel_rfl) (by kernel_rfl)) (sa_cons sv_int sa_nil)) rfl rfl bn_Many_init_1 g_Many (by kernel_rfl) (by kernel_rfl)) _) sv_str (fun _ _ => eq_ok)) (sv_bool1 (sv_cmp (sv_frz (sv_meth0 Tk O hk0 (sv_ixP (sv_nm (i := 8) rfl v__law_bare rfl) sv_int ix_ok) _)) (sv_lstP sa_nil) (fun _ _ => eq_ok))))
end
noncomputable def tbl (call : Orc) : List (List T → Sh T) := [ar1 (f_Part_inner call),
  ar1 (f_Part_walk call),
  ar1 (f_Part_deep call),
  ar1 (f_Part_text call),
  ar1 (f_Part_element call),
  ar1 (f_Part_way call),
  ar2 (fun a0 a1 => unitR (f_Sign_init call a0 a1)),
  ar1 (f_Sign_text call),
  ar1 (f_Part_inner call),
  ar1 (f_Part_walk call),
  ar1 (f_Part_deep call),
  ar1 (f_Part_element call),
  ar1 (f_Part_way call),
  ar2 (fun a0 a1 => unitR (f_Name_init call a0 a1)),
  ar1 (f_Name_text call),
  ar1 (f_Part_inner call),
  ar1 (f_Part_walk call),
  ar1 (f_Part_deep call),
  ar1 (f_Part_element call),
  ar1 (f_Part_way call),
  ar2 (fun a0 a1 => unitR (f_Row_init call a0 a1)),
  ar1 (f_Row_inner call),
  ar1 (f_Row_text call),
  ar1 (f_Row_element call),
  ar1 (f_Part_walk call),
  ar1 (f_Part_deep call),
  ar1 (f_Part_way call),
  ar2 (fun a0 a1 => unitR (f_Pick_init call a0 a1)),
  ar1 (f_Pick_inner call),
  ar1 (f_Pick_text call),
  ar1 (f_Pick_element call),
  ar1 (f_Pick_way call),
  ar1 (f_Part_walk call),
  ar1 (f_Part_deep call),
  ar2 (fun a0 a1 => unitR (f_Maybe_init call a0 a1)),
  ar1 (f_Maybe_inner call),
  ar1 (f_Maybe_text call),
  ar1 (f_Part_walk call),
  ar1 (f_Part_deep call),
  ar1 (f_Part_element call),
  ar1 (f_Part_way call),
  ar3 (fun a0 a1 a2 => unitR (f_Many_init call a0 a1 a2)),
  ar1 (f_Many_inner call),
  ar1 (f_Many_text call),
  ar1 (f_Part_walk call),
  ar1 (f_Part_deep call),
  ar1 (f_Part_element call),
  ar1 (f_Part_way call),
  ar2 (f_law_of call),
  ar2 (f_law_mixed call),
  ar2 (f_law_turned call),
  ar2 (f_law_word call),
  ar2 (f_law_sign call),
  ar4 (f_law_part call),
  ar1 (f_law_inner call),
  ar1 (f_law_walk call),
  ar1 (f_law_text call),
  ar1 (f_law_built call),
  ar1 (f_law_back call),
  ar1 (f_law_deep call),
  ar2 (f_law_is_so call),
  ar1 (f_law call)]
theorem bn_all {G : Gc} : FA (fun dp => DefBinds G dp.1 dp.2 []) tb.fn := .cons bn_Part_inner (.cons bn_Part_walk (.cons bn_Part_deep (.cons bn_Part_text (.cons bn_Part_element (.cons bn_Part_way (.cons bn_Sign_init (.cons bn_Sign_text (.cons bn_Sign_inner (.cons bn_Sign_walk (.cons bn_Sign_deep (.cons bn_Sign_element (.cons bn_Sign_way (.cons bn_Name_init (.cons bn_Name_text (.cons bn_Name_inner (.cons bn_Name_walk (.cons bn_Name_deep (.cons bn_Name_element (.cons bn_Name_way (.cons bn_Row_init_1 (.cons bn_Row_inner (.cons bn_Row_text (.cons bn_Row_element (.cons bn_Row_walk (.cons bn_Row_deep (.cons bn_Row_way (.cons bn_Pick_init (.cons bn_Pick_inner (.cons bn_Pick_text (.cons bn_Pick_element (.cons bn_Pick_way (.cons bn_Pick_walk (.cons bn_Pick_deep (.cons bn_Maybe_init (.cons bn_Maybe_inner (.cons bn_Maybe_text (.cons bn_Maybe_walk (.cons bn_Maybe_deep (.cons bn_Maybe_element (.cons bn_Maybe_way (.cons bn_Many_init_1 (.cons bn_Many_inner (.cons bn_Many_text (.cons bn_Many_walk (.cons bn_Many_deep (.cons bn_Many_element (.cons bn_Many_way (.cons bn_law_of (.cons bn_law_mixed (.cons bn_law_turned (.cons bn_law_word (.cons bn_law_sign (.cons bn_law_part (.cons bn_law_inner (.cons bn_law_walk (.cons bn_law_text (.cons bn_law_built (.cons bn_law_back (.cons bn_law_deep (.cons bn_law_is_so (.cons bn_law (.nil))))))))))))))))))))))))))))))))))))))))))))))))))))))))))))))
theorem tabOk {G : Gc} {h : Heap} (X : G.K.In h) (M : h.Ns mainGlobals G.mg) (c : SaysB ex fn G.K) : TabOk G tb := by
  obtain ⟨c1, c2⟩ := c.all
  unfold ex more at c1
  simp only [Bool.and_eq_true] at c1
  exact tab_of X M c1.1 c1.2.2.1 c1.2.2.2 bn_all
theorem orc {G : Gc} (E : Env G) (Tk : TabOk G tb) (k : Nat) : OrcOk G (2 * k) tb (callOf tbl k) := callOf_ok (fun n call O => .cons (row1 (fun a0 => defS_ret E.d_Part_inner sc_Part_inner rfl rfl (b_Part_inner E Tk O a0))) (.cons (row1 (fun a0 => defS_ret E.d_Part_walk sc_Part_walk rfl rfl (b_Part_walk E Tk O a0))) (.cons (row1 (fun a0 => defS_ret E.d_Part_deep sc_Part_deep rfl rfl (b_Part_deep E Tk O a0))) (.cons (row1 (fun a0 => defS_ret E.d_Part_text sc_Part_text rfl rfl (b_Part_text E Tk O a0))) (.cons (row1 (fun a0 => defS_ret E.d_Part_element sc_Part_element rfl rfl (b_Part_element E Tk O a0))) (.cons (row1 (fun a0 => defS_ret E.d_Part_way sc_Part_way rfl rfl (b_Part_way E Tk O a0))) (.cons (row2 (fun a0 a1 => defS_nx E.d_Sign_init sc_Sign_init rfl rfl (b_Sign_init E Tk O a0 a1))) (.cons (row1 (fun a0 => defS_ret E.d_Sign_text sc_Sign_text rfl rfl (b_Sign_text E Tk O a0))) (.cons (row1 (fun a0 => defS_ret E.d_Sign_inner sc_Sign_inner rfl rfl (b_Part_inner E Tk O a0))) (.cons (row1 (fun a0 => defS_ret E.d_Sign_walk sc_Sign_walk rfl rfl (b_Part_walk E Tk O a0))) (.cons (row1 (fun a0 => defS_ret E.d_Sign_deep sc_Sign_deep rfl rfl (b_Part_deep E Tk O a0))) (.cons (row1 (fun a0 => defS_ret E.d_Sign_element sc_Sign_element rfl rfl (b_Part_element E Tk O a0))) (.cons (row1 (fun a0 => defS_ret E.d_Sign_way sc_Sign_way rfl rfl (b_Part_way E Tk O a0))) (.cons (row2 (fun a0 a1 => defS_nx E.d_Name_init sc_Name_init rfl rfl (b_Name_init E Tk O a0 a1))) (.cons (row1 (fun a0 => defS_ret E.d_Name_text sc_Name_text rfl rfl (b_Name_text E Tk O a0))) (.cons (row1 (fun a0 => defS_ret E.d_Name_inner sc_Name_inner rfl rfl (b_Part_inner E Tk O a0))) (.cons (row1 (fun a0 => defS_ret E.d_Name_walk sc_Name_walk rfl rfl (b_Part_walk E Tk O a0))) (.cons (row1 (fun a0 => defS_ret E.d_Name_deep sc_Name_deep rfl rfl (b_Part_deep E Tk O a0))) (.cons (row1 (fun a0 => defS_ret E.d_Name_element sc_Name_element rfl rfl (b_Part_element E Tk O a0))) (.cons (row1 (fun a0 => defS_ret E.d_Name_way sc_Name_way rfl rfl (b_Part_way E Tk O a0))) (.cons (row2 (fun a0 a1 => defS_nx E.d_Row_init sc_Row_init rfl rfl (b_Row_init E Tk O a0 a1))) (.cons (row1 (fun a0 => defS_ret E.d_Row_inner sc_Row_inner rfl rfl (b_Row_inner E Tk O a0))) (.cons (row1 (fun a0 => defS_ret E.d_Row_text sc_Row_text rfl rfl (b_Row_text E Tk O a0))) (.cons (row1 (fun a0 => defS_ret E.d_Row_element sc_Row_element rfl rfl (b_Row_element E Tk O a0))) (.cons (row1 (fun a0 => defS_ret E.d_Row_walk sc_Row_walk rfl rfl (b_Part_walk E Tk O a0))) (.cons (row1 (fun a0 => defS_ret E.d_Row_deep sc_Row_deep rfl rfl (b_Part_deep E Tk O a0))) (.cons (row1 (fun a0 => defS_ret E.d_Row_way sc_Row_way rfl rfl (b_Part_way E Tk O a0))) (.cons (row2 (fun a0 a1 => defS_nx E.d_Pick_init sc_Pick_init rfl rfl (b_Pick_init E Tk O a0 a1))) (.cons (row1 (fun a0 => defS_ret E.d_Pick_inner sc_Pick_inner rfl rfl (b_Pick_inner E Tk O a0))) (.cons (row1 (fun a0 => defS_ret E.d_Pick_text sc_Pick_text rfl rfl (b_Pick_text E Tk O a0))) (.cons (row1 (fun a0 => defS_ret E.d_Pick_element sc_Pick_element rfl rfl (b_Pick_element E Tk O a0))) (.cons (row1 (fun a0 => defS_ret E.d_Pick_way sc_Pick_way rfl rfl (b_Pick_way E Tk O a0))) (.cons (row1 (fun a0 => defS_ret E.d_Pick_walk sc_Pick_walk rfl rfl (b_Part_walk E Tk O a0))) (.cons (row1 (fun a0 => defS_ret E.d_Pick_deep sc_Pick_deep rfl rfl (b_Part_deep E Tk O a0))) (.cons (row2 (fun a0 a1 => defS_nx E.d_Maybe_init sc_Maybe_init rfl rfl (b_Maybe_init E Tk O a0 a1))) (.cons (row1 (fun a0 => defS_ret E.d_Maybe_inner sc_Maybe_inner rfl rfl (b_Maybe_inner E Tk O a0))) (.cons (row1 (fun a0 => defS_ret E.d_Maybe_text sc_Maybe_text rfl rfl (b_Maybe_text E Tk O a0))) (.cons (row1 (fun a0 => defS_ret E.d_Maybe_walk sc_Maybe_walk rfl rfl (b_Part_walk E Tk O a0))) (.cons (row1 (fun a0 => defS_ret E.d_Maybe_deep sc_Maybe_deep rfl rfl (b_Part_deep E Tk O a0))) (.cons (row1 (fun a0 => defS_ret E.d_Maybe_element sc_Maybe_element rfl rfl (b_Part_element E Tk O a0))) (.cons (row1 (fun a0 => defS_ret E.d_Maybe_way sc_Maybe_way rfl rfl (b_Part_way E Tk O a0))) (.cons (row3 (fun a0 a1 a2 => defS_nx E.d_Many_init sc_Many_init rfl rfl (b_Many_init E Tk O a0 a1 a2))) (.cons (row1 (fun a0 => defS_ret E.d_Many_inner sc_Many_inner rfl rfl (b_Many_inner E Tk O a0))) (.cons (row1 (fun a0 => defS_ret E.d_Many_text sc_Many_text rfl rfl (b_Many_text E Tk O a0))) (.cons (row1 (fun a0 => defS_ret E.d_Many_walk sc_Many_walk rfl rfl (b_Part_walk E Tk O a0))) (.cons (row1 (fun a0 => defS_ret E.d_Many_deep sc_Many_deep rfl rfl (b_Part_deep E Tk O a0))) (.cons (row1 (fun a0 => defS_ret E.d_Many_element sc_Many_element rfl rfl (b_Part_element E Tk O a0))) (.cons (row1 (fun a0 => defS_ret E.d_Many_way sc_Many_way rfl rfl (b_Part_way E Tk O a0))) (.cons (row2 (fun a0 a1 => defS_ret E.d_law_of sc_law_of rfl rfl (b_law_of E Tk O a0 a1))) (.cons (row2 (fun a0 a1 => defS_ret E.d_law_mixed sc_law_mixed rfl rfl (b_law_mixed E Tk O a0 a1))) (.cons (row2 (fun a0 a1 => defS_ret E.d_law_turned sc_law_turned rfl rfl (b_law_turned E Tk O a0 a1))) (.cons (row2 (fun a0 a1 => defS_ret E.d_law_word sc_law_word rfl rfl (b_law_word E Tk O a0 a1))) (.cons (row2 (fun a0 a1 => defS_ret E.d_law_sign sc_law_sign rfl rfl (b_law_sign E Tk O a0 a1))) (.cons (row4 (fun a0 a1 a2 a3 => defS_ret E.d_law_part sc_law_part rfl rfl (b_law_part E Tk O a0 a1 a2 a3))) (.cons (row1 (fun a0 => defS_ret E.d_law_inner sc_law_inner rfl rfl (b_law_inner E Tk O a0))) (.cons (row1 (fun a0 => defS_ret E.d_law_walk sc_law_walk rfl rfl (b_law_walk E Tk O a0))) (.cons (row1 (fun a0 => defS_ret E.d_law_text sc_law_text rfl rfl (b_law_text E Tk O a0))) (.cons (row1 (fun a0 => defS_ret E.d_law_built sc_law_built rfl rfl (b_law_built E Tk O a0))) (.cons (row1 (fun a0 => defS_ret E.d_law_back sc_law_back rfl rfl (b_law_back E Tk O a0))) (.cons (row1 (fun a0 => defS_ret E.d_law_deep sc_law_deep rfl rfl (b_law_deep E Tk O a0))) (.cons (row2 (fun a0 a1 => defS_ret E.d_law_is_so sc_law_is_so rfl rfl (b_law_is_so E Tk O a0 a1))) (.cons (row1 (fun a0 => defS_ret E.d_law sc_law rfl rfl (b_law E Tk O a0))) (.nil))))))))))))))))))))))))))))))))))))))))))))))))))))))))))))))) k
noncomputable abbrev cal : Nat → Orc := callOf tbl
theorem e_Part_inner (k : Nat) (a0 : T) : cal (k + 1) i_Part_inner [a0] = atCall [a0] (f_Part_inner (cal k) a0) := rfl
theorem e_Part_walk (k : Nat) (a0 : T) : cal (k + 1) i_Part_walk [a0] = atCall [a0] (f_Part_walk (cal k) a0) := rfl
theorem e_Part_deep (k : Nat) (a0 : T) : cal (k + 1) i_Part_deep [a0] = atCall [a0] (f_Part_deep (cal k) a0) := rfl
theorem e_Part_text (k : Nat) (a0 : T) : cal (k + 1) i_Part_text [a0] = atCall [a0] (f_Part_text (cal k) a0) := rfl
theorem e_Part_element (k : Nat) (a0 : T) : cal (k + 1) i_Part_element [a0] = atCall [a0] (f_Part_element (cal k) a0) := rfl
theorem e_Part_way (k : Nat) (a0 : T) : cal (k + 1) i_Part_way [a0] = atCall [a0] (f_Part_way (cal k) a0) := rfl
theorem e_Sign_init (k : Nat) (a0 a1 : T) : cal (k + 1) i_Sign_init [a0, a1] = atCall [a0, a1] (unitR (f_Sign_init (cal k) a0 a1)) := rfl
theorem e_Sign_text (k : Nat) (a0 : T) : cal (k + 1) i_Sign_text [a0] = atCall [a0] (f_Sign_text (cal k) a0) := rfl
theorem e_Sign_inner (k : Nat) (a0 : T) : cal (k + 1) i_Sign_inner [a0] = atCall [a0] (f_Part_inner (cal k) a0) := rfl
theorem e_Sign_walk (k : Nat) (a0 : T) : cal (k + 1) i_Sign_walk [a0] = atCall [a0] (f_Part_walk (cal k) a0) := rfl
theorem e_Sign_deep (k : Nat) (a0 : T) : cal (k + 1) i_Sign_deep [a0] = atCall [a0] (f_Part_deep (cal k) a0) := rfl
theorem e_Sign_element (k : Nat) (a0 : T) : cal (k + 1) i_Sign_element [a0] = atCall [a0] (f_Part_element (cal k) a0) := rfl
theorem e_Sign_way (k : Nat) (a0 : T) : cal (k + 1) i_Sign_way [a0] = atCall [a0] (f_Part_way (cal k) a0) := rfl
theorem e_Name_init (k : Nat) (a0 a1 : T) : cal (k + 1) i_Name_init [a0, a1] = atCall [a0, a1] (unitR (f_Name_init (cal k) a0 a1)) := rfl
theorem e_Name_text (k : Nat) (a0 : T) : cal (k + 1) i_Name_text [a0] = atCall [a0] (f_Name_text (cal k) a0) := rfl
theorem e_Name_inner (k : Nat) (a0 : T) : cal (k + 1) i_Name_inner [a0] = atCall [a0] (f_Part_inner (cal k) a0) := rfl
theorem e_Name_walk (k : Nat) (a0 : T) : cal (k + 1) i_Name_walk [a0] = atCall [a0] (f_Part_walk (cal k) a0) := rfl
theorem e_Name_deep (k : Nat) (a0 : T) : cal (k + 1) i_Name_deep [a0] = atCall [a0] (f_Part_deep (cal k) a0) := rfl
theorem e_Name_element (k : Nat) (a0 : T) : cal (k + 1) i_Name_element [a0] = atCall [a0] (f_Part_element (cal k) a0) := rfl
theorem e_Name_way (k : Nat) (a0 : T) : cal (k + 1) i_Name_way [a0] = atCall [a0] (f_Part_way (cal k) a0) := rfl
theorem e_Row_init (k : Nat) (a0 a1 : T) : cal (k + 1) i_Row_init [a0, a1] = atCall [a0, a1] (unitR (f_Row_init (cal k) a0 a1)) := rfl
theorem e_Row_inner (k : Nat) (a0 : T) : cal (k + 1) i_Row_inner [a0] = atCall [a0] (f_Row_inner (cal k) a0) := rfl
theorem e_Row_text (k : Nat) (a0 : T) : cal (k + 1) i_Row_text [a0] = atCall [a0] (f_Row_text (cal k) a0) := rfl
theorem e_Row_element (k : Nat) (a0 : T) : cal (k + 1) i_Row_element [a0] = atCall [a0] (f_Row_element (cal k) a0) := rfl
theorem e_Row_walk (k : Nat) (a0 : T) : cal (k + 1) i_Row_walk [a0] = atCall [a0] (f_Part_walk (cal k) a0) := rfl
theorem e_Row_deep (k : Nat) (a0 : T) : cal (k + 1) i_Row_deep [a0] = atCall [a0] (f_Part_deep (cal k) a0) := rfl
theorem e_Row_way (k : Nat) (a0 : T) : cal (k + 1) i_Row_way [a0] = atCall [a0] (f_Part_way (cal k) a0) := rfl
theorem e_Pick_init (k : Nat) (a0 a1 : T) : cal (k + 1) i_Pick_init [a0, a1] = atCall [a0, a1] (unitR (f_Pick_init (cal k) a0 a1)) := rfl
theorem e_Pick_inner (k : Nat) (a0 : T) : cal (k + 1) i_Pick_inner [a0] = atCall [a0] (f_Pick_inner (cal k) a0) := rfl
theorem e_Pick_text (k : Nat) (a0 : T) : cal (k + 1) i_Pick_text [a0] = atCall [a0] (f_Pick_text (cal k) a0) := rfl
theorem e_Pick_element (k : Nat) (a0 : T) : cal (k + 1) i_Pick_element [a0] = atCall [a0] (f_Pick_element (cal k) a0) := rfl
theorem e_Pick_way (k : Nat) (a0 : T) : cal (k + 1) i_Pick_way [a0] = atCall [a0] (f_Pick_way (cal k) a0) := rfl
theorem e_Pick_walk (k : Nat) (a0 : T) : cal (k + 1) i_Pick_walk [a0] = atCall [a0] (f_Part_walk (cal k) a0) := rfl
theorem e_Pick_deep (k : Nat) (a0 : T) : cal (k + 1) i_Pick_deep [a0] = atCall [a0] (f_Part_deep (cal k) a0) := rfl
theorem e_Maybe_init (k : Nat) (a0 a1 : T) : cal (k + 1) i_Maybe_init [a0, a1] = atCall [a0, a1] (unitR (f_Maybe_init (cal k) a0 a1)) := rfl
theorem e_Maybe_inner (k : Nat) (a0 : T) : cal (k + 1) i_Maybe_inner [a0] = atCall [a0] (f_Maybe_inner (cal k) a0) := rfl
theorem e_Maybe_text (k : Nat) (a0 : T) : cal (k + 1) i_Maybe_text [a0] = atCall [a0] (f_Maybe_text (cal k) a0) := rfl
theorem e_Maybe_walk (k : Nat) (a0 : T) : cal (k + 1) i_Maybe_walk [a0] = atCall [a0] (f_Part_walk (cal k) a0) := rfl
theorem e_Maybe_deep (k : Nat) (a0 : T) : cal (k + 1) i_Maybe_deep [a0] = atCall [a0] (f_Part_deep (cal k) a0) := rfl
theorem e_Maybe_element (k : Nat) (a0 : T) : cal (k + 1) i_Maybe_element [a0] = atCall [a0] (f_Part_element (cal k) a0) := rfl
theorem e_Maybe_way (k : Nat) (a0 : T) : cal (k + 1) i_Maybe_way [a0] = atCall [a0] (f_Part_way (cal k) a0) := rfl
theorem e_Many_init (k : Nat) (a0 a1 a2 : T) : cal (k + 1) i_Many_init [a0, a1, a2] = atCall [a0, a1, a2] (unitR (f_Many_init (cal k) a0 a1 a2)) := rfl
theorem e_Many_inner (k : Nat) (a0 : T) : cal (k + 1) i_Many_inner [a0] = atCall [a0] (f_Many_inner (cal k) a0) := rfl
theorem e_Many_text (k : Nat) (a0 : T) : cal (k + 1) i_Many_text [a0] = atCall [a0] (f_Many_text (cal k) a0) := rfl
theorem e_Many_walk (k : Nat) (a0 : T) : cal (k + 1) i_Many_walk [a0] = atCall [a0] (f_Part_walk (cal k) a0) := rfl
theorem e_Many_deep (k : Nat) (a0 : T) : cal (k + 1) i_Many_deep [a0] = atCall [a0] (f_Part_deep (cal k) a0) := rfl
theorem e_Many_element (k : Nat) (a0 : T) : cal (k + 1) i_Many_element [a0] = atCall [a0] (f_Part_element (cal k) a0) := rfl
theorem e_Many_way (k : Nat) (a0 : T) : cal (k + 1) i_Many_way [a0] = atCall [a0] (f_Part_way (cal k) a0) := rfl
theorem e_law_of (k : Nat) (a0 a1 : T) : cal (k + 1) i_law_of [a0, a1] = atCall [a0, a1] (f_law_of (cal k) a0 a1) := rfl
theorem e_law_mixed (k : Nat) (a0 a1 : T) : cal (k + 1) i_law_mixed [a0, a1] = atCall [a0, a1] (f_law_mixed (cal k) a0 a1) := rfl
theorem e_law_turned (k : Nat) (a0 a1 : T) : cal (k + 1) i_law_turned [a0, a1] = atCall [a0, a1] (f_law_turned (cal k) a0 a1) := rfl
theorem e_law_word (k : Nat) (a0 a1 : T) : cal (k + 1) i_law_word [a0, a1] = atCall [a0, a1] (f_law_word (cal k) a0 a1) := rfl
theorem e_law_sign (k : Nat) (a0 a1 : T) : cal (k + 1) i_law_sign [a0, a1] = atCall [a0, a1] (f_law_sign (cal k) a0 a1) := rfl
theorem e_law_part (k : Nat) (a0 a1 a2 a3 : T) : cal (k + 1) i_law_part [a0, a1, a2, a3] = atCall [a0, a1, a2, a3] (f_law_part (cal k) a0 a1 a2 a3) := rfl
theorem e_law_inner (k : Nat) (a0 : T) : cal (k + 1) i_law_inner [a0] = atCall [a0] (f_law_inner (cal k) a0) := rfl
theorem e_law_walk (k : Nat) (a0 : T) : cal (k + 1) i_law_walk [a0] = atCall [a0] (f_law_walk (cal k) a0) := rfl
theorem e_law_text (k : Nat) (a0 : T) : cal (k + 1) i_law_text [a0] = atCall [a0] (f_law_text (cal k) a0) := rfl
theorem e_law_built (k : Nat) (a0 : T) : cal (k + 1) i_law_built [a0] = atCall [a0] (f_law_built (cal k) a0) := rfl
theorem e_law_back (k : Nat) (a0 : T) : cal (k + 1) i_law_back [a0] = atCall [a0] (f_law_back (cal k) a0) := rfl
theorem e_law_deep (k : Nat) (a0 : T) : cal (k + 1) i_law_deep [a0] = atCall [a0] (f_law_deep (cal k) a0) := rfl
theorem e_law_is_so (k : Nat) (a0 a1 : T) : cal (k + 1) i_law_is_so [a0, a1] = atCall [a0, a1] (f_law_is_so (cal k) a0 a1) := rfl
theorem e_law (k : Nat) (a0 : T) : cal (k + 1) i_law [a0] = atCall [a0] (f_law (cal k) a0) := rfl
end LK02
namespace LK02
open PySem PySem.Spec PyProof.Rows L2 EN
/-! parts, as the laws and the program have them -/
inductive P where
  | sign (x : Str) | name (x : Str) | row (ps : List P) | pick (ps : List P) | maybe (p : P) | many (p : P) (k : Nat)
/-- by the parts within -/
theorem P.ind {C : P → Prop} (h1 : ∀ x, C (.sign x)) (h2 : ∀ x, C (.name x)) (h3 : ∀ ps, (∀ p ∈ ps, C p) → C (.row ps)) (h4 : ∀ ps, (∀ p ∈ ps, C p) → C (.pick ps)) (h5 : ∀ p, C p → C (.maybe p)) (h6 : ∀ p k, C p → C (.many p k)) : ∀ p, C p :=
  fun p => P.rec (motive_1 := C) (motive_2 := fun ps => ∀ p ∈ ps, C p) h1 h2 h3 h4 h5 (fun p k h => h6 p k h) (fun p hp => nomatch hp) (fun p ps hp hps q hq => by
    rcases List.mem_cons.mp hq with rfl | hq
    · exact hp
    · exact hps q hq) p
mutual
def P.o : P → D
  | .sign x => .ins "Sign" [("sign", .str x)]
  | .name x => .ins "Name" [("name", .str x)]
  | .row ps => .ins "Row" [("parts", .lst (P.oL ps))]
  | .pick ps => .ins "Pick" [("parts", .lst (P.oL ps))]
  | .maybe p => .ins "Maybe" [("part", p.o)]
  | .many p k => .ins "Many" [("part", p.o), ("least", .int k)]
def P.oL : List P → List D
  | [] => []
  | p :: ps => p.o :: P.oL ps
end
theorem P.oL_eq : ∀ ps : List P, P.oL ps = ps.map P.o
  | [] => rfl
  | p :: ps => by rw [P.oL, P.oL_eq ps]; rfl
/-- nested no deeper than so -/
def P.wf (pn ps : Str → Prop) : Nat → P → Prop
  | _, .sign x => ps x
  | _, .name x => pn x
  | 0, .row qs => qs = []
  | d + 1, .row qs => qs.length ≤ 12 ∧ ∀ q ∈ qs, P.wf pn ps d q
  | d + 1, .pick qs => 1 ≤ qs.length ∧ qs.length ≤ 12 ∧ ∀ q ∈ qs, P.wf pn ps d q
  | d + 1, .maybe q => P.wf pn ps d q
  | d + 1, .many q k => k ≤ 1 ∧ P.wf pn ps d q
  | 0, _ => False
theorem tjoin_nil (y : Str) : Txt.join y [] = "" := by rw [_root_.TL.join_eq]; rfl
theorem tjoin_one (y x : Str) : Txt.join y [x] = x := by rw [_root_.TL.join_eq]; rfl
theorem tjoin_cons (y x z : Str) (zs : List Str) : Txt.join y (x :: z :: zs) = x ++ y ++ Txt.join y (z :: zs) := by
  rw [_root_.TL.join_eq, _root_.TL.join_eq]; rfl
theorem tjoin_len (sep : Str) : ∀ ys : List Str, (Txt.join sep ys).length ≤ (ys.map (·.length)).sum + ys.length * sep.length
  | [] => by rw [tjoin_nil]; exact Nat.zero_le _
  | [x] => by rw [tjoin_one]; simp
  | x :: z :: zs => by
    have ih := tjoin_len sep (z :: zs)
    rw [tjoin_cons, slen_append, slen_append]
    simp only [List.map_cons, List.sum_cons, List.length_cons, Nat.add_mul] at ih ⊢
    omega
theorem sum_le {ys : List Str} {n : Nat} (h : ∀ y ∈ ys, y.length ≤ n) : (ys.map (·.length)).sum ≤ ys.length * n := by
  induction ys with
  | nil => simp
  | cons y ys ih =>
    have h1 := h y (by simp)
    have h2 := ih fun z hz => h z (by simp [hz])
    simp only [List.map_cons, List.sum_cons, List.length_cons, Nat.add_mul]
    omega
theorem sapp_assoc (a b c : Str) : a ++ b ++ c = a ++ (b ++ c) := cpL_ext (by simp only [cpL_append, List.append_assoc])
theorem sapp_nil (a : Str) : a ++ "" = a := cpL_ext (by rw [cpL_append]; show cpL a ++ [] = _; simp)
theorem nil_sapp (a : Str) : "" ++ a = a := cpL_ext (by rw [cpL_append]; rfl)
mutual
/-- as the laws have them -/
def P.d : P → D
  | .sign x => .tup [.str "sign", .str x]
  | .name x => .tup [.str "name", .str x]
  | .row ps => .tup [.str "row", .tup (P.dL ps)]
  | .pick ps => .tup [.str "pick", .tup (P.dL ps)]
  | .maybe p => .tup [.str "maybe", p.d]
  | .many p k => .tup [.str "many", p.d, .int k]
def P.dL : List P → List D
  | [] => []
  | p :: ps => p.d :: P.dL ps
end
theorem P.dL_eq : ∀ ps : List P, P.dL ps = ps.map P.d
  | [] => rfl
  | p :: ps => by rw [P.dL, P.dL_eq ps]; rfl
theorem g_sign_sign : decide (("sign" : Str) = "sign") = true := by decide
theorem g_sign_name : decide (("sign" : Str) = "name") = false := by decide
theorem g_sign_row : decide (("sign" : Str) = "row") = false := by decide
theorem g_sign_pick : decide (("sign" : Str) = "pick") = false := by decide
theorem g_sign_maybe : decide (("sign" : Str) = "maybe") = false := by decide
theorem g_sign_many : decide (("sign" : Str) = "many") = false := by decide
theorem g_name_sign : decide (("name" : Str) = "sign") = false := by decide
theorem g_name_name : decide (("name" : Str) = "name") = true := by decide
theorem g_name_row : decide (("name" : Str) = "row") = false := by decide
theorem g_name_pick : decide (("name" : Str) = "pick") = false := by decide
theorem g_name_maybe : decide (("name" : Str) = "maybe") = false := by decide
theorem g_name_many : decide (("name" : Str) = "many") = false := by decide
theorem g_row_sign : decide (("row" : Str) = "sign") = false := by decide
theorem g_row_name : decide (("row" : Str) = "name") = false := by decide
theorem g_row_row : decide (("row" : Str) = "row") = true := by decide
theorem g_row_pick : decide (("row" : Str) = "pick") = false := by decide
theorem g_row_maybe : decide (("row" : Str) = "maybe") = false := by decide
theorem g_row_many : decide (("row" : Str) = "many") = false := by decide
theorem g_pick_sign : decide (("pick" : Str) = "sign") = false := by decide
theorem g_pick_name : decide (("pick" : Str) = "name") = false := by decide
theorem g_pick_row : decide (("pick" : Str) = "row") = false := by decide
theorem g_pick_pick : decide (("pick" : Str) = "pick") = true := by decide
theorem g_pick_maybe : decide (("pick" : Str) = "maybe") = false := by decide
theorem g_pick_many : decide (("pick" : Str) = "many") = false := by decide
theorem g_maybe_sign : decide (("maybe" : Str) = "sign") = false := by decide
theorem g_maybe_name : decide (("maybe" : Str) = "name") = false := by decide
theorem g_maybe_row : decide (("maybe" : Str) = "row") = false := by decide
theorem g_maybe_pick : decide (("maybe" : Str) = "pick") = false := by decide
theorem g_maybe_maybe : decide (("maybe" : Str) = "maybe") = true := by decide
theorem g_maybe_many : decide (("maybe" : Str) = "many") = false := by decide
theorem g_many_sign : decide (("many" : Str) = "sign") = false := by decide
theorem g_many_name : decide (("many" : Str) = "name") = false := by decide
theorem g_many_row : decide (("many" : Str) = "row") = false := by decide
theorem g_many_pick : decide (("many" : Str) = "pick") = false := by decide
theorem g_many_maybe : decide (("many" : Str) = "maybe") = false := by decide
theorem g_many_many : decide (("many" : Str) = "many") = true := by decide
local macro_rules | `(tactic| walk_at "tg") => `(tactic| simp only [P.d, P.dL_eq, x_ixT0, x_ixT1, x_ixT2, bnd_ret, bnd_bnd, x_eqS, x_eqI, x_tst, x_iff, x_andB, x_orB, x_andV, x_orV, if_true, decide_true, ite_true, Bool.false_eq_true, if_false, g_sign_sign, g_sign_name, g_sign_row, g_sign_pick, g_sign_maybe, g_sign_many, g_name_sign, g_name_name, g_name_row, g_name_pick, g_name_maybe, g_name_many, g_row_sign, g_row_name, g_row_row, g_row_pick, g_row_maybe, g_row_many, g_pick_sign, g_pick_name, g_pick_row, g_pick_pick, g_pick_maybe, g_pick_many, g_maybe_sign, g_maybe_name, g_maybe_row, g_maybe_pick, g_maybe_maybe, g_maybe_many, g_many_sign, g_many_name, g_many_row, g_many_pick, g_many_maybe, g_many_many])
/-! texts that are good; parts made -/
abbrev good (x : Str) : Prop := x.length ≤ 12 ∧ ∀ k ∈ cpL x, k < 128
theorem good_str {x : Str} (h : good x) : PyData.strOk x = true := by
  unfold PyData.strOk
  rw [← Array.all_toList, List.all_eq_true]
  intro k hk
  have := h.2 k hk
  exact decide_eq_true (by omega)
theorem toD_ok {m : Sh T} {d : D} {μ μ' : List M} (h : m μ = .ok (.dat d) μ') : toD m μ = .ok (some d) μ' := by
  simp only [toD, bnd_ap, h]; rfl
theorem mk_sign (k : Nat) (x : D) : mkD (cal (k + 1)) i_Sign_init "Sign" [.dat x] = ret (.dat (.ins "Sign" [("sign", x)])) := by
  refine mkD_at (fun a => e_Sign_init k a _) fun μ => ?_
  simp only [unitR, f_Sign_init, bnd_ret, bnd_bnd, bnd_ap]
  rw [setFld_end (by kernel_rfl) (by decide)]
  rfl
theorem mk_name (k : Nat) (x : D) : mkD (cal (k + 1)) i_Name_init "Name" [.dat x] = ret (.dat (.ins "Name" [("name", x)])) := by
  refine mkD_at (fun a => e_Name_init k a _) fun μ => ?_
  simp only [unitR, f_Name_init, bnd_ret, bnd_bnd, bnd_ap]
  rw [setFld_end (by kernel_rfl) (by decide)]
  rfl
theorem mk_maybe (k : Nat) (x : D) : mkD (cal (k + 1)) i_Maybe_init "Maybe" [.dat x] = ret (.dat (.ins "Maybe" [("part", x)])) := by
  refine mkD_at (fun a => e_Maybe_init k a _) fun μ => ?_
  simp only [unitR, f_Maybe_init, bnd_ret, bnd_bnd, bnd_ap]
  rw [setFld_end (by kernel_rfl) (by decide)]
  rfl
theorem mk_pick (k : Nat) (x : List D) : mkD (cal (k + 1)) i_Pick_init "Pick" [.dat (.lst x)] = ret (.dat (.ins "Pick" [("parts", .lst x)])) := by
  refine mkD_at (fun a => e_Pick_init k a _) fun μ => ?_
  simp only [unitR, f_Pick_init, bnd_ret, bnd_bnd, x_listL, x_listKL, bnd_ap]
  rw [setFld_end (by kernel_rfl) (by decide)]
  rfl
theorem mk_row0 (k : Nat) : mkD (cal (k + 1)) i_Row_init "Row" [.non] = ret (.dat (.ins "Row" [("parts", .lst [])])) := by
  refine mkD_at (fun a => e_Row_init k a _) fun μ => ?_
  simp only [unitR, f_Row_init, bnd_ret, bnd_bnd, x_lst0, x_notN, x_tst, x_iff, bnd_ap]
  rw [setFld_end (by kernel_rfl) (by decide)]
  rfl
theorem mk_row (k : Nat) (x : List D) : mkD (cal (k + 1)) i_Row_init "Row" [.dat (.lst x)] = ret (.dat (.ins "Row" [("parts", .lst x)])) := by
  refine mkD_at (fun a => e_Row_init k a _) fun μ => ?_
  simp only [unitR, f_Row_init, bnd_ret, bnd_bnd, x_lst0, x_notN, x_tst, x_iff, isN, Bool.not_false, if_true, x_listL, x_listKL, bnd_ap]
  rw [setFld_end (by kernel_rfl) (by decide)]
  simp only []
  rw [setFld_end (by kernel_rfl) (by decide)]
  rfl
theorem mk_many (k : Nat) (x y : D) : mkD (cal (k + 1)) i_Many_init "Many" [.dat x, .dat y] = ret (.dat (.ins "Many" [("part", x), ("least", y)])) := by
  refine mkD_at (fun a => e_Many_init k a _ _) fun μ => ?_
  simp only [unitR, f_Many_init, bnd_ret, bnd_bnd, bnd_ap]
  rw [setFld_end (by kernel_rfl) (by decide)]
  simp only []
  rw [setFld_end (by kernel_rfl) (by show (1 : Nat) < 1000; decide)]
  rfl
mutual
/-- as some laws have them, in lists -/
def P.e : P → D
  | .sign x => .tup [.str "sign", .str x]
  | .name x => .tup [.str "name", .str x]
  | .row ps => .tup [.str "row", .lst (P.eL ps)]
  | .pick ps => .tup [.str "pick", .lst (P.eL ps)]
  | .maybe p => .tup [.str "maybe", p.e]
  | .many p k => .tup [.str "many", p.e, .int k]
def P.eL : List P → List D
  | [] => []
  | p :: ps => p.e :: P.eL ps
end
theorem P.eL_eq : ∀ ps : List P, P.eL ps = ps.map P.e
  | [] => rfl
  | p :: ps => by rw [P.eL, P.eL_eq ps]; rfl
/-! trees -/
inductive Tr where
  | sign (x : Str) (k : Int) | rule (x : Str) (t : Tr) | pick (k : Int) (t : Tr) | may0 | may (t : Tr) | row (ts : List Tr) | many (ts : List Tr)
mutual
def Tr.d : Tr → D
  | .sign x k => .tup [.str "sign", .str x, .int k]
  | .rule x t => .tup [.str "rule", .str x, t.d]
  | .pick k t => .tup [.str "pick", .int k, t.d]
  | .may0 => .tup [.str "maybe", .non]
  | .may t => .tup [.str "maybe", t.d]
  | .row ts => .tup [.str "row", .tup (Tr.dL ts)]
  | .many ts => .tup [.str "many", .tup (Tr.dL ts)]
def Tr.dL : List Tr → List D
  | [] => []
  | t :: ts => t.d :: Tr.dL ts
end
theorem Tr.dL_eq : ∀ ts : List Tr, Tr.dL ts = ts.map Tr.d
  | [] => rfl
  | t :: ts => by rw [Tr.dL, Tr.dL_eq ts]; rfl
mutual
/-- whether a tree fits a part -/
def Tr.fits (R : Str → Option P) : Tr → P → Bool
  | .sign y _, .sign x => decide (y = x)
  | .rule y t, .name x => decide (y = x) && (match R x with | some q => Tr.fits R t q | none => false)
  | .pick k t, .pick ps => decide (0 ≤ k) && (decide (k < ps.length) && (match ps[k.toNat]? with | some q => Tr.fits R t q | none => false))
  | .may0, .maybe _ => true
  | .may t, .maybe p => Tr.fits R t p
  | .row ts, .row ps => decide (ts.length = ps.length) && Tr.fitsZ R ts ps
  | .many ts, .many p k => decide (k ≤ ts.length) && Tr.fitsA R ts p
  | _, _ => false
def Tr.fitsZ (R : Str → Option P) : List Tr → List P → Bool
  | t :: ts, p :: ps => Tr.fits R t p && Tr.fitsZ R ts ps
  | _, _ => true
def Tr.fitsA (R : Str → Option P) : List Tr → P → Bool
  | t :: ts, p => Tr.fits R t p && Tr.fitsA R ts p
  | [], _ => true
end
/-- no deeper than so, no broader than so -/
def wt (B : Nat) : Nat → Tr → Prop
  | _, .sign x _ => PyData.strOk x = true
  | _, .may0 => True
  | n + 1, .rule x t => PyData.strOk x = true ∧ x.length ≤ B ∧ wt B n t
  | n + 1, .pick _ t => wt B n t
  | n + 1, .may t => wt B n t
  | n + 1, .row ts => ts.length ≤ B ∧ ∀ t ∈ ts, wt B n t
  | n + 1, .many ts => ts.length ≤ B ∧ ∀ t ∈ ts, wt B n t
  | _, _ => False
def Tr.subs : Tr → List Tr
  | .rule _ t => [t] | .pick _ t => [t] | .may t => [t] | .row ts => ts | .many ts => ts | _ => []
def Tr.wide : Tr → Prop
  | .row ts => ts.length ≤ 200 | .many ts => ts.length ≤ 200 | _ => True
theorem wt_subs {B : Nat} : ∀ {n : Nat} {t : Tr}, wt B (n + 1) t → ∀ u ∈ t.subs, wt B n u := by
  intro n t h u hu
  cases t <;> simp only [Tr.subs, List.mem_singleton, List.not_mem_nil] at hu
  case rule x t => subst hu; exact h.2.2
  case pick k t => subst hu; exact h
  case may t => subst hu; exact h
  case row ts => exact h.2 u hu
  case many ts => exact h.2 u hu
theorem wt_wide : ∀ {n : Nat} {t : Tr}, wt 200 n t → t.wide := by
  intro n t h
  cases t <;> first | trivial | (cases n <;> first | exact h.1 | cases h)
theorem wt_zero {B : Nat} {t : Tr} (h : wt B 0 t) : t.subs = [] := by
  cases t <;> first | rfl | cases h
theorem wt_up {B : Nat} : ∀ {n : Nat} {t : Tr}, wt B n t → wt B (n + 1) t := by
  intro n
  induction n with
  | zero => intro t h; cases t <;> first | exact h | cases h
  | succ n ih =>
    intro t h
    cases t
    case sign => exact h
    case may0 => trivial
    case rule x t => exact ⟨h.1, h.2.1, ih h.2.2⟩
    case pick => exact ih h
    case may => exact ih h
    case row => exact ⟨h.1, fun u hu => ih (h.2 u hu)⟩
    case many => exact ⟨h.1, fun u hu => ih (h.2 u hu)⟩
theorem wt_le {B n m : Nat} {t : Tr} (h : wt B n t) (hm : n ≤ m) : wt B m t := by
  induction hm with
  | refl => exact h
  | step _ ih => exact wt_up ih
theorem wt_b {B B' : Nat} (hb : B ≤ B') : ∀ {n : Nat} {t : Tr}, wt B n t → wt B' n t := by
  intro n
  induction n with
  | zero => intro t h; cases t <;> first | exact h | cases h
  | succ n ih =>
    intro t h
    cases t
    case sign => exact h
    case may0 => trivial
    case rule x t => exact ⟨h.1, Nat.le_trans h.2.1 hb, ih h.2.2⟩
    case pick => exact ih h
    case may => exact ih h
    case row => exact ⟨Nat.le_trans h.1 hb, fun u hu => ih (h.2 u hu)⟩
    case many => exact ⟨Nat.le_trans h.1 hb, fun u hu => ih (h.2 u hu)⟩
mutual
/-- a part with names out of N -/
def P.pw (N : Str → Prop) : P → Prop
  | .sign _ => True
  | .name x => N x
  | .row ps => ps.length ≤ 12 ∧ P.pwL N ps
  | .pick ps => ps.length ≤ 12 ∧ P.pwL N ps
  | .maybe p => P.pw N p
  | .many p _ => P.pw N p
def P.pwL (N : Str → Prop) : List P → Prop
  | [] => True
  | p :: ps => P.pw N p ∧ P.pwL N ps
end
theorem P.pwL_iff {N : Str → Prop} : ∀ {ps : List P}, P.pwL N ps ↔ ∀ p ∈ ps, P.pw N p
  | [] => by simp [P.pwL]
  | p :: ps => by simp only [P.pwL, List.mem_cons, forall_eq_or_imp, P.pwL_iff (ps := ps)]
theorem wf_pw {N g : Str → Prop} : ∀ {d : Nat} {p : P}, P.wf N g d p → p.pw N := by
  intro d
  induction d with
  | zero =>
    intro p h
    cases p with
    | sign x => trivial
    | name x => exact h
    | row ps => have : ps = [] := h; subst this; exact ⟨by decide, trivial⟩
    | pick ps => cases h
    | maybe p => cases h
    | many p k => cases h
  | succ d ih =>
    intro p h
    cases p with
    | sign x => trivial
    | name x => exact h
    | row ps => exact ⟨h.1, P.pwL_iff.mpr fun q hq => ih (h.2 q hq)⟩
    | pick ps => exact ⟨h.2.1, P.pwL_iff.mpr fun q hq => ih (h.2.2 q hq)⟩
    | maybe p => exact ih (p := p) h
    | many p k => exact ih (p := p) h.2
/-! symbolic steps -/
theorem isN_non : isN .non = true := rfl
theorem isN_int (i : Int) : isN (.int i) = false := rfl
theorem isN_str (i : Str) : isN (.str i) = false := rfl
theorem isN_lst (i : List D) : isN (.lst i) = false := rfl
theorem isN_tup (i : List D) : isN (.tup i) = false := rfl
theorem isN_tr (t : Tr) : isN t.d = false := by cases t <;> rfl
theorem g_sign_rule : decide (("sign" : Str) = "rule") = false := by decide
theorem g_name_rule : decide (("name" : Str) = "rule") = false := by decide
theorem g_row_rule : decide (("row" : Str) = "rule") = false := by decide
theorem g_pick_rule : decide (("pick" : Str) = "rule") = false := by decide
theorem g_maybe_rule : decide (("maybe" : Str) = "rule") = false := by decide
theorem g_many_rule : decide (("many" : Str) = "rule") = false := by decide
theorem g_rule_sign : decide (("rule" : Str) = "sign") = false := by decide
theorem g_rule_name : decide (("rule" : Str) = "name") = false := by decide
theorem g_rule_row : decide (("rule" : Str) = "row") = false := by decide
theorem g_rule_pick : decide (("rule" : Str) = "pick") = false := by decide
theorem g_rule_maybe : decide (("rule" : Str) = "maybe") = false := by decide
theorem g_rule_many : decide (("rule" : Str) = "many") = false := by decide
theorem g_rule_rule : decide (("rule" : Str) = "rule") = true := by decide
local macro_rules | `(tactic| walk_at "ex") => `(tactic| simp (disch := first | omega | (simp only [slen_append, len0, len1, List.length_append, List.length_cons, List.length_nil, List.length_map] <;> omega) | rfl | decide) only [b_ret, bnd_bnd, post_bnd, post_ret, p_tst, p_notB, p_andB, p_orB, p_notV, p_andV, p_orV, p_negV, p_iff, p_bndI, p_toD, p_unit, p_ch1, p_ch2, p_comp, x_chLe, x_chLt, x_addI, x_subI, x_addS, x_slS, x_lenS, x_mulT, x_addL, x_addT, x_mulS, x_divI, x_modI, x_ltI, x_leI, x_gtI, x_geI, x_eqI, x_eqS, x_eqB, x_neI, x_neS, x_isN, x_notN, x_inT, x_ninT, x_inL, x_ninL, inF_nil, inF_cons, eqF_str, Bool.or_false, Bool.false_or, Bool.true_or, Bool.or_true, x_tst, x_notB, x_andB, x_orB, x_notV, x_andV, x_orV, x_negV, x_iff, x_ixT0, x_ixT1, x_ixT2, x_ixL0, x_ixL1, x_tup0, x_tup1, x_tup2, x_tup3, x_tup4, x_lst0, x_lst1, x_lst2, x_lst3, x_lst4, x_lst5, x_lst6, x_bndI, x_slL, x_slT, x_itL, x_itTu, x_itEnL, x_itEnT, x_zpL, x_zpT, x_lenL, x_lenT, x_intB, x_listL, x_listT, x_listKL, x_listKT, x_listKD, x_tupL, x_max2, x_min2, x_unp2, x_unp3, x_unl2, x_unl3, x_toDr, x_frzD, x_rvL, x_rvT, decide_true, decide_false, if_true, if_false, ite_true, ite_false, Bool.false_eq_true, decide_eq_true_eq, Bool.not_true, Bool.not_false, isN_non, isN_int, isN_str, isN_lst, isN_tup])
local macro_rules | `(tactic| walk_at "te") => `(tactic| simp (disch := first | omega | (simp only [slen_append, len0, len1, List.length_append, List.length_cons, List.length_nil, List.length_map] <;> omega) | rfl | decide) only [b_ret, bnd_bnd, post_bnd, post_ret, p_tst, p_notB, p_andB, p_orB, p_notV, p_andV, p_orV, p_negV, p_iff, p_bndI, p_toD, p_unit, p_ch1, p_ch2, p_comp, x_chLe, x_chLt, x_addI, x_subI, x_addS, x_slS, x_lenS, x_mulT, x_addL, x_addT, x_mulS, x_divI, x_modI, x_ltI, x_leI, x_gtI, x_geI, x_eqI, x_eqS, x_eqB, x_neI, x_neS, x_isN, x_notN, x_inT, x_ninT, x_inL, x_ninL, inF_nil, inF_cons, eqF_str, Bool.or_false, Bool.false_or, Bool.true_or, Bool.or_true, x_tst, x_notB, x_andB, x_orB, x_notV, x_andV, x_orV, x_negV, x_iff, x_ixT0, x_ixT1, x_ixT2, x_ixL0, x_ixL1, x_tup0, x_tup1, x_tup2, x_tup3, x_tup4, x_lst0, x_lst1, x_lst2, x_lst3, x_lst4, x_lst5, x_lst6, x_bndI, x_slL, x_slT, x_itL, x_itTu, x_itEnL, x_itEnT, x_zpL, x_zpT, x_lenL, x_lenT, x_intB, x_listL, x_listT, x_listKL, x_listKT, x_listKD, x_tupL, x_max2, x_min2, x_unp2, x_unp3, x_unl2, x_unl3, x_toDr, x_frzD, x_rvL, x_rvT, decide_true, decide_false, if_true, if_false, ite_true, ite_false, Bool.false_eq_true, decide_eq_true_eq, Bool.not_true, Bool.not_false, isN_non, isN_int, isN_str, isN_lst, isN_tup, isN_tr, P.e, P.eL_eq, P.o, P.oL_eq, Tr.d, Tr.dL_eq, g_sign_sign, g_sign_name, g_sign_row, g_sign_pick, g_sign_maybe, g_sign_many, g_sign_rule, g_name_sign, g_name_name, g_name_row, g_name_pick, g_name_maybe, g_name_many, g_name_rule, g_row_sign, g_row_name, g_row_row, g_row_pick, g_row_maybe, g_row_many, g_row_rule, g_pick_sign, g_pick_name, g_pick_row, g_pick_pick, g_pick_maybe, g_pick_many, g_pick_rule, g_maybe_sign, g_maybe_name, g_maybe_row, g_maybe_pick, g_maybe_maybe, g_maybe_many, g_maybe_rule, g_many_sign, g_many_name, g_many_row, g_many_pick, g_many_maybe, g_many_many, g_many_rule, g_rule_sign, g_rule_name, g_rule_row, g_rule_pick, g_rule_maybe, g_rule_many, g_rule_rule])
def P.isName : P → Bool
  | .name _ => true | _ => false
def P.isSign : P → Bool
  | .sign _ => true | _ => false
def P.isRow : P → Bool
  | .row _ => true | _ => false
def P.isPick : P → Bool
  | .pick _ => true | _ => false
def P.isMaybe : P → Bool
  | .maybe _ => true | _ => false
def P.isMany : P → Bool
  | .many _ _ => true | _ => false
theorem isC_Name (p : P) : opIsC tb "Name" (.dat p.o) = ret (.bl p.isName) := by cases p <;> exact x_isC (by kernel_rfl)
theorem isC_Row (p : P) : opIsC tb "Row" (.dat p.o) = ret (.bl p.isRow) := by cases p <;> exact x_isC (by kernel_rfl)
theorem isC_Pick (p : P) : opIsC tb "Pick" (.dat p.o) = ret (.bl p.isPick) := by cases p <;> exact x_isC (by kernel_rfl)
theorem isC_Many (p : P) : opIsC tb "Many" (.dat p.o) = ret (.bl p.isMany) := by cases p <;> exact x_isC (by kernel_rfl)
theorem isC_Maybe (p : P) : opIsC tb "Maybe" (.dat p.o) = ret (.bl p.isMaybe) := by cases p <;> exact x_isC (by kernel_rfl)
theorem F_name (x : Str) : opFld tb "name" (.dat (P.o (.name x))) = ret (.str x) := x_fld (by kernel_rfl) (by kernel_rfl)
theorem F_parts (ps : List P) : opFld tb "parts" (.dat (P.o (.row ps))) = ret (.dat (.lst (ps.map P.o))) := by rw [← P.oL_eq]; exact x_fld (by kernel_rfl) (by kernel_rfl)
theorem F_partsP (ps : List P) : opFld tb "parts" (.dat (P.o (.pick ps))) = ret (.dat (.lst (ps.map P.o))) := by rw [← P.oL_eq]; exact x_fld (by kernel_rfl) (by kernel_rfl)
theorem F_part (p : P) : opFld tb "part" (.dat (P.o (.maybe p))) = ret (.dat p.o) := x_fld (by kernel_rfl) (by kernel_rfl)
theorem F_partM (p : P) (k : Nat) : opFld tb "part" (.dat (P.o (.many p k))) = ret (.dat p.o) := x_fld (by kernel_rfl) (by kernel_rfl)
theorem F_least (p : P) (k : Nat) : opFld tb "least" (.dat (P.o (.many p k))) = ret (.int (k : Int)) := x_fld (by kernel_rfl) (by kernel_rfl)
local macro_rules | `(tactic| walk_at "tq") => `(tactic| simp (disch := first | omega | (simp only [slen_append, len0, len1, List.length_append, List.length_cons, List.length_nil, List.length_map] <;> omega) | rfl | decide) only [b_ret, bnd_bnd, post_bnd, post_ret, p_tst, p_notB, p_andB, p_orB, p_notV, p_andV, p_orV, p_negV, p_iff, p_bndI, p_toD, p_unit, p_ch1, p_ch2, p_comp, x_chLe, x_chLt, x_addI, x_subI, x_addS, x_slS, x_lenS, x_mulT, x_addL, x_addT, x_mulS, x_divI, x_modI, x_ltI, x_leI, x_gtI, x_geI, x_eqI, x_eqS, x_eqB, x_neI, x_neS, x_isN, x_notN, x_inT, x_ninT, x_inL, x_ninL, inF_nil, inF_cons, eqF_str, Bool.or_false, Bool.false_or, Bool.true_or, Bool.or_true, x_tst, x_notB, x_andB, x_orB, x_notV, x_andV, x_orV, x_negV, x_iff, x_ixT0, x_ixT1, x_ixT2, x_ixL0, x_ixL1, x_tup0, x_tup1, x_tup2, x_tup3, x_tup4, x_lst0, x_lst1, x_lst2, x_lst3, x_lst4, x_lst5, x_lst6, x_bndI, x_slL, x_slT, x_itL, x_itTu, x_itEnL, x_itEnT, x_zpL, x_zpT, x_lenL, x_lenT, x_intB, x_listL, x_listT, x_listKL, x_listKT, x_listKD, x_tupL, x_max2, x_min2, x_unp2, x_unp3, x_unl2, x_unl3, x_toDr, x_frzD, x_rvL, x_rvT, decide_true, decide_false, if_true, if_false, ite_true, ite_false, Bool.false_eq_true, decide_eq_true_eq, Bool.not_true, Bool.not_false, isN_non, isN_int, isN_str, isN_lst, isN_tup,  g_sign_sign, g_sign_name, g_sign_row, g_sign_pick, g_sign_maybe, g_sign_many, g_name_sign, g_name_name, g_name_row, g_name_pick, g_name_maybe, g_name_many, g_row_sign, g_row_name, g_row_row, g_row_pick, g_row_maybe, g_row_many, g_pick_sign, g_pick_name, g_pick_row, g_pick_pick, g_pick_maybe, g_pick_many, g_maybe_sign, g_maybe_name, g_maybe_row, g_maybe_pick, g_maybe_maybe, g_maybe_many, g_many_sign, g_many_name, g_many_row, g_many_pick, g_many_maybe, g_many_many, isC_Name, isC_Row, isC_Pick, isC_Many, isC_Maybe, F_name, F_parts, F_partsP, F_part, F_partM, F_least, P.isName, P.isSign, P.isRow, P.isPick, P.isMany, P.isMaybe])

--CFG {"lev": 20, "M": 5000, "shared": ["pl_parts.txt", "pl_mk.txt", "pl_tree.txt", "pl_ex.txt", "pl_q9.txt"], "eng": ["Px0"], "dicts": ["no_dict"], "more": true, "frzc": {"law": ["_law_signs"]}, "deep": {"walk": ["found"], "_law_is_so": ["_law_inner_here", "_law_walk_here"]}, "retown": [".inner", ".walk"], "after": ["pl02_w.txt", "pl02_a.txt", "pl02_b.txt", "pl02_c.txt", "pl02_d.txt", "pl02_e.txt", "pl02_f.txt", "pl02_g.txt", "pl02_h.txt"]}

def cls (x : Str) : Bool := inF (.str x) [.str "WORD", .str "FIGURES"]
def quo (x : Str) : Str := if cls x = true then x else "'" ++ x ++ "'"
mutual
def P.txt : P → Str
  | .sign x => quo x
  | .name x => x
  | .row ps => if ps.length < 2 then "(" ++ Txt.join " " (P.elL ps) ++ ")" else Txt.join " " (P.elL ps)
  | .pick ps => Txt.join " | " (P.wyL ps)
  | .maybe p => "[" ++ p.txt ++ "]"
  | .many p k => "{" ++ p.txt ++ "}" ++ (if (k : Int) < 1 then "" else "+")
def P.elL : List P → List Str
  | [] => []
  | p :: ps => (match p with
    | .row qs => if qs.length < 2 then p.txt else "(" ++ p.txt ++ ")"
    | .pick _ => "(" ++ p.txt ++ ")"
    | _ => p.txt) :: P.elL ps
def P.wyL : List P → List Str
  | [] => []
  | p :: ps => (match p with
    | .pick _ => "(" ++ p.txt ++ ")"
    | _ => p.txt) :: P.wyL ps
end
def P.el (p : P) : Str := match p with
    | .row qs => if qs.length < 2 then p.txt else "(" ++ p.txt ++ ")"
    | .pick _ => "(" ++ p.txt ++ ")"
    | _ => p.txt
def P.wy (p : P) : Str := match p with
    | .pick _ => "(" ++ p.txt ++ ")"
    | _ => p.txt
theorem P.elL_eq : ∀ ps : List P, P.elL ps = ps.map P.el
  | [] => rfl
  | p :: ps => by cases p <;> simp [P.elL, P.el, P.elL_eq ps]
theorem P.wyL_eq : ∀ ps : List P, P.wyL ps = ps.map P.wy
  | [] => rfl
  | p :: ps => by cases p <;> simp [P.wyL, P.wy, P.wyL_eq ps]
def mt : P → Nat
  | .sign _ => i_Sign_text | .name _ => i_Name_text | .row _ => i_Row_text | .pick _ => i_Pick_text | .maybe _ => i_Maybe_text | .many _ _ => i_Many_text
def me : P → Nat
  | .sign _ => i_Sign_element | .name _ => i_Name_element | .row _ => i_Row_element | .pick _ => i_Pick_element | .maybe _ => i_Maybe_element | .many _ _ => i_Many_element
def mw : P → Nat
  | .sign _ => i_Sign_way | .name _ => i_Name_way | .row _ => i_Row_way | .pick _ => i_Pick_way | .maybe _ => i_Maybe_way | .many _ _ => i_Many_way
theorem M_text (p : P) : opM tb "text" (.dat p.o) = ret (mt p) := by
  cases p <;> exact x_M (by kernel_rfl) (by kernel_rfl)
theorem M_el (p : P) : opM tb "element" (.dat p.o) = ret (me p) := by
  cases p <;> exact x_M (by kernel_rfl) (by kernel_rfl)
theorem M_wy (p : P) : opM tb "way" (.dat p.o) = ret (mw p) := by
  cases p <;> exact x_M (by kernel_rfl) (by kernel_rfl)
theorem G_sign (x : Str) : opFld tb "sign" (.dat (.ins "Sign" [("sign", .str x)])) = ret (.str x) := x_fld (by kernel_rfl) (by kernel_rfl)
theorem G_name (x : Str) : opFld tb "name" (.dat (.ins "Name" [("name", .str x)])) = ret (.str x) := x_fld (by kernel_rfl) (by kernel_rfl)
theorem G_parts (x : D) : opFld tb "parts" (.dat (.ins "Row" [("parts", x)])) = ret (.dat x) := x_fld (by kernel_rfl) (by kernel_rfl)
theorem G_partsP (x : D) : opFld tb "parts" (.dat (.ins "Pick" [("parts", x)])) = ret (.dat x) := x_fld (by kernel_rfl) (by kernel_rfl)
theorem G_part (x : D) : opFld tb "part" (.dat (.ins "Maybe" [("part", x)])) = ret (.dat x) := x_fld (by kernel_rfl) (by kernel_rfl)
theorem G_partM (x y : D) : opFld tb "part" (.dat (.ins "Many" [("part", x), ("least", y)])) = ret (.dat x) := x_fld (by kernel_rfl) (by kernel_rfl)
theorem G_least (x y : D) : opFld tb "least" (.dat (.ins "Many" [("part", x), ("least", y)])) = ret (.dat y) := x_fld (by kernel_rfl) (by kernel_rfl)
theorem inCls (x : Str) : opIn (.str x) (.dat kv_CLASSES) = ret (.bl (cls x)) := x_inT rfl rfl
def Bz : Nat → Nat
  | 0 => 14
  | d + 1 => 12 * (Bz d + 5) + 2
theorem Bz_le : ∀ d, d ≤ 4 → Bz d ≤ 407174 := by decide
theorem Bz_ge : ∀ d, 14 ≤ Bz d
  | 0 => by decide
  | d + 1 => by have := Bz_ge d; simp only [Bz]; omega
abbrev gname (x : Str) : Prop := good x ∧ True
abbrev P.ok (d : Nat) (p : P) : Prop := P.wf gname good d p
theorem l1 (k : Nat) : (⟨#[k]⟩ : Str).length = 1 := rfl
theorem q_quo : ("'" : Str).length = 1 := rfl
theorem q_lp : ("(" : Str).length = 1 := rfl
theorem q_rp : (")" : Str).length = 1 := rfl
theorem q_lb : ("[" : Str).length = 1 := rfl
theorem q_rb : ("]" : Str).length = 1 := rfl
theorem q_lc : ("{" : Str).length = 1 := rfl
theorem q_rc : ("}" : Str).length = 1 := rfl
theorem q_pl : ("+" : Str).length = 1 := rfl
theorem q_em : ("" : Str).length = 0 := rfl
theorem q_sp : (" " : Str).length = 1 := rfl
theorem q_ba : (" | " : Str).length = 3 := rfl
theorem q_eq : (" = " : Str).length = 3 := rfl
theorem q_nl : ("\n" : Str).length = 1 := rfl
local macro_rules | `(tactic| walk_at "ln") => `(tactic| first | omega | (simp only [slen_append, q_quo, q_lp, q_rp, q_lb, q_rb, q_lc, q_rc, q_pl, q_em, q_sp, q_ba, q_eq, q_nl] <;> omega))
theorem quo_len {x : Str} (h : good x) : (quo x).length ≤ 14 := by
  unfold quo
  split
  · exact Nat.le_trans h.1 (by decide)
  · have := h.1; walk_at "ln"
theorem txt_len : ∀ (d : Nat) (p : P), P.ok d p → p.txt.length ≤ Bz d ∧ p.el.length ≤ Bz d + 2 ∧ p.wy.length ≤ Bz d + 2 := by
  intro d
  induction d with
  | zero =>
    intro p h
    cases p with
    | sign x => have := quo_len (x := x) h; simp only [P.el, P.wy, P.txt, Bz]; omega
    | name x => have : x.length ≤ 12 := h.1.1; simp only [P.el, P.wy, P.txt, Bz]; omega
    | row ps =>
      have : ps = [] := h
      subst this
      have : (P.txt (.row [])).length = 2 := by
        simp only [P.txt, P.elL, List.length_nil]
        rw [if_pos (by decide), tjoin_nil]; walk_at "ln"
      simp only [P.el, P.wy, Bz, List.length_nil]
      rw [if_pos (by decide)]; omega
    | pick ps => cases h
    | maybe p => cases h
    | many p k => cases h
  | succ d ih =>
    intro p h
    have hge := Bz_ge d
    cases p with
    | sign x => have := quo_len (x := x) h; simp only [P.el, P.wy, P.txt, Bz]; omega
    | name x => have : x.length ≤ 12 := h.1.1; simp only [P.el, P.wy, P.txt, Bz]; omega
    | row ps =>
      obtain ⟨h1, h2⟩ := h
      have hj := tjoin_len " " (ps.map P.el)
      have hs := sum_le (ys := ps.map P.el) (n := Bz d + 2) (fun y hy => by
        obtain ⟨q, hq, rfl⟩ := List.mem_map.mp hy
        exact (ih q (h2 q hq)).2.1)
      simp only [List.length_map, q_sp] at hj hs
      have hm : ps.length * (Bz d + 2) ≤ 12 * (Bz d + 2) := Nat.mul_le_mul_right _ h1
      have hb : (P.txt (.row ps)).length ≤ 12 * (Bz d + 2) + 14 := by
        simp only [P.txt, P.elL_eq]
        split <;> walk_at "ln"
      have hb2 : (P.el (.row ps)).length ≤ 12 * (Bz d + 2) + 16 := by
        simp only [P.el]
        split
        · omega
        · walk_at "ln"
      simp only [P.wy, Bz]
      omega
    | pick ps =>
      obtain ⟨_, h1, h2⟩ := h
      have hj := tjoin_len " | " (ps.map P.wy)
      have hs := sum_le (ys := ps.map P.wy) (n := Bz d + 2) (fun y hy => by
        obtain ⟨q, hq, rfl⟩ := List.mem_map.mp hy
        exact (ih q (h2 q hq)).2.2)
      simp only [List.length_map, q_ba] at hj hs
      have hm : ps.length * (Bz d + 2) ≤ 12 * (Bz d + 2) := Nat.mul_le_mul_right _ h1
      have hb : (P.txt (.pick ps)).length ≤ 12 * (Bz d + 2) + 36 := by
        simp only [P.txt, P.wyL_eq]
        omega
      have hb2 : (P.el (.pick ps)).length ≤ 12 * (Bz d + 2) + 38 := by
        simp only [P.el]; walk_at "ln"
      have hb3 : (P.wy (.pick ps)).length ≤ 12 * (Bz d + 2) + 38 := by
        simp only [P.wy]; walk_at "ln"
      simp only [Bz]
      omega
    | maybe q =>
      have := (ih q h).1
      have hb : (P.txt (.maybe q)).length ≤ Bz d + 2 := by
        simp only [P.txt]; walk_at "ln"
      simp only [P.el, P.wy, Bz]; omega
    | many q k =>
      have := (ih q h.2).1
      have hb : (P.txt (.many q k)).length ≤ Bz d + 3 := by
        simp only [P.txt]
        split <;> walk_at "ln"
      simp only [P.el, P.wy, Bz]; omega
theorem t_sign (x : Str) (hx : good x) (k : Nat) (μ : List M) : cal (k + 1) i_Sign_text [.dat (P.o (.sign x))] μ = .ok (.str (P.txt (.sign x))) μ := by
  rw [e_Sign_text]
  refine call_dat rfl ?_
  have hx := hx.1
  unfold f_Sign_text
  simp only [P.o, G_sign, bnd_ret, inCls, x_tst, x_iff]
  unfold P.txt quo
  cases h : cls x
  · simp only [Bool.false_eq_true, if_false]
    rw [x_addS (by walk_at "ln"), bnd_ret, x_addS (by walk_at "ln")]
    simp
  · simp
theorem t_name (x : Str) (k : Nat) (μ : List M) : cal (k + 1) i_Name_text [.dat (P.o (.name x))] μ = .ok (.str (P.txt (.name x))) μ := by
  rw [e_Name_text]
  refine call_dat rfl ?_
  unfold f_Name_text
  simp only [P.o, G_name, P.txt, post_ret]
/-- what a class tells of its own by its text -/
theorem elT (p : P) {n : Nat} (h : ∀ μ, cal n (mt p) [.dat p.o] μ = .ok (.str p.txt) μ) (hl : p.txt.length ≤ 1000000) (μ : List M) : cal (n + 1) (me p) [.dat p.o] μ = .ok (.str p.el) μ := by
  have hm := M_text p
  have key : Post (f_Part_element (cal n) (.dat p.o)) [] fun t _ => t = .str p.txt := by
    unfold f_Part_element
    rw [hm, bnd_ret]
    exact Post.of (h []) rfl
  cases p with
  | sign x => rw [me, e_Sign_element]; exact call_dat rfl key
  | name x => rw [me, e_Name_element]; exact call_dat rfl key
  | maybe x => rw [me, e_Maybe_element]; exact call_dat rfl key
  | many x => rw [me, e_Many_element]; exact call_dat rfl key
  | pick qs =>
    rw [me, e_Pick_element]
    refine call_dat rfl ?_
    unfold f_Pick_element
    rw [hm]
    simp only [bnd_ret, bnd_bnd, post_bnd]
    rw [post_eq (h []), x_addS (by walk_at "ln"), post_ret, x_addS (by walk_at "ln"), post_ret]
    rfl
  | row qs =>
    rw [me, e_Row_element]
    refine call_dat rfl ?_
    unfold f_Row_element
    rw [hm]
    simp only [bnd_ret, bnd_bnd]
    simp only [P.o, G_parts, bnd_ret, x_lenL, x_ltI, x_tst, x_iff, P.oL_eq, List.length_map]
    have e : decide (((qs.length : Nat) : Int) < 2) = decide (qs.length < 2) := by
      apply decide_eq_decide.mpr; omega
    simp only [P.el]
    rw [e]
    have h' := h []
    simp only [P.o, P.oL_eq] at h'
    by_cases hq : qs.length < 2
    · simp only [hq, decide_true, if_true]
      exact Post.of h' rfl
    · simp only [hq, decide_false, Bool.false_eq_true, if_false, post_bnd]
      rw [post_eq h', x_addS (by walk_at "ln"), post_ret, x_addS (by walk_at "ln"), post_ret]
theorem wyT (p : P) {n : Nat} (h : ∀ μ, cal n (mt p) [.dat p.o] μ = .ok (.str p.txt) μ) (hl : p.txt.length ≤ 1000000) (μ : List M) : cal (n + 1) (mw p) [.dat p.o] μ = .ok (.str p.wy) μ := by
  have hm := M_text p
  have key : Post (f_Part_way (cal n) (.dat p.o)) [] fun t _ => t = .str p.txt := by
    unfold f_Part_way
    rw [hm, bnd_ret]
    exact Post.of (h []) rfl
  cases p with
  | sign x => rw [mw, e_Sign_way]; exact call_dat rfl key
  | name x => rw [mw, e_Name_way]; exact call_dat rfl key
  | maybe x => rw [mw, e_Maybe_way]; exact call_dat rfl key
  | many x => rw [mw, e_Many_way]; exact call_dat rfl key
  | row x => rw [mw, e_Row_way]; exact call_dat rfl key
  | pick qs =>
    rw [mw, e_Pick_way]
    refine call_dat rfl ?_
    unfold f_Pick_way
    rw [hm]
    simp only [bnd_ret, bnd_bnd, post_bnd]
    rw [post_eq (h []), x_addS (by walk_at "ln"), post_ret, x_addS (by walk_at "ln"), post_ret]
    rfl
theorem toD_dat {m : Sh T} {d : D} {μ : List M} (h : m μ = .ok (.dat d) μ) : toD m μ = .ok (some d) μ := by
  simp only [toD, bnd_ap, h, datOf_dat]
theorem P.ok_le {d : Nat} (hd : d ≤ 4) {p : P} (h : P.ok d p) : p.txt.length ≤ 407174 ∧ p.el.length ≤ 407176 ∧ p.wy.length ≤ 407176 := by
  have a := txt_len d p h
  have b := Bz_le d hd
  omega
theorem text_ok : ∀ d, d ≤ 4 → ∀ p, P.ok d p → ∀ (k : Nat) (μ : List M), cal (2 * d + 1 + k) (mt p) [.dat p.o] μ = .ok (.str p.txt) μ := by
  intro d
  induction d with
  | zero =>
    intro _ p h k μ
    rw [show 2 * 0 + 1 + k = k + 1 by omega]
    cases p with
    | sign x => exact t_sign x h k μ
    | name x => exact t_name x k μ
    | row ps =>
      have : ps = [] := h
      subst this
      rw [mt, e_Row_text]
      refine call_dat rfl ?_
      unfold f_Row_text
      have e : P.txt (.row []) = "(" ++ Txt.join " " [] ++ ")" := by
        simp only [P.txt, P.elL, List.length_nil]
        rw [if_pos (by decide)]
      rw [e]
      simp only [P.o, P.oL, G_parts, bnd_ret, x_itL, bnd_bnd]
      exact ⟨_, _, rfl, rfl⟩
    | pick ps => cases h
    | maybe p => cases h
    | many p k => cases h
  | succ d ih =>
    intro hd p h k μ
    have hd' : d ≤ 4 := by omega
    rw [show 2 * (d + 1) + 1 + k = (2 * d + 1 + k + 1) + 1 by omega]
    have hall := txt_len (d + 1) p h
    have hB := Bz_le (d + 1) hd
    cases p with
    | sign x => exact t_sign x h _ μ
    | name x => exact t_name x _ μ
    | row ps =>
      obtain ⟨h1, h2⟩ := h
      rw [mt, e_Row_text]
      refine call_dat rfl ?_
      unfold f_Row_text
      simp only [P.o, P.oL_eq, G_parts, bnd_ret, x_itL, bnd_bnd, x_lenL, x_ltI, x_tst, x_iff, List.length_map, post_bnd]
      rw [post_eq (comp_mapS (h := P.o) (g := fun q => .str q.el) (fun q hq μ => toD_dat (by
        rw [M_el, bnd_ret]
        exact elT q (ih hd' q (h2 q hq) k) (Nat.le_trans (P.ok_le hd' (h2 q hq)).1 (by decide)) μ)) (by omega) [])]
      have hs := sum_le (ys := ps.map P.el) (n := Bz d + 2) (fun y hy => by
        obtain ⟨q, hq, rfl⟩ := List.mem_map.mp hy
        exact (txt_len d q (h2 q hq)).2.1)
      have hB' := Bz_le d hd'
      simp only [List.length_map] at hs
      have hm : ps.length * (Bz d + 2) ≤ 12 * (Bz d + 2) := Nat.mul_le_mul_right _ h1
      have hj := tjoin_len " " (ps.map P.el)
      simp only [List.length_map, q_sp] at hj
      rw [x_join (ys := ps.map P.el) (by rw [List.map_map]; rfl) (by rw [List.length_map, q_sp]; omega), post_ret]
      have e : decide (((ps.length : Nat) : Int) < 2) = decide (ps.length < 2) := by
        apply decide_eq_decide.mpr; omega
      rw [e]
      simp only [P.txt, P.elL_eq]
      by_cases hq : ps.length < 2
      · simp only [hq, decide_true, if_true]
        rw [x_addS (by walk_at "ln"), bnd_ret, x_addS (by walk_at "ln"), post_ret]
      · simp only [hq, decide_false, Bool.false_eq_true, if_false, post_ret]
    | pick ps =>
      obtain ⟨_, h1, h2⟩ := h
      rw [mt, e_Pick_text]
      refine call_dat rfl ?_
      unfold f_Pick_text
      simp only [P.o, P.oL_eq, G_partsP, bnd_ret, x_itL, post_bnd]
      rw [post_eq (comp_mapS (h := P.o) (g := fun q => .str q.wy) (fun q hq μ => toD_dat (by
        rw [M_wy, bnd_ret]
        exact wyT q (ih hd' q (h2 q hq) k) (Nat.le_trans (P.ok_le hd' (h2 q hq)).1 (by decide)) μ)) (by omega) [])]
      have hs := sum_le (ys := ps.map P.wy) (n := Bz d + 2) (fun y hy => by
        obtain ⟨q, hq, rfl⟩ := List.mem_map.mp hy
        exact (txt_len d q (h2 q hq)).2.2)
      have hB' := Bz_le d hd'
      simp only [List.length_map] at hs
      have hm : ps.length * (Bz d + 2) ≤ 12 * (Bz d + 2) := Nat.mul_le_mul_right _ h1
      rw [x_join (ys := ps.map P.wy) (by rw [List.map_map]; rfl) (by rw [List.length_map, q_ba]; omega), post_ret]
      simp only [P.txt, P.wyL_eq]
    | maybe q =>
      rw [mt, e_Maybe_text]
      refine call_dat rfl ?_
      unfold f_Maybe_text
      have hB' := Bz_le d hd'
      have hq := (txt_len d q h).1
      simp only [P.o, G_part, bnd_ret, bnd_bnd, M_text, post_bnd]
      rw [show 2 * d + 1 + k + 1 = 2 * d + 1 + (k + 1) by omega, post_eq (ih hd' q h (k + 1) []), x_addS (by walk_at "ln"), post_ret, x_addS (by walk_at "ln"), post_ret]
      simp only [P.txt]
    | many q j =>
      rw [mt, e_Many_text]
      refine call_dat rfl ?_
      unfold f_Many_text
      have hB' := Bz_le d hd'
      obtain ⟨hj, h⟩ := h
      have hq := (txt_len d q h).1
      simp only [P.o, G_partM, G_least, bnd_ret, bnd_bnd, M_text, post_bnd]
      rw [show 2 * d + 1 + k + 1 = 2 * d + 1 + (k + 1) by omega, post_eq (ih hd' q h (k + 1) []), x_addS (by walk_at "ln"), post_ret, x_addS (by walk_at "ln"), post_ret, x_mulT (by omega) (by omega), post_ret, x_addS (by split <;> walk_at "ln"), post_ret]
      simp only [P.txt]
      congr 3
      split <;> rfl

/-! the law's own -/

/-! texts are plain -/
def asc (x : Str) : Prop := ∀ k ∈ cpL x, k < 128
theorem asc_app {a b : Str} (h : asc a) (h' : asc b) : asc (a ++ b) := fun k hk => by
  rw [cpL_append] at hk
  rcases List.mem_append.mp hk with hk | hk
  · exact h k hk
  · exact h' k hk
theorem asc_join {s : Str} (hs : asc s) : ∀ {ys : List Str}, (∀ y ∈ ys, asc y) → asc (Txt.join s ys)
  | [], _ => by rw [tjoin_nil]; exact fun k hk => nomatch hk
  | [y], h => by rw [tjoin_one]; exact h y (by simp)
  | y :: z :: ys, h => by
    rw [tjoin_cons]
    exact asc_app (asc_app (h y (by simp)) hs) (asc_join hs fun w hw => h w (by simp [hw]))
theorem asc_lit : asc "(" ∧ asc ")" ∧ asc "[" ∧ asc "]" ∧ asc "{" ∧ asc "}" ∧ asc "+" ∧ asc "" ∧ asc " " ∧ asc " | " ∧ asc "'" := by
  refine ⟨?_, ?_, ?_, ?_, ?_, ?_, ?_, ?_, ?_, ?_, ?_⟩ <;> (unfold asc; decide)
theorem asc_quo {x : Str} (h : asc x) : asc (quo x) := by
  unfold quo
  split
  · exact h
  · exact asc_app (asc_app asc_lit.2.2.2.2.2.2.2.2.2.2 h) asc_lit.2.2.2.2.2.2.2.2.2.2
theorem txt_asc : ∀ (d : Nat) (p : P), P.ok d p → asc p.txt ∧ asc p.el ∧ asc p.wy := by
  obtain ⟨l1, l2, l3, l4, l5, l6, l7, l8, l9, l10, l11⟩ := asc_lit
  have pr : ∀ {x : Str}, asc x → asc ("(" ++ x ++ ")") := fun h => asc_app (asc_app l1 h) l2
  have row : ∀ (d : Nat) (ps : List P), (∀ q ∈ ps, asc q.txt ∧ asc q.el ∧ asc q.wy) → asc (P.txt (.row ps)) ∧ asc (P.el (.row ps)) ∧ asc (P.wy (.row ps)) := by
    intro d ps hq
    have h : asc (P.txt (.row ps)) := by
      simp only [P.txt, P.elL_eq]
      have hj : asc (Txt.join " " (ps.map P.el)) := asc_join l9 fun y hy => by
        obtain ⟨q, hq', rfl⟩ := List.mem_map.mp hy
        exact (hq q hq').2.1
      split
      · exact pr hj
      · exact hj
    refine ⟨h, ?_, h⟩
    simp only [P.el]
    split
    · exact h
    · exact pr h
  intro d
  induction d with
  | zero =>
    intro p h
    cases p with
    | sign x => exact ⟨asc_quo h.2, asc_quo h.2, asc_quo h.2⟩
    | name x => exact ⟨h.1.2, h.1.2, h.1.2⟩
    | row ps => have : ps = [] := h; subst this; exact row 0 [] fun q hq => nomatch hq
    | pick ps => cases h
    | maybe p => cases h
    | many p k => cases h
  | succ d ih =>
    intro p h
    cases p with
    | sign x => exact ⟨asc_quo h.2, asc_quo h.2, asc_quo h.2⟩
    | name x => exact ⟨h.1.2, h.1.2, h.1.2⟩
    | row ps => exact row d ps fun q hq => ih q (h.2 q hq)
    | pick ps =>
      have hj : asc (P.txt (.pick ps)) := by
        simp only [P.txt, P.wyL_eq]
        exact asc_join l10 fun y hy => by
          obtain ⟨q, hq', rfl⟩ := List.mem_map.mp hy
          exact (ih q (h.2.2 q hq')).2.2
      exact ⟨hj, pr hj, pr hj⟩
    | maybe q =>
      have hj : asc (P.txt (.maybe q)) := by
        simp only [P.txt]
        exact asc_app (asc_app l3 (ih q h).1) l4
      exact ⟨hj, hj, hj⟩
    | many q k =>
      have hj : asc (P.txt (.many q k)) := by
        simp only [P.txt]
        refine asc_app (asc_app (asc_app l5 (ih q h.2).1) l6) ?_
        split
        · exact l8
        · exact l7
      exact ⟨hj, hj, hj⟩
theorem asc_str {x : Str} (h : asc x) : PyData.strOk x = true := by
  unfold PyData.strOk
  rw [← Array.all_toList, List.all_eq_true]
  intro k hk
  have := h k hk
  exact decide_eq_true (by omega)

/-! a part's walk -/
def P.inner : P → List P
  | .row ps => ps | .pick ps => ps | .maybe p => [p] | .many p _ => [p] | _ => []
mutual
def P.walk : P → List P
  | .row ps => .row ps :: P.walkL ps
  | .pick ps => .pick ps :: P.walkL ps
  | .maybe p => .maybe p :: P.walk p
  | .many p k => .many p k :: P.walk p
  | .sign x => [.sign x]
  | .name x => [.name x]
def P.walkL : List P → List P
  | [] => []
  | p :: ps => P.walk p ++ P.walkL ps
end
theorem P.walk_eq (p : P) : p.walk = p :: P.walkL p.inner := by
  cases p <;> simp [P.walk, P.inner, P.walkL]
theorem P.mem_walkL {q : P} : ∀ {ps : List P}, q ∈ P.walkL ps ↔ ∃ p ∈ ps, q ∈ p.walk
  | [] => by simp [P.walkL]
  | p :: ps => by simp [P.walkL, P.mem_walkL (ps := ps)]
def Wz : Nat → Nat
  | 0 => 1
  | d + 1 => 1 + 12 * Wz d
theorem Wz_ge : ∀ d, 1 ≤ Wz d
  | 0 => by decide
  | d + 1 => by simp only [Wz]; omega
theorem wf_inner {N g : Str → Prop} {d : Nat} {p : P} (h : P.wf N g (d + 1) p) : p.inner.length ≤ 12 ∧ ∀ q ∈ p.inner, P.wf N g d q := by
  cases p with
  | sign x => exact ⟨by simp [P.inner], fun q hq => nomatch hq⟩
  | name x => exact ⟨by simp [P.inner], fun q hq => nomatch hq⟩
  | row ps => exact ⟨h.1, h.2⟩
  | pick ps => exact ⟨h.2.1, h.2.2⟩
  | maybe p => exact ⟨by simp [P.inner], fun q hq => by rw [List.mem_singleton.mp hq]; exact h⟩
  | many p k => exact ⟨by simp [P.inner], fun q hq => by rw [List.mem_singleton.mp hq]; exact h.2⟩
theorem wf_inner0 {N g : Str → Prop} {p : P} (h : P.wf N g 0 p) : p.inner = [] := by
  cases p <;> first | rfl | (exact h) | cases h
theorem walk_len {N g : Str → Prop} : ∀ {d : Nat} {p : P}, P.wf N g d p → p.walk.length ≤ Wz d := by
  intro d
  induction d with
  | zero => intro p h; rw [P.walk_eq, wf_inner0 h]; exact Nat.le_refl 1
  | succ d ih =>
    intro p h
    obtain ⟨h1, h2⟩ := wf_inner h
    have key : ∀ ps : List P, (∀ q ∈ ps, P.wf N g d q) → (P.walkL ps).length ≤ ps.length * Wz d := by
      intro ps
      induction ps with
      | nil => intro _; exact Nat.zero_le _
      | cons q ps ihp =>
        intro hq
        have a := ih (hq q (by simp))
        have b := ihp fun r hr => hq r (by simp [hr])
        simp only [P.walkL, List.length_append, List.length_cons, Nat.add_mul]
        omega
    have := key _ h2
    have m : p.inner.length * Wz d ≤ 12 * Wz d := Nat.mul_le_mul_right _ h1
    rw [P.walk_eq]
    simp only [List.length_cons, Wz]
    omega
theorem lp_walk {e : P → D} {F : T → T → Sh T} : ∀ (ps : List P) (acc : List P) (b : Nat) (hF : ∀ q ∈ ps, ∀ acc : List P, acc.length ≤ 10000000 → F (.dat (e q)) (.dat (.lst (acc.map e))) = ret (.dat (.lst ((acc ++ q.walk).map e)))), (∀ q ∈ ps, q.walk.length ≤ b) → acc.length + ps.length * b ≤ 10000000 → forN F (dats (ps.map e)) (.dat (.lst (acc.map e))) = ret (.dat (.lst ((acc ++ P.walkL ps).map e))) := by
  intro ps
  induction ps with
  | nil => intro acc b _ _ _; simp only [List.map_nil, dats, forN, P.walkL, List.append_nil]
  | cons q ps ih =>
    intro acc b hF hb hl
    have hq := hb q (by simp)
    simp only [List.length_cons, Nat.add_mul] at hl
    show bnd (F (.dat (e q)) _) (forN F (dats (ps.map e))) = _
    rw [hF q (by simp) acc (by omega), bnd_ret, ih (acc ++ q.walk) b (fun r hr => hF r (by simp [hr])) (fun r hr => hb r (by simp [hr])) (by rw [List.length_append]; omega)]
    simp only [P.walkL, List.append_assoc]
theorem Wle : ∀ d, d ≤ 4 → 12 * Wz d ≤ 300000 := by decide
theorem isC_Sign (p : P) : opIsC tb "Sign" (.dat p.o) = ret (.bl p.isSign) := by cases p <;> exact x_isC (by kernel_rfl)
theorem isC_Part (p : P) : opIsC tb "Part" (.dat p.o) = ret (.bl true) := by cases p <;> exact x_isC (by kernel_rfl)
theorem own_call {us : List T} {f : Sh T} {ds : List D} {μ : List M} (hu : allDat us = true) (h : Post f [] fun t μ' => ∃ i, t = .own i ∧ μ'[i]? = some (.lst (dats ds))) : atCall us f μ = .ok (.own μ.length) (μ ++ [.lst (dats ds)]) := by
  obtain ⟨t, μ', e, i, rfl, hi⟩ := h
  unfold atCall
  rw [if_pos hu, e]
  simp only [hi, undat_dats]
/-! the law's inner, walk -/
theorem inner_ok (n : Nat) (p : P) : cal (n + 1) i_law_inner [.dat p.e] = ret (.dat (.lst (p.inner.map P.e))) := by
  rw [e_law_inner]
  refine call_ret rfl ?_
  unfold f_law_inner
  cases p <;> walk_at "te" <;> simp [P.inner]
theorem walk_ok {N g : Str → Prop} (n : Nat) : ∀ (d : Nat), d ≤ 4 → ∀ p : P, P.wf N g d p → cal (d + 2 + n) i_law_walk [.dat p.e] = ret (.dat (.lst (p.walk.map P.e))) := by
  have lp : ∀ {F : T → T → Sh T} (ps : List P) (acc : List P) (b : Nat) (hF : ∀ q ∈ ps, ∀ acc : List P, acc.length ≤ 10000000 → F (.dat q.e) (.dat (.lst (acc.map P.e))) = ret (.dat (.lst ((acc ++ q.walk).map P.e)))), (∀ q ∈ ps, q.walk.length ≤ b) → acc.length + ps.length * b ≤ 10000000 → forN F (dats (ps.map P.e)) (.dat (.lst (acc.map P.e))) = ret (.dat (.lst ((acc ++ P.walkL ps).map P.e))) := by
    intro F ps
    induction ps with
    | nil => intro acc b _ _ _; simp only [List.map_nil, dats, forN, P.walkL, List.append_nil]
    | cons q ps ih =>
      intro acc b hF hb hl
      have hq := hb q (by simp)
      simp only [List.length_cons, Nat.add_mul] at hl
      show bnd (F (.dat q.e) _) (forN F (dats (ps.map P.e))) = _
      rw [hF q (by simp) acc (by omega), bnd_ret, ih (acc ++ q.walk) b (fun r hr => hF r (by simp [hr])) (fun r hr => hb r (by simp [hr])) (by rw [List.length_append]; omega)]
      simp only [P.walkL, List.append_assoc]
  intro d
  induction d with
  | zero =>
    intro _ p h
    rw [show 0 + 2 + n = n + 1 + 1 by omega, e_law_walk]
    refine call_ret rfl ?_
    unfold f_law_walk
    walk_at "ex"
    rw [inner_ok, post_ret, wf_inner0 h]
    walk_at "ex"
    show Post (ret (T.dat (.lst [p.e]))) [] _
    rw [post_ret, P.walk_eq, wf_inner0 h]
    rfl
  | succ d ih =>
    intro hd p h
    obtain ⟨h1, h2⟩ := wf_inner h
    rw [show d + 1 + 2 + n = d + 1 + n + 1 + 1 by omega, e_law_walk]
    refine call_ret rfl ?_
    unfold f_law_walk
    walk_at "ex"
    rw [inner_ok, post_ret]
    walk_at "ex"
    have := Wle d (by omega)
    have hm : p.inner.length * Wz d ≤ 12 * Wz d := Nat.mul_le_mul_right _ h1
    rw [show D.lst [p.e] = D.lst ([p].map P.e) from rfl, post_r (lp p.inner [p] (Wz d) (fun q hq acc ha => ?_) (fun q hq => walk_len (h2 q hq)) (by simp; omega))]
    · rw [P.walk_eq p]; rfl
    · have hq2 := walk_len (h2 q hq)
      have hw := Wz_ge d
      rw [show d + 1 + n + 1 = d + 2 + n by omega, ih (by omega) q (h2 q hq), bnd_ret, x_addL (by simp; omega), bnd_ret, List.map_append]
theorem wf_walk {N g : Str → Prop} : ∀ {d : Nat} {p : P}, P.wf N g d p → ∀ q ∈ p.walk, ∃ e, e ≤ d ∧ P.wf N g e q := by
  intro d
  induction d with
  | zero =>
    intro p h q hq
    rw [P.walk_eq, wf_inner0 h] at hq
    rw [show q = p by simpa [P.walkL] using hq]
    exact ⟨0, Nat.le_refl _, h⟩
  | succ d ih =>
    intro p h q hq
    rw [P.walk_eq] at hq
    rcases List.mem_cons.mp hq with e | hx
    · subst e; exact ⟨_, Nat.le_refl _, h⟩
    · obtain ⟨r, hr, hx⟩ := P.mem_walkL.mp hx
      obtain ⟨e, h1, h2⟩ := ih ((wf_inner h).2 r hr) q hx
      exact ⟨e, by omega, h2⟩

/-! the program's inner, walk: lists of one's own -/
def mi : P → Nat
  | .sign _ => i_Sign_inner | .name _ => i_Name_inner | .row _ => i_Row_inner | .pick _ => i_Pick_inner | .maybe _ => i_Maybe_inner | .many _ _ => i_Many_inner
def mk : P → Nat
  | .sign _ => i_Sign_walk | .name _ => i_Name_walk | .row _ => i_Row_walk | .pick _ => i_Pick_walk | .maybe _ => i_Maybe_walk | .many _ _ => i_Many_walk
def mdp : P → Nat
  | .sign _ => i_Sign_deep | .name _ => i_Name_deep | .row _ => i_Row_deep | .pick _ => i_Pick_deep | .maybe _ => i_Maybe_deep | .many _ _ => i_Many_deep
theorem M_inner (p : P) : opM tb "inner" (.dat p.o) = ret (mi p) := by
  cases p <;> exact x_M (by kernel_rfl) (by kernel_rfl)
theorem M_walk (p : P) : opM tb "walk" (.dat p.o) = ret (mk p) := by
  cases p <;> exact x_M (by kernel_rfl) (by kernel_rfl)
theorem M_deep (p : P) : opM tb "deep" (.dat p.o) = ret (mdp p) := by
  cases p <;> exact x_M (by kernel_rfl) (by kernel_rfl)
theorem fO_lst (ds : List D) : fListO [.dat (.lst ds)] [] = .ok (.own 0) [.lst (dats ds)] := rfl
theorem mi_own (n : Nat) (p : P) (μ : List M) : cal (n + 1) (mi p) [.dat p.o] μ = .ok (.own μ.length) (μ ++ [.lst (dats (p.inner.map P.o))]) := by
  cases p with
  | sign x =>
    show cal (n + 1) i_Sign_inner _ _ = _
    rw [e_Sign_inner]
    exact own_call rfl ⟨_, _, rfl, 0, rfl, rfl⟩
  | name x =>
    show cal (n + 1) i_Name_inner _ _ = _
    rw [e_Name_inner]
    exact own_call rfl ⟨_, _, rfl, 0, rfl, rfl⟩
  | row ps =>
    show cal (n + 1) i_Row_inner _ _ = _
    rw [e_Row_inner]
    refine own_call rfl ?_
    unfold f_Row_inner
    rw [F_parts]
    simp only [b_ret]
    exact (post_eq (fO_lst _)).mpr ⟨0, rfl, rfl⟩
  | pick ps =>
    show cal (n + 1) i_Pick_inner _ _ = _
    rw [e_Pick_inner]
    refine own_call rfl ?_
    unfold f_Pick_inner
    rw [F_partsP]
    simp only [b_ret]
    exact (post_eq (fO_lst _)).mpr ⟨0, rfl, rfl⟩
  | maybe p =>
    show cal (n + 1) i_Maybe_inner _ _ = _
    rw [e_Maybe_inner]
    refine own_call rfl ?_
    unfold f_Maybe_inner
    rw [F_part]
    simp only [b_ret]
    exact ⟨_, _, rfl, 0, rfl, rfl⟩
  | many p k =>
    show cal (n + 1) i_Many_inner _ _ = _
    rw [e_Many_inner]
    refine own_call rfl ?_
    unfold f_Many_inner
    rw [F_partM]
    simp only [b_ret]
    exact ⟨_, _, rfl, 0, rfl, rfl⟩
theorem e_mk (n : Nat) (p : P) : cal (n + 1) (mk p) [.dat p.o] = atCall [.dat p.o] (f_Part_walk (cal n) (.dat p.o)) := by cases p <;> rfl
theorem e_mdp (n : Nat) (p : P) : cal (n + 1) (mdp p) [.dat p.o] = atCall [.dat p.o] (f_Part_deep (cal n) (.dat p.o)) := by cases p <;> rfl
/-- an own list told, and data from there on -/
theorem frz_new {ds : List D} {μ : List M} : frz (.own μ.length) (μ ++ [.lst (dats ds)]) = .ok (.dat (.lst ds)) (μ ++ [.frz (.lst ds)]) := by
  rw [frz_at (i := μ.length) (ds := ds) (by simp), List.set_append_right _ _ (Nat.le_refl _)]
  simp
theorem walkL_app : ∀ a b : List P, P.walkL (a ++ b) = P.walkL a ++ P.walkL b
  | [], b => rfl
  | p :: a, b => by simp only [List.cons_append, P.walkL, walkL_app a b, List.append_assoc]
theorem mk_own {N g : Str → Prop} (n : Nat) : ∀ (d : Nat), d ≤ 4 → ∀ p : P, P.wf N g d p → ∀ μ, cal (d + 2 + n) (mk p) [.dat p.o] μ = .ok (.own μ.length) (μ ++ [.lst (dats (p.walk.map P.o))]) := by
  intro d
  have main : ∀ (F : Nat) (p : P), p.inner.length ≤ 12 → (∀ q ∈ p.inner, q.walk.length ≤ 30000 ∧ ∀ μ, cal (F + 1) (mk q) [.dat q.o] μ = .ok (.own μ.length) (μ ++ [.lst (dats (q.walk.map P.o))])) → ∀ μ, cal (F + 1 + 1) (mk p) [.dat p.o] μ = .ok (.own μ.length) (μ ++ [.lst (dats (p.walk.map P.o))]) := by
    intro F p hl hq μ
    rw [e_mk]
    refine own_call rfl ?_
    unfold f_Part_walk
    simp only [post_bnd]
    rw [post_eq (show newLst [T.dat p.o] [] = EN.R.ok (T.own 0) [M.lst [T.dat p.o]] from rfl), M_inner, post_ret, post_eq (mi_own F p _), post_eq frz_new, x_itL, post_ret]
    refine post_forN (fun j s μ => ∃ i, s = .own i ∧ μ[i]? = some (.lst (dats ((p :: P.walkL (p.inner.take j)).map P.o)))) ⟨0, rfl, rfl⟩ ?_ ?_
    · rintro j t _ μ ht ⟨i, rfl, hi⟩
      simp only [dats, List.map_map, List.getElem?_map] at ht
      obtain ⟨q, hqj, rfl⟩ := Option.map_eq_some_iff.mp ht
      have hj := (List.getElem?_eq_some_iff.mp hqj).1
      obtain ⟨h1, h2⟩ := hq q (List.mem_of_getElem? hqj)
      have il := (List.getElem?_eq_some_iff.mp hi).1
      show Post (bnd (bnd (ret (T.own i)) fun u8 => bnd (bnd (bnd (opM tb "walk" (.dat q.o)) fun i7 => cal (F + 1) i7 [.dat q.o]) frz) fun u9 => opAddO u8 u9) fun v_found_6 => ret v_found_6) μ _
      simp only [post_bnd, post_ret]
      rw [M_walk, post_ret, post_eq (h2 μ), post_eq frz_new]
      have hwl : (P.walkL (p.inner.take j)).length ≤ j * 30000 := by
        have key : ∀ l : List P, (∀ q ∈ l, q.walk.length ≤ 30000) → (P.walkL l).length ≤ l.length * 30000 := by
          intro l
          induction l with
          | nil => intro _; exact Nat.zero_le _
          | cons a l ih =>
            intro h
            have := ih fun q hq => h q (by simp [hq])
            have := h a (by simp)
            simp only [P.walkL, List.length_append, List.length_cons, Nat.add_mul]
            omega
        refine Nat.le_trans (key _ fun q hq' => (hq q (List.mem_of_mem_take hq')).1) ?_
        rw [List.length_take]
        exact Nat.mul_le_mul_right _ (Nat.min_le_left _ _)
      have hj12 : j * 30000 ≤ 12 * 30000 := Nat.mul_le_mul_right _ (by omega)
      rw [post_eq (addO_at (ds := (p :: P.walkL (p.inner.take j)).map P.o) (es := q.walk.map P.o) (by rw [List.getElem?_append_left il]; exact hi) (by simp; omega))]
      refine ⟨_, rfl, ?_⟩
      rw [List.take_add_one, hqj, walkL_app]
      simp [P.walkL]
    · rintro _ μ ⟨i, rfl, hi⟩
      rw [show (dats (p.inner.map P.o)).length = p.inner.length by simp [dats], List.take_length] at hi
      simp only [post_ret]
      exact ⟨i, rfl, by rw [P.walk_eq]; exact hi⟩
  induction d with
  | zero =>
    intro _ p h
    rw [show 0 + 2 + n = n + 1 + 1 by omega]
    refine main n p (by rw [wf_inner0 h]; decide) fun q hq => ?_
    rw [wf_inner0 h] at hq; exact nomatch hq
  | succ d ih =>
    intro hd p h
    obtain ⟨h1, h2⟩ := wf_inner h
    have := Wle d (by omega)
    rw [show d + 1 + 2 + n = d + 1 + n + 1 + 1 by omega]
    refine main (d + 1 + n) p h1 fun q hq => ⟨by have := walk_len (h2 q hq); omega, ?_⟩
    rw [show d + 1 + n + 1 = d + 2 + n by omega]
    exact ih (by omega) q (h2 q hq)
/-! how deep -/
mutual
def P.dep : P → Int
  | .sign _ => 1
  | .name _ => 1
  | .row ps => 1 + maxDf 0 (P.deps ps)
  | .pick ps => 1 + maxDf 0 (P.deps ps)
  | .maybe p => 1 + maxDf 0 [P.dep p]
  | .many p _ => 1 + maxDf 0 [P.dep p]
def P.deps : List P → List Int
  | [] => []
  | p :: ps => P.dep p :: P.deps ps
end
theorem P.deps_eq : ∀ ps : List P, P.deps ps = ps.map P.dep
  | [] => rfl
  | p :: ps => by rw [P.deps, P.deps_eq ps]; rfl
theorem dep_eq (p : P) : p.dep = 1 + maxDf 0 (p.inner.map P.dep) := by
  cases p <;> simp [P.dep, P.inner, P.deps_eq, maxDf]
theorem intsOf_map : ∀ ns : List Int, intsOf (ns.map D.int) = some ns
  | [] => rfl
  | n :: ns => by
    show (intsOf (ns.map D.int)).map (n :: ·) = _
    rw [intsOf_map ns]; rfl
theorem x_maxD (ns : List Int) (d : Int) : opMaxD (.dat (.lst (ns.map D.int))) (.int d) = ret (.int (maxDf d ns)) := by
  funext μ
  simp only [opMaxD, seeL_dat, Option.bind_some, intsOf_map]
  rfl
theorem md_ok {N g : Str → Prop} (n : Nat) : ∀ (d : Nat) (p : P), P.wf N g d p → cal (d + 2 + n) (mdp p) [.dat p.o] = ret (.int p.dep) := by
  intro d
  have main : ∀ (F : Nat) (p : P), p.inner.length ≤ 12 → (∀ q ∈ p.inner, cal (F + 1) (mdp q) [.dat q.o] = ret (.int q.dep)) → cal (F + 1 + 1) (mdp p) [.dat p.o] = ret (.int p.dep) := by
    intro F p hl hq
    rw [e_mdp]
    refine call_ret rfl ?_
    unfold f_Part_deep
    simp only [post_bnd, post_ret]
    rw [M_inner]
    simp only [b_ret, bnd_bnd, p_comp, post_bnd]
    rw [post_eq (mi_own F p _), post_eq frz_new, x_itL, post_r (comp_ret (h := P.o) (g := fun q => D.int q.dep) (fun q hq' => by rw [M_deep, bnd_ret, hq q hq', x_toDr]) (by omega)), show p.inner.map (fun q => D.int q.dep) = (p.inner.map P.dep).map D.int by rw [List.map_map]; rfl, x_maxD, post_ret, x_addI, post_ret, ← dep_eq]
  induction d with
  | zero =>
    intro p h
    rw [show 0 + 2 + n = n + 1 + 1 by omega]
    refine main n p (by rw [wf_inner0 h]; decide) fun q hq => ?_
    rw [wf_inner0 h] at hq; exact nomatch hq
  | succ d ih =>
    intro p h
    obtain ⟨h1, h2⟩ := wf_inner h
    rw [show d + 1 + 2 + n = d + 1 + n + 1 + 1 by omega]
    refine main (d + 1 + n) p h1 fun q hq => ?_
    rw [show d + 1 + n + 1 = d + 2 + n by omega]
    exact ih q (h2 q hq)
theorem ld_ok {N g : Str → Prop} (n : Nat) : ∀ (d : Nat) (p : P), P.wf N g d p → cal (d + 2 + n) i_law_deep [.dat p.e] = ret (.int p.dep) := by
  intro d
  have main : ∀ (F : Nat) (p : P), p.inner.length ≤ 12 → (∀ q ∈ p.inner, cal (F + 1) i_law_deep [.dat q.e] = ret (.int q.dep)) → cal (F + 1 + 1) i_law_deep [.dat p.e] = ret (.int p.dep) := by
    intro F p hl hq
    rw [e_law_deep]
    refine call_ret rfl ?_
    unfold f_law_deep
    simp only [post_bnd, post_ret]
    rw [inner_ok, bnd_ret, x_itL, post_r (comp_ret (h := P.e) (g := fun q => D.int q.dep) (fun q hq' => by rw [hq q hq', x_toDr]) (by omega)), show p.inner.map (fun q => D.int q.dep) = (p.inner.map P.dep).map D.int by rw [List.map_map]; rfl, x_maxD, post_ret, x_addI, post_ret, ← dep_eq]
  induction d with
  | zero =>
    intro p h
    rw [show 0 + 2 + n = n + 1 + 1 by omega]
    refine main n p (by rw [wf_inner0 h]; decide) fun q hq => ?_
    rw [wf_inner0 h] at hq; exact nomatch hq
  | succ d ih =>
    intro p h
    obtain ⟨h1, h2⟩ := wf_inner h
    rw [show d + 1 + 2 + n = d + 1 + n + 1 + 1 by omega]
    refine main (d + 1 + n) p h1 fun q hq => ?_
    rw [show d + 1 + n + 1 = d + 2 + n by omega]
    exact ih q (h2 q hq)

/-! the law's row for a part -/
theorem x_cnt (bs : List Bool) (k : Bool) : opCntB (.dat (.lst (bs.map D.bl))) (.bl k) = ret (.int ((bs.count k : Nat) : Int)) := by
  have e : ∀ bs : List Bool, boolsOf (bs.map D.bl) = some bs := by
    intro bs
    induction bs with
    | nil => rfl
    | cons b bs ih =>
      show (boolsOf (bs.map D.bl)).map (b :: ·) = _
      rw [ih]; rfl
  funext μ
  simp only [opCntB, seeL_dat, Option.bind_some, e]
  rfl
abbrev ownL (p : P) : List D := [.bl p.isSign, .bl p.isName, .bl p.isRow, .bl p.isPick, .bl p.isMaybe, .bl p.isMany]
theorem own_cnt (p : P) : opCntB (.dat (.lst (ownL p))) (.bl true) = ret (.int 1) := by
  cases p <;> exact x_cnt [_, _, _, _, _, _] true
theorem own_ix (p : P) (k : Nat) (h : k < 6) : opIx (.dat (.lst (ownL p))) (.int (k : Nat)) = ret (.dat ((ownL p)[k]'h)) := x_ixL (by
  unfold atI
  rw [ixN_nat (by exact h)]
  simp [h])
noncomputable def tailK (call : Orc) (a_part_here v_own_10 : T) : Sh T := iff (orB (tst (opIx v_own_10 (.int 0))) (tst (opIx v_own_10 (.int 1)))) (iff (tst (opIx v_own_10 (.int 0))) (bnd (bnd (ret (.str "sign")) fun u22 => bnd (bnd (opFld tb "sign" a_part_here) fun u20 => bnd (ret []) fun us21 => ret (u20 :: us21)) fun us23 => ret (u22 :: us23)) (mkTup)) (bnd (bnd (ret (.str "name")) fun u26 => bnd (bnd (opFld tb "name" a_part_here) fun u24 => bnd (ret []) fun us25 => ret (u24 :: us25)) fun us27 => ret (u26 :: us27)) (mkTup))) (iff (orB (tst (opIx v_own_10 (.int 2))) (tst (opIx v_own_10 (.int 3)))) (iff (notB (tst (bnd (opFld tb "parts" a_part_here) (opIsTy "list")))) (ret .non) (bnd (bnd (bnd (mkLst [.str "row", .str "pick"]) fun u30 => bnd (bnd (bnd (opIx v_own_10 (.int 3)) fun u28 => bnd (ret []) fun us29 => ret (u28 :: us29)) (fInt)) fun u31 => opIx u30 u31) fun u35 => bnd (bnd (compS (bnd (opFld tb "parts" a_part_here) itT) (fun x_32 => toD (call i_law_back [x_32]))) fun u33 => bnd (ret []) fun us34 => ret (u33 :: us34)) fun us36 => ret (u35 :: us36)) (mkTup))) (iff (tst (opIx v_own_10 (.int 4))) (bnd (bnd (ret (.str "maybe")) fun u41 => bnd (bnd (bnd (bnd (opFld tb "part" a_part_here) fun u37 => bnd (ret []) fun us38 => ret (u37 :: us38)) (call i_law_back)) fun u39 => bnd (ret []) fun us40 => ret (u39 :: us40)) fun us42 => ret (u41 :: us42)) (mkTup)) (iff (notB (tst (bnd (opFld tb "least" a_part_here) (opIsTy "bool")))) (bnd (bnd (ret (.str "many")) fun u49 => bnd (bnd (bnd (bnd (opFld tb "part" a_part_here) fun u43 => bnd (ret []) fun us44 => ret (u43 :: us44)) (call i_law_back)) fun u47 => bnd (bnd (opFld tb "least" a_part_here) fun u45 => bnd (ret []) fun us46 => ret (u45 :: us46)) fun us48 => ret (u47 :: us48)) fun us50 => ret (u49 :: us50)) (mkTup)) (ret .non))))
theorem f_back_eq (call : Orc) (p : P) : f_law_back call (.dat p.o) = tailK call (.dat p.o) (.dat (.lst (ownL p))) := by
  have e : f_law_back call (.dat p.o) = bnd (bnd (bnd (bnd (ret (.dat p.o)) (opIsC tb "Sign")) fun u8 => bnd (bnd (bnd (ret (.dat p.o)) (opIsC tb "Name")) fun u6 => bnd (bnd (bnd (ret (.dat p.o)) (opIsC tb "Row")) fun u4 => bnd (bnd (bnd (ret (.dat p.o)) (opIsC tb "Pick")) fun u2 => bnd (ret []) fun us3 => ret (u2 :: us3)) fun us5 => ret (u4 :: us5)) fun us7 => ret (u6 :: us7)) fun us9 => ret (u8 :: us9)) (mkLst)) fun v_own_1 => bnd (bnd (ret v_own_1) fun u15 => bnd (bnd (bnd (bnd (ret (.dat p.o)) (opIsC tb "Maybe")) fun u13 => bnd (bnd (bnd (ret (.dat p.o)) (opIsC tb "Many")) fun u11 => bnd (ret []) fun us12 => ret (u11 :: us12)) fun us14 => ret (u13 :: us14)) (mkLst)) fun u16 => opAdd u15 u16) fun v_own_10 => iff (orB (notB (tst (bnd (ret (.dat p.o)) (opIsC tb "Part")))) (tst (bnd (bnd (ret v_own_10) fun u17 => opCntB u17 (.bl true)) fun u18 => bnd (ret (.int 1)) fun u19 => opNe u18 u19))) (ret .non) (tailK call (.dat p.o) v_own_10) := rfl
  rw [e]
  simp only [b_ret, isC_Sign, isC_Name, isC_Row, isC_Pick, isC_Maybe, isC_Many, isC_Part, x_lst4, x_lst2]
  rw [x_addL (by simp)]
  simp only [b_ret]
  show iff (orB (notB (tst (EN.ret (.bl true)))) (tst (bnd (opCntB (.dat (.lst (ownL p))) (.bl true)) fun u18 => opNe u18 (.int 1)))) (EN.ret .non) (tailK call (.dat p.o) (.dat (.lst (ownL p)))) = _
  rw [own_cnt]
  simp only [b_ret, x_neI, x_tst, x_notB, x_orB, x_iff, Bool.not_true, Bool.false_eq_true, if_false, decide_true]
theorem F_sign (x : Str) : opFld tb "sign" (.dat (P.o (.sign x))) = ret (.str x) := x_fld (by kernel_rfl) (by kernel_rfl)
theorem ty_lst (ds : List D) : opIsTy "list" (.dat (.lst ds)) = ret (.bl true) := by
  have : kitB "list" "list" = some true := by decide
  funext μ
  simp only [opIsTy, tyT, tyD, this]; rfl
theorem ty_int (i : Int) : opIsTy "bool" (.int i) = ret (.bl false) := by
  have : kitB "int" "bool" = some false := by decide
  funext μ
  simp only [opIsTy, tyT, tyD, this]; rfl
theorem back_ok {N g : Str → Prop} (n : Nat) : ∀ (d : Nat) (p : P), P.wf N g d p → cal (d + 1 + n) i_law_back [.dat p.o] = ret (.dat p.e) := by
  intro d
  have main : ∀ (F : Nat) (p : P), p.inner.length ≤ 12 → (∀ q ∈ p.inner, cal F i_law_back [.dat q.o] = ret (.dat q.e)) → cal (F + 1) i_law_back [.dat p.o] = ret (.dat p.e) := by
    intro F p hl hq
    rw [e_law_back]
    refine call_ret rfl ?_
    rw [f_back_eq]
    unfold tailK
    have i0 := own_ix p 0 (by decide)
    have i1 := own_ix p 1 (by decide)
    have i2 := own_ix p 2 (by decide)
    have i3 := own_ix p 3 (by decide)
    have i4 := own_ix p 4 (by decide)
    rw [show opIx (.dat (.lst (ownL p))) (.int 0) = ret (.bl p.isSign) from i0, show opIx (.dat (.lst (ownL p))) (.int 1) = ret (.bl p.isName) from i1, show opIx (.dat (.lst (ownL p))) (.int 2) = ret (.bl p.isRow) from i2, show opIx (.dat (.lst (ownL p))) (.int 3) = ret (.bl p.isPick) from i3, show opIx (.dat (.lst (ownL p))) (.int 4) = ret (.bl p.isMaybe) from i4]
    clear i0 i1 i2 i3 i4
    cases p with
    | sign x =>
      rw [F_sign]
      walk_at "tq"
      rfl
    | name x =>
      walk_at "tq"
      rfl
    | row ps =>
      have hc := comp_ret (F := fun x => toD (cal F i_law_back [x])) (xs := ps) (h := P.o) (g := P.e) (fun q hq' => by rw [hq q hq', x_toDr]) (by have : ps.length ≤ 12 := hl; omega)
      walk_at "tq"
      rw [ty_lst]
      walk_at "tq"
      rw [hc]
      walk_at "tq"
      rw [P.e, P.eL_eq]
    | pick ps =>
      have hc := comp_ret (F := fun x => toD (cal F i_law_back [x])) (xs := ps) (h := P.o) (g := P.e) (fun q hq' => by rw [hq q hq', x_toDr]) (by have : ps.length ≤ 12 := hl; omega)
      walk_at "tq"
      rw [ty_lst]
      walk_at "tq"
      rw [hc]
      walk_at "tq"
      rw [P.e, P.eL_eq]
    | maybe q =>
      have hq' := hq q (by simp [P.inner])
      walk_at "tq"
      rw [hq']
      walk_at "tq"
      rfl
    | many q k =>
      have hq' := hq q (by simp [P.inner])
      walk_at "tq"
      rw [ty_int]
      walk_at "tq"
      rw [hq']
      walk_at "tq"
      rfl
  induction d with
  | zero =>
    intro p h
    rw [show 0 + 1 + n = n + 1 by omega]
    refine main n p (by rw [wf_inner0 h]; decide) fun q hq => ?_
    rw [wf_inner0 h] at hq; exact nomatch hq
  | succ d ih =>
    intro p h
    obtain ⟨h1, h2⟩ := wf_inner h
    rw [show d + 1 + 1 + n = d + 1 + n + 1 by omega]
    exact main (d + 1 + n) p h1 fun q hq => ih q (h2 q hq)

/-! parts made of lists of one's own -/
theorem mk_rowO (k i : Nat) (x : List D) {μ : List M} (h : μ[i]? = some (.lst (dats x))) : mkD (cal (k + 1)) i_Row_init "Row" [.own i] μ = .ok (.dat (.ins "Row" [("parts", .lst x)])) μ := by
  have hi := (List.getElem?_eq_some_iff.mp h).1
  have g : ∀ m : M, (μ ++ [m])[i]? = some (.lst (dats x)) := fun m => by rw [List.getElem?_append_left hi]; exact h
  refine mkD_ok ?_
  rw [e_Row_init]
  refine atCall_own rfl ?_ (by simp)
  simp only [unitR, f_Row_init, bnd_ret, bnd_bnd, x_lst0]
  simp only [bnd_ap]
  rw [setFld_end (by kernel_rfl) (by decide)]
  simp only [iff, tst, bnd_ap, opNotN, ret_ap]
  have hs : fListK [.own i] (μ ++ [M.ins "Row" (putT "parts" (T.dat (D.lst [])) [])]) = .ok (.dat (.lst x)) (μ ++ [M.ins "Row" (putT "parts" (T.dat (D.lst [])) [])]) := by
    show fList [.own i] _ = _
    simp only [fList, seeS, g, undat_dats]
  rw [show isT (.own i) = false from rfl, Bool.not_false]
  simp only [bnd_ap, hs]
  rw [setFld_end (by kernel_rfl) (by decide)]
  rfl
theorem mk_pickO (k i : Nat) (x : List D) {μ : List M} (h : μ[i]? = some (.lst (dats x))) : mkD (cal (k + 1)) i_Pick_init "Pick" [.own i] μ = .ok (.dat (.ins "Pick" [("parts", .lst x)])) μ := by
  have hi := (List.getElem?_eq_some_iff.mp h).1
  have g : ∀ m : M, (μ ++ [m])[i]? = some (.lst (dats x)) := fun m => by rw [List.getElem?_append_left hi]; exact h
  refine mkD_ok ?_
  rw [e_Pick_init]
  refine atCall_own rfl ?_ (by simp)
  simp only [unitR, f_Pick_init, bnd_ret, bnd_bnd]
  simp only [bnd_ap]
  have hs : fListK [.own i] (μ ++ [M.ins "Pick" []]) = .ok (.dat (.lst x)) (μ ++ [M.ins "Pick" []]) := by
    show fList [.own i] _ = _
    simp only [fList, seeS, g, undat_dats]
  rw [hs]
  simp only []
  rw [setFld_end (by kernel_rfl) (by decide)]
  rfl

theorem compO_map {α : Type} {F : T → Sh (Option D)} {xs : List α} {h g : α → D} {μ : List M} (hF : ∀ x ∈ xs, F (.dat (h x)) = ret (some (g x))) (hl : xs.length ≤ 1000000) : compO (ret (dats (xs.map h))) F μ = .ok (.own μ.length) (μ ++ [.lst (dats (xs.map g))]) := by
  have key : cmpS F (dats (xs.map h)) μ = .ok (xs.map g) μ := by
    clear hl
    induction xs with
    | nil => rfl
    | cons d ds ih =>
      have h1 := hF d (by simp)
      have h2 := ih (fun e he => hF e (by simp [he]))
      show cmpS F (.dat (h d) :: dats (ds.map h)) μ = _
      simp only [cmpS, bnd_ap, h1, h2, ret_ap, List.map_cons]
  simp only [compO, bnd_ret]
  rw [if_pos (Nat.ble_eq_true_of_le (by simpa [dats] using hl))]
  simp only [bnd_ap, key]
theorem built_ok {N g : Str → Prop} : ∀ (d : Nat) (p : P), P.wf N g d p → ∀ (k : Nat), cal (d + 2 + k) i_law_built [.dat p.e] = ret (.dat p.o) := by
  intro d
  have main : ∀ (F : Nat) (p : P), p.inner.length ≤ 12 → (∀ q ∈ p.inner, cal (F + 1) i_law_built [.dat q.e] = ret (.dat q.o)) → cal (F + 1 + 1) i_law_built [.dat p.e] = ret (.dat p.o) := by
    intro F p hl hq
    rw [e_law_built]
    refine call_ret rfl ?_
    unfold f_law_built
    cases p with
    | sign x => walk_at "te"; rw [mk_sign, post_ret]
    | name x => walk_at "te"; rw [mk_name, post_ret]
    | row ps =>
      have hc := fun μ => compO_map (μ := μ) (F := fun x => toD (cal (F + 1) i_law_built [x])) (xs := ps) (h := P.e) (g := P.o) (fun q hq' => by rw [hq q hq', x_toDr]) (by have : ps.length ≤ 12 := hl; omega)
      have hl : ps.length ≤ 12 := hl
      walk_at "te"
      rw [post_eq (show _ = EN.R.ok (T.own 0) [M.lst (dats (ps.map P.o))] from hc [])]
      rw [post_eq (mk_rowO F 0 (ps.map P.o) (μ := [.lst (dats (ps.map P.o))]) rfl), post_eq (isL_at (a := 0) (ts := dats (ps.map P.o)) rfl), mk_name, post_ret, post_eq (app_at (a := 0) (ts := dats (ps.map P.o)) rfl (by simp [dats]; omega))]
    | pick ps =>
      have hc := fun μ => compO_map (μ := μ) (F := fun x => toD (cal (F + 1) i_law_built [x])) (xs := ps) (h := P.e) (g := P.o) (fun q hq' => by rw [hq q hq', x_toDr]) (by have : ps.length ≤ 12 := hl; omega)
      have hl : ps.length ≤ 12 := hl
      walk_at "te"
      rw [post_eq (show _ = EN.R.ok (T.own 0) [M.lst (dats (ps.map P.o))] from hc [])]
      rw [post_eq (mk_pickO F 0 (ps.map P.o) (μ := [.lst (dats (ps.map P.o))]) rfl), post_eq (isL_at (a := 0) (ts := dats (ps.map P.o)) rfl), mk_name, post_ret, post_eq (app_at (a := 0) (ts := dats (ps.map P.o)) rfl (by simp [dats]; omega))]
    | maybe q =>
      have hq' := hq q (by simp [P.inner])
      walk_at "te"
      rw [hq']
      walk_at "te"
      rw [mk_maybe, post_ret]
    | many q j =>
      have hq' := hq q (by simp [P.inner])
      walk_at "te"
      rw [hq']
      walk_at "te"
      rw [mk_many, post_ret]
  induction d with
  | zero =>
    intro p h k
    rw [show 0 + 2 + k = k + 1 + 1 by omega]
    refine main k p (by rw [wf_inner0 h]; decide) fun q hq => ?_
    rw [wf_inner0 h] at hq; exact nomatch hq
  | succ d ih =>
    intro p h k
    obtain ⟨h1, h2⟩ := wf_inner h
    rw [show d + 1 + 2 + k = d + 1 + k + 1 + 1 by omega]
    refine main (d + 1 + k) p h1 fun q hq => ?_
    rw [show d + 1 + k + 1 = d + 2 + k by omega]
    exact ih q (h2 q hq) k

/-! the law's text -/
abbrev sts (l : List Str) : List D := l.map D.str
theorem sts_app (xs ys : List Str) : sts (xs ++ ys) = sts xs ++ sts ys := List.map_append
theorem strsOf_sts : ∀ ys : List Str, strsOf (sts ys) = some ys
  | [] => rfl
  | y :: ys => by
    show (strsOf (sts ys)).map (y :: ·) = _
    rw [strsOf_sts ys]; rfl
theorem join_at {a : Nat} {sep : Str} {ys : List Str} {μ : List M} (h : μ[a]? = some (.lst (dats (sts ys)))) (hz : (ys.map (·.length)).sum + ys.length * sep.length ≤ 16777216) : opJoin (.dat (.str sep)) (.own a) μ = .ok (.str (Txt.join sep ys)) μ := by
  have e : seeL (.own a) μ = some (sts ys) := by rw [seeL_own h, undat_dats]
  simp only [opJoin, e, Option.bind_some, strsOf_sts, if_pos hz]
local macro_rules | `(tactic| walk_at "ln") => `(tactic| first | omega | (simp only [slen_append, q_quo, q_lp, q_rp, q_lb, q_rb, q_lc, q_rc, q_pl, q_em, q_sp, q_ba, q_eq, q_nl] <;> omega))
def P.wide : P → Bool
  | .pick _ => true
  | .row qs => decide (qs.length > 1)
  | _ => false
theorem el_wide (q : P) : q.el = if q.wide = true then "(" ++ q.txt ++ ")" else q.txt := by
  cases q with
  | row qs =>
    by_cases h : qs.length < 2
    · have hw : P.wide (.row qs) = false := decide_eq_false (by omega)
      rw [hw]
      simp only [P.el]
      rw [if_pos h, if_neg Bool.false_ne_true]
    · have hw : P.wide (.row qs) = true := decide_eq_true (by omega)
      rw [hw]
      simp only [P.el]
      rw [if_neg h]
      simp
  | pick qs => rfl
  | _ => rfl
theorem wy_pick (q : P) : q.wy = if q.isPick = true then "(" ++ q.txt ++ ")" else q.txt := by
  cases q <;> simp [P.wy, P.isPick]
theorem wide_ok (q : P) : (orV (bnd (opIx (.dat q.e) (.int 0)) fun u57 => bnd (ret (.str "pick")) fun u58 => opEq u57 u58) (andV (bnd (opIx (.dat q.e) (.int 0)) fun u59 => bnd (ret (.str "row")) fun u60 => opEq u59 u60) (bnd (bnd (bnd (opIx (.dat q.e) (.int 1)) fun u61 => bnd (ret []) fun us62 => ret (u61 :: us62)) (fLen)) fun u63 => bnd (ret (.int 1)) fun u64 => opGt u63 u64))) = ret (.bl q.wide) := by
  cases q with
  | row qs =>
    simp only [P.e, P.eL_eq, x_ixT0, x_ixT1, b_ret, x_eqS, x_orV, x_andV, x_lenL, x_gtI, g_row_pick, decide_true, Bool.false_eq_true, if_false, if_true, P.wide, List.length_map]
    refine congrArg (fun b => EN.ret (T.dat (D.bl b))) ?_
    exact decide_eq_decide.mpr (by omega)
  | pick qs => simp only [P.e, P.eL_eq, x_ixT0, b_ret, x_eqS, x_orV, decide_true, if_true, P.wide]
  | sign x => simp only [P.e, x_ixT0, b_ret, x_eqS, x_orV, x_andV, g_sign_pick, g_sign_row, Bool.false_eq_true, if_false, P.wide]
  | name x => simp only [P.e, x_ixT0, b_ret, x_eqS, x_orV, x_andV, g_name_pick, g_name_row, Bool.false_eq_true, if_false, P.wide]
  | maybe x => simp only [P.e, x_ixT0, b_ret, x_eqS, x_orV, x_andV, g_maybe_pick, g_maybe_row, Bool.false_eq_true, if_false, P.wide]
  | many x k => simp only [P.e, x_ixT0, b_ret, x_eqS, x_orV, x_andV, g_many_pick, g_many_row, Bool.false_eq_true, if_false, P.wide]
theorem e_pick (q : P) : (bnd (opIx (.dat q.e) (.int 0)) fun u57 => bnd (ret (.str "pick")) fun u58 => opEq u57 u58) = ret (.bl q.isPick) := by
  cases q <;> (unfold P.e; rw [x_ixT0, bnd_ret, bnd_ret, x_eqS]; rfl)
theorem par_ok {z : Str} (hz : z.length ≤ 1000000) (m : Sh T) (hm : m = ret (.str z)) : (bnd (bnd (ret (.str "(")) fun u65 => bnd m fun u66 => opAdd u65 u66) fun u67 => bnd (ret (.str ")")) fun u68 => opAdd u67 u68) = ret (.str ("(" ++ z ++ ")")) := by
  subst hm
  simp only [b_ret]
  rw [x_addS (by walk_at "ln"), b_ret, x_addS (by walk_at "ln")]
noncomputable def bodyX (call : Orc) (v_texts_42 : T) (x_55 : T) (s43 : Unit) : Sh Unit := bnd (orV (bnd (opIx x_55 (.int 0)) fun u57 => bnd (ret (.str "pick")) fun u58 => opEq u57 u58) (andV (bnd (opIx x_55 (.int 0)) fun u59 => bnd (ret (.str "row")) fun u60 => opEq u59 u60) (bnd (bnd (bnd (opIx x_55 (.int 1)) fun u61 => bnd (ret []) fun us62 => ret (u61 :: us62)) (fLen)) fun u63 => bnd (ret (.int 1)) fun u64 => opGt u63 u64))) fun v_wide_56 => bnd (bnd (ret v_texts_42) fun u69 => bnd (isL u69) fun _ => bnd (iff (tst (ret v_wide_56)) (bnd (bnd (ret (.str "(")) fun u65 => bnd (call i_law_text [x_55]) fun u66 => opAdd u65 u66) fun u67 => bnd (ret (.str ")")) fun u68 => opAdd u67 u68) (call i_law_text [x_55])) fun u70 => opApp u69 u70) fun _ => ret ()
noncomputable def tailX (call : Orc) (a_part_here : T) : Sh T := bnd (newLst []) fun v_texts_42 => bnd (bnd (bnd (opIx a_part_here (.int 1)) itT) fun its71 => forN (bodyX call v_texts_42) its71 ()) fun q44 => (iff (tst (bnd (fLen [v_texts_42]) fun u45 => bnd (ret (.int 2)) fun u46 => opLt u45 u46)) (bnd (bnd (ret (.str "(")) fun u49 => bnd (bnd (ret (.str " ")) fun u47 => bnd (ret v_texts_42) fun u48 => opJoin u47 u48) fun u50 => opAdd u49 u50) fun u51 => bnd (ret (.str ")")) fun u52 => opAdd u51 u52) (bnd (ret (.str " ")) fun u53 => bnd (ret v_texts_42) fun u54 => opJoin u53 u54))
theorem f_text_eq (call : Orc) (a_part_here : T) : f_law_text call a_part_here = iff (tst (bnd (opIx a_part_here (.int 0)) fun u1 => bnd (ret (.str "sign")) fun u2 => opEq u1 u2)) (iff (tst (bnd (opIx a_part_here (.int 1)) fun u3 => bnd (mkTup [.str "WORD", .str "FIGURES"]) fun u4 => opIn u3 u4)) (opIx a_part_here (.int 1)) (bnd (bnd (ret (.str "'")) fun u5 => bnd (opIx a_part_here (.int 1)) fun u6 => opAdd u5 u6) fun u7 => bnd (ret (.str "'")) fun u8 => opAdd u7 u8)) (iff (tst (bnd (opIx a_part_here (.int 0)) fun u9 => bnd (ret (.str "name")) fun u10 => opEq u9 u10)) (opIx a_part_here (.int 1)) (iff (tst (bnd (opIx a_part_here (.int 0)) fun u11 => bnd (ret (.str "maybe")) fun u12 => opEq u11 u12)) (bnd (bnd (ret (.str "[")) fun u15 => bnd (bnd (bnd (opIx a_part_here (.int 1)) fun u13 => bnd (ret []) fun us14 => ret (u13 :: us14)) (call i_law_text)) fun u16 => opAdd u15 u16) fun u17 => bnd (ret (.str "]")) fun u18 => opAdd u17 u18) (iff (tst (bnd (opIx a_part_here (.int 0)) fun u19 => bnd (ret (.str "many")) fun u20 => opEq u19 u20)) (bnd (bnd (bnd (ret (.str "{")) fun u23 => bnd (bnd (bnd (opIx a_part_here (.int 1)) fun u21 => bnd (ret []) fun us22 => ret (u21 :: us22)) (call i_law_text)) fun u24 => opAdd u23 u24) fun u25 => bnd (ret (.str "}")) fun u26 => opAdd u25 u26) fun u29 => bnd (bnd (mkLst [.str "", .str "+"]) fun u27 => bnd (opIx a_part_here (.int 2)) fun u28 => opIx u27 u28) fun u30 => opAdd u29 u30) (iff (tst (bnd (opIx a_part_here (.int 0)) fun u31 => bnd (ret (.str "pick")) fun u32 => opEq u31 u32)) (bnd (ret (.str " | ")) fun u40 => bnd (compS (bnd (opIx a_part_here (.int 1)) itT) (fun x_33 => toD (iff (tst (bnd (opIx x_33 (.int 0)) fun u34 => bnd (ret (.str "pick")) fun u35 => opEq u34 u35)) (bnd (bnd (ret (.str "(")) fun u36 => bnd (call i_law_text [x_33]) fun u37 => opAdd u36 u37) fun u38 => bnd (ret (.str ")")) fun u39 => opAdd u38 u39) (call i_law_text [x_33])))) fun u41 => opJoin u40 u41) (tailX call a_part_here))))) := rfl
theorem in_cls (x : Str) : opIn (.str x) (.dat (.tup [.str "WORD", .str "FIGURES"])) = ret (.bl (cls x)) := x_inT rfl rfl
theorem lt_ok (n : Nat) : ∀ (d : Nat), d ≤ 4 → ∀ (p : P), P.ok d p → cal (d + 1 + n) i_law_text [.dat p.e] = ret (.str p.txt) := by
  intro d
  have main : ∀ (F d : Nat) (p : P), d ≤ 4 → P.ok d p → (∀ q ∈ p.inner, ∃ e, e < d ∧ P.ok e q ∧ cal F i_law_text [.dat q.e] = ret (.str q.txt)) → cal (F + 1) i_law_text [.dat p.e] = ret (.str p.txt) := by
    intro F d p hd h hq
    have hB := Bz_le d hd
    have hall := txt_len d p h
    rw [e_law_text]
    refine call_ret rfl ?_
    rw [f_text_eq]
    cases p with
    | sign x =>
      have hx : good x := by cases d <;> exact h
      have hx1 := hx.1
      walk_at "te"
      rw [in_cls, x_tst, x_iff]
      unfold P.txt quo
      cases hc : cls x with
      | false =>
        simp only [Bool.false_eq_true, if_false, post_bnd]
        rw [x_addS (by walk_at "ln"), post_ret, x_addS (by walk_at "ln"), post_ret]
      | true => simp only [if_true, post_ret]
    | name x => walk_at "te"; rfl
    | row ps =>
      have hl12 : ps.length ≤ 12 := by
        cases d with
        | zero => rw [show ps = [] from h]; decide
        | succ d => exact h.1
      have hel : ∀ q ∈ ps, q.el.length ≤ 407176 ∧ q.txt.length ≤ 407174 := fun q hq' => by
        obtain ⟨e, he, hok, _⟩ := hq q hq'
        have := P.ok_le (by omega) hok
        exact ⟨this.2.1, this.1⟩
      have hs := sum_le (ys := ps.map P.el) (n := 407176) (fun y hy => by
        obtain ⟨q, hq', rfl⟩ := List.mem_map.mp hy
        exact (hel q hq').1)
      simp only [List.length_map] at hs
      have hm : ps.length * 407176 ≤ 12 * 407176 := Nat.mul_le_mul_right _ hl12
      have hj := tjoin_len " " (ps.map P.el)
      simp only [List.length_map, q_sp] at hj
      walk_at "te"
      unfold tailX
      rw [x_ixT1]
      simp only [post_bnd, post_ret]
      rw [post_eq (show newLst [] [] = EN.R.ok (T.own 0) [M.lst []] from rfl), x_itL, post_ret]
      refine post_forN (fun j _ μ => μ = [.lst (dats (sts ((ps.take j).map P.el)))]) rfl ?_ ?_
      · rintro j t ⟨⟩ μ ht rfl
        simp only [dats, List.map_map, List.getElem?_map] at ht
        obtain ⟨q, hqj, rfl⟩ := Option.map_eq_some_iff.mp ht
        have hj := (List.getElem?_eq_some_iff.mp hqj).1
        have hqm := List.mem_of_getElem? hqj
        obtain ⟨e, he, hok, hqt⟩ := hq q hqm
        show Post (bodyX (cal F) (.own 0) (.dat q.e) ()) _ _
        unfold bodyX
        rw [wide_ok]
        simp only [b_ret, post_bnd, post_ret]
        have et : (if q.wide = true then (bnd (cal F i_law_text [T.dat q.e]) fun u66 => bnd (opAdd (T.str "(") u66) fun u67 => opAdd u67 (T.str ")")) else cal F i_law_text [T.dat q.e]) = ret (.str q.el) := by
          rw [el_wide, hqt]
          have := hel q hqm
          cases q.wide with
          | true =>
            simp only [if_true, b_ret]
            rw [x_addS (by walk_at "ln"), b_ret, x_addS (by walk_at "ln")]
          | false => simp only [Bool.false_eq_true, if_false]
        rw [post_eq (isL_at (a := 0) rfl), x_tst, x_iff]
        simp only [bnd_bnd] at et ⊢
        rw [et, post_ret, post_eq (app_at (a := 0) rfl (by simp [dats, sts]; omega))]
        rw [List.take_add_one, hqj]
        simp [sts_app, dats, sts]
      · rintro ⟨⟩ μ rfl
        rw [show (dats (ps.map P.e)).length = ps.length by simp [dats], List.take_length]
        simp only [p_tst, p_iff, post_bnd, b_ret]
        rw [post_eq (len_at (a := 0) rfl), x_ltI, x_tst, x_iff]
        have hjz : ((ps.map P.el).map (·.length)).sum + (ps.map P.el).length * (" " : Str).length ≤ 16777216 := by rw [List.length_map, q_sp]; omega
        have e : decide (((dats (sts (ps.map P.el))).length : Int) < 2) = decide (ps.length < 2) := by
          apply decide_eq_decide.mpr
          simp [dats, sts]; omega
        rw [e]
        simp only [P.txt, P.elL_eq]
        by_cases hq2 : ps.length < 2
        · simp only [hq2, decide_true, if_true, post_bnd]
          rw [post_eq (join_at (a := 0) rfl hjz), x_addS (by walk_at "ln"), post_ret, x_addS (by walk_at "ln"), post_ret]
        · simp only [hq2, decide_false, Bool.false_eq_true, if_false, post_bnd]
          rw [post_eq (join_at (a := 0) rfl hjz)]
    | pick ps =>
      have hl12 : ps.length ≤ 12 := by
        cases d with
        | zero => cases h
        | succ d => exact h.2.1
      have hel : ∀ q ∈ ps, q.wy.length ≤ 407176 ∧ q.txt.length ≤ 407174 := fun q hq' => by
        obtain ⟨e, he, hok, _⟩ := hq q hq'
        have := P.ok_le (by omega) hok
        exact ⟨this.2.2, this.1⟩
      have hs := sum_le (ys := ps.map P.wy) (n := 407176) (fun y hy => by
        obtain ⟨q, hq', rfl⟩ := List.mem_map.mp hy
        exact (hel q hq').1)
      simp only [List.length_map] at hs
      have hm : ps.length * 407176 ≤ 12 * 407176 := Nat.mul_le_mul_right _ hl12
      walk_at "te"
      rw [post_r (comp_ret (h := P.e) (g := fun q => D.str q.wy) (fun q hq' => ?_) (by omega))]
      · rw [show ps.map (fun q => D.str q.wy) = (ps.map P.wy).map D.str by rw [List.map_map]; rfl, x_join rfl (by rw [List.length_map, q_ba]; omega), post_ret, P.txt, P.wyL_eq]
      · obtain ⟨e, he, hok, hqt⟩ := hq q hq'
        have htag : ∃ tg : Str, opIx (.dat q.e) (.int 0) = ret (.str tg) ∧ decide (tg = "pick") = q.isPick := by
          cases q <;> exact ⟨_, x_ixT0 .., rfl⟩
        obtain ⟨tg, h1, h2⟩ := htag
        have := hel q hq'
        rw [h1, bnd_ret, x_eqS, h2, x_tst, x_iff, wy_pick, hqt]
        cases q.isPick with
        | true =>
          simp only [if_true, b_ret]
          rw [x_addS (by walk_at "ln"), b_ret, x_addS (by walk_at "ln"), x_toDr]
        | false => simp only [Bool.false_eq_true, if_false, x_toDr]
    | maybe q =>
      obtain ⟨e, he, hok, hqt⟩ := hq q (by simp [P.inner])
      have := P.ok_le (show e ≤ 4 by omega) hok
      walk_at "te"
      rw [hqt, post_ret, x_addS (by walk_at "ln"), post_ret, x_addS (by walk_at "ln"), post_ret, P.txt]
    | many q k =>
      obtain ⟨e, he, hok, hqt⟩ := hq q (by simp [P.inner])
      have := P.ok_le (show e ≤ 4 by omega) hok
      have hk : k ≤ 1 := by
        cases d with
        | zero => cases h
        | succ d => exact h.1
      walk_at "te"
      rw [hqt, post_ret, x_addS (by walk_at "ln"), post_ret, x_addS (by walk_at "ln"), post_ret]
      rcases (show k = 0 ∨ k = 1 by omega) with rfl | rfl
      · rw [show opIx (.dat (.lst [.str "", .str "+"])) (.dat (.int ((0 : Nat) : Int))) = ret (.str "") from rfl, post_ret, x_addS (by walk_at "ln"), post_ret]
        simp only [P.txt]
        rw [if_pos (by decide)]
      · rw [show opIx (.dat (.lst [.str "", .str "+"])) (.dat (.int ((1 : Nat) : Int))) = ret (.str "+") from rfl, post_ret, x_addS (by walk_at "ln"), post_ret]
        simp only [P.txt]
        rw [if_neg (by decide)]
  induction d with
  | zero =>
    intro _ p h
    rw [show 0 + 1 + n = n + 1 by omega]
    refine main n 0 p (by decide) h fun q hq => ?_
    rw [wf_inner0 h] at hq; exact nomatch hq
  | succ d ih =>
    intro hd p h
    obtain ⟨h1, h2⟩ := wf_inner h
    rw [show d + 1 + 1 + n = d + 1 + n + 1 by omega]
    exact main (d + 1 + n) (d + 1) p hd h fun q hq => ⟨d, by omega, h2 q hq, ih (by omega) q (h2 q hq)⟩

/-! told as it is -/
theorem okE {N : Str → Prop} (hN : ∀ x, N x → good x) : ∀ (d : Nat) (p : P), P.wf N good d p → EN.okT (2 * d + 2) p.e := by
  intro d
  induction d with
  | zero =>
    intro p h
    cases p with
    | sign x => exact okT_2 (by show PyData.strOk _ = true; kernel_rfl) (good_str h)
    | name x => exact okT_2 (by show PyData.strOk _ = true; kernel_rfl) (good_str (hN x h))
    | row ps =>
      have : ps = [] := h
      subst this
      exact okT_2 (by show PyData.strOk _ = true; kernel_rfl) (fun _ h => nomatch h)
    | pick ps => cases h
    | maybe p => cases h
    | many p k => cases h
  | succ d ih =>
    intro p h
    rw [show 2 * (d + 1) + 2 = 2 * d + 2 + 1 + 1 by omega]
    have up : ∀ ps : List P, (∀ q ∈ ps, P.wf N good d q) → EN.okT (2 * d + 2 + 1) (.lst (P.eL ps)) := fun ps h2 y hy => by
      rw [P.eL_eq] at hy
      obtain ⟨q, hq, rfl⟩ := List.mem_map.mp hy
      exact ih q (h2 q hq)
    cases p with
    | sign x => exact okT_2 (by show PyData.strOk _ = true; kernel_rfl) (good_str h)
    | name x => exact okT_2 (by show PyData.strOk _ = true; kernel_rfl) (good_str (hN x h))
    | row ps => exact okT_2 (by show PyData.strOk _ = true; kernel_rfl) (up ps h.2)
    | pick ps => exact okT_2 (by show PyData.strOk _ = true; kernel_rfl) (up ps h.2.2)
    | maybe q => exact okT_2 (by show PyData.strOk _ = true; kernel_rfl) (okT_up (ih q h))
    | many q j => exact okT_3 (by show PyData.strOk _ = true; kernel_rfl) (okT_up (ih q h.2)) trivial
theorem okT_le {n m : Nat} (h : n ≤ m) {d : D} (hd : EN.okT n d) : EN.okT m d := by
  induction h with
  | refl => exact hd
  | step _ ih => exact okT_up ih
theorem itO_ok {k : Nat} {ts : List T} {μ : List M} (h : μ[k]? = some (.lst ts)) : itO (.own k) μ = .ok ts μ := by
  simp only [itO, h]
theorem compSO_map {α : Type} {F : T → Sh (Option D)} {xs : List α} {h g : α → D} {i : Nat} {μ : List M} (hi : μ[i]? = some (.lst (dats (xs.map h)))) (hF : ∀ x ∈ xs, F (.dat (h x)) = ret (some (g x))) (hl : xs.length ≤ 1000000) : compSO (ret (.own i)) F μ = .ok (.dat (.lst (xs.map g))) μ := by
  have key : ∀ l : List α, (∀ x ∈ l, F (.dat (h x)) = ret (some (g x))) → cmpS (fun t => bnd (chkO (.own i) (dats (xs.map h))) fun _ => F t) (dats (l.map h)) μ = .ok (l.map g) μ := by
    intro l
    induction l with
    | nil => intro _; rfl
    | cons d ds ih =>
      intro hF
      have h1 := hF d (by simp)
      have h2 := ih (fun e he => hF e (by simp [he]))
      show cmpS _ (.dat (h d) :: dats (ds.map h)) μ = _
      simp only [cmpS, bnd_ap, chkO_ok hi, h1, h2, ret_ap, List.map_cons]
  simp only [compSO, bnd_ret]
  rw [bnd_ap, itO_ok hi]
  simp only []
  rw [if_pos (Nat.ble_eq_true_of_le (by simpa [dats] using hl))]
  simp only [bnd_ap, key xs hF, chkO_ok hi, ret_ap]
theorem clr_at {a : Nat} {ts : List T} {μ : List M} (h : μ[a]? = some (.lst ts)) : opClear (.own a) μ = .ok .non (μ.set a (.lst [])) := by
  simp only [opClear, h]
theorem isTy_own {j : Nat} {ts : List T} {μ : List M} (h : μ[j]? = some (.lst ts)) : opIsTy "list" (.own j) μ = .ok (.bl true) μ := by
  have : kitB "list" "list" = some true := by decide
  simp only [opIsTy, tyT, h, this]
theorem ne_self {n : Nat} {d : D} (h : EN.okT n d) (hn : n ≤ 64) : opNe (.dat d) (.dat d) = ret (.bl false) := x_neD (eqD_refl h hn)
theorem ty_ii (i : Int) : opIsTy "int" (.int i) = ret (.bl true) := by
  have : kitB "int" "int" = some true := by decide
  funext μ
  simp only [opIsTy, tyT, tyD, this]; rfl
theorem ty_ss (z : Str) : opIsTy "str" (.str z) = ret (.bl true) := by
  have : kitB "str" "str" = some true := by decide
  funext μ
  simp only [opIsTy, tyT, tyD, this]; rfl
theorem iff_no {α : Type} {m n : Sh T} {x y : Sh α} {μ : List M} {Q : α → List M → Prop} (h1 : m μ = .ok (.bl true) μ) (h2 : n μ = .ok (.bl false) μ) (h : Post y μ Q) : Post (iff (orB (notB (tst m)) (tst n)) x y) μ Q := by
  have e1 : tst m μ = .ok true μ := by simp only [tst, bnd_ap, h1]; rfl
  have e2 : tst n μ = .ok false μ := by simp only [tst, bnd_ap, h2]; rfl
  have : iff (orB (notB (tst m)) (tst n)) x y μ = y μ := by
    generalize tst m = a at e1 ⊢
    generalize tst n = b at e2 ⊢
    simp only [iff, orB, notB, bnd_ap, e1, e2, ret_ap, Bool.not_true]
  unfold Post
  rw [this]
  exact h
theorem so_ok {N : Str → Prop} (hN : ∀ x, N x → good x) (n : Nat) {p : P} (h : P.wf N good 3 p) : cal (n + 8) i_law_is_so [.dat p.o, .dat p.e] = ret (.bl true) := by
  rw [e_law_is_so]
  refine call_ret rfl ?_
  have hin := wf_inner h
  have hwl := walk_len h
  have hW : Wz 3 = 1885 := by decide
  have hok3 : P.ok 3 p := by
    have mono : ∀ (d : Nat) (p : P), P.wf N good d p → P.ok d p := by
      intro d
      induction d with
      | zero => intro p h; cases p <;> first | exact h | exact ⟨hN _ h, trivial⟩ | cases h
      | succ d ih =>
        intro p h
        cases p with
        | sign x => exact h
        | name x => exact ⟨hN x h, trivial⟩
        | row ps => exact ⟨h.1, fun q hq => ih q (h.2 q hq)⟩
        | pick ps => exact ⟨h.1, h.2.1, fun q hq => ih q (h.2.2 q hq)⟩
        | maybe q => exact ih q h
        | many q j => exact ⟨h.1, ih q h.2⟩
    exact mono 3 p h
  unfold f_law_is_so
  simp only [post_bnd, post_ret]
  have e1 : cal (n + 7) (mi p) [.dat p.o] [] = .ok (.own 0) [.lst (dats (p.inner.map P.o))] := mi_own (n + 6) p []
  have e2 : cal (n + 7) (mk p) [.dat p.o] [.lst (dats (p.inner.map P.o))] = .ok (.own 1) [.lst (dats (p.inner.map P.o)), .lst (dats (p.walk.map P.o))] := by
    rw [show n + 7 = 3 + 2 + (n + 2) by omega]
    exact mk_own (n + 2) 3 (by decide) p h _
  rw [M_inner, post_ret, post_eq e1, M_walk, post_ret, post_eq e2, x_unl2, post_ret]
  have back : ∀ (e : Nat) (q : P), e ≤ 3 → P.wf N good e q → cal (n + 7) i_law_back [.dat q.o] = ret (.dat q.e) := fun e q he hq => by
    rw [show n + 7 = e + 1 + (n + 6 - e) by omega]
    exact back_ok _ e q hq
  have cI : compSO (ret (.own 0)) (fun x_8 => toD (cal (n + 7) i_law_back [x_8])) [.lst (dats (p.inner.map P.o)), .lst (dats (p.walk.map P.o))] = .ok (.dat (.lst (p.inner.map P.e))) [.lst (dats (p.inner.map P.o)), .lst (dats (p.walk.map P.o))] := compSO_map rfl (fun q hq => by rw [back 2 q (by decide) (hin.2 q hq), x_toDr]) (by omega)
  have cW : compSO (ret (.own 1)) (fun x_8 => toD (cal (n + 7) i_law_back [x_8])) [.lst (dats (p.inner.map P.o)), .lst (dats (p.walk.map P.o))] = .ok (.dat (.lst (p.walk.map P.e))) [.lst (dats (p.inner.map P.o)), .lst (dats (p.walk.map P.o))] := compSO_map rfl (fun q hq => by
    obtain ⟨e, he, hq⟩ := wf_walk h q hq
    rw [back e q he hq, x_toDr]) (by omega)
  have oI : EN.okT 9 (.lst (p.inner.map P.e)) := fun x hx => by
    obtain ⟨q, hq, rfl⟩ := List.mem_map.mp hx
    exact okT_le (by decide) (okE hN 2 q (hin.2 q hq))
  have oW : EN.okT 9 (.lst (p.walk.map P.e)) := fun x hx => by
    obtain ⟨q, hq, rfl⟩ := List.mem_map.mp hx
    obtain ⟨e, he, hq⟩ := wf_walk h q hq
    exact (okT_le (show 2 * e + 2 ≤ 8 by omega) (okE hN e q hq) : EN.okT 8 q.e)
  have lw : cal (n + 7) i_law_walk [.dat p.e] = ret (.dat (.lst (p.walk.map P.e))) := by
    rw [show n + 7 = 3 + 2 + (n + 2) by omega]
    exact walk_ok (n + 2) 3 (by decide) p h
  simp only [b_ret]
  refine iff_no (isTy_own (j := 0) rfl) (by rw [bnd_ap, cI]; simp only [inner_ok, b_ret, ne_self oI (by decide)]; rfl) ?_
  refine iff_no (isTy_own (j := 1) rfl) (by rw [bnd_ap, cW]; simp only [lw, b_ret, ne_self oW (by decide)]; rfl) ?_
  simp only [post_bnd, post_ret]
  rw [post_eq (app_at (a := 0) rfl (by simp [dats]; omega)), post_eq (clr_at (a := 1) rfl)]
  have ed : cal (n + 7) (mdp p) [.dat p.o] = ret (.int p.dep) := by
    rw [show n + 7 = 3 + 2 + (n + 2) by omega]
    exact md_ok (n + 2) 3 p h
  have eld : cal (n + 7) i_law_deep [.dat p.e] = ret (.int p.dep) := by
    rw [show n + 7 = 3 + 2 + (n + 2) by omega]
    exact ld_ok (n + 2) 3 p h
  have et : cal (n + 7) (mt p) [.dat p.o] = ret (.str p.txt) := by
    funext μ
    rw [show n + 7 = 2 * 3 + 1 + n by omega]
    exact text_ok 3 (by decide) p hok3 n μ
  have elt : cal (n + 7) i_law_text [.dat p.e] = ret (.str p.txt) := by
    rw [show n + 7 = 3 + 1 + (n + 3) by omega]
    exact lt_ok (n + 3) 3 (by decide) p hok3
  rw [M_deep, post_ret, post_r ed, M_text, post_ret, post_r et, x_unl2, post_ret]
  simp only [b_ret, ty_int, ty_ii, ty_ss, eld, elt, x_neI, x_eqS, x_tst, x_notB, x_orB, x_iff, x_andV, decide_true, Bool.not_true, Bool.false_eq_true, if_false, if_true, post_ret]

/-! draws -/
abbrev S (ns : List Int) : T := .dat (.lst (ns.map D.int))
theorem cut_map (ns : List Int) (lo hi : Option Int) : ∃ ms : List Int, EN.cutD (ns.map D.int) lo hi = ms.map D.int ∧ ms.length ≤ ns.length ∧ ∀ z ∈ ms, z ∈ ns :=
  ⟨(ns.drop (HT.sIx ns.length 0 lo)).take (HT.sIx ns.length ns.length hi - HT.sIx ns.length 0 lo), by unfold EN.cutD; rw [List.length_map, List.map_take, List.map_drop], by rw [List.length_take, List.length_drop]; omega, fun z hz => List.mem_of_mem_drop (List.mem_of_mem_take hz)⟩
theorem ns_ix {ns : List Int} {i : Int} (h0 : 0 ≤ i) (h1 : i < ns.length) : ∃ z ∈ ns, opIx (.dat (.lst (ns.map D.int))) (.int i) = ret (.int z) := by
  obtain ⟨j, rfl⟩ : ∃ j : Nat, i = j := ⟨i.toNat, by omega⟩
  have hj : j < ns.length := by omega
  refine ⟨ns[j], List.getElem_mem hj, x_ixL ?_⟩
  unfold atI ixN
  rw [if_pos (by omega), if_pos (by simp; omega)]
  simp [hj]
theorem x_pow60 : opPow (.int 10) (.int 60) = ret (.int (10 ^ 60)) := x_powI (by decide)
theorem of_ok {ns : List Int} (hns : ns.length ≤ 63) (n : Nat) {k : Int} (hk : 0 ≤ k ∧ k < 1000) : ∃ v : Int, 0 ≤ v ∧ v < 10 ^ 60 ∧ cal (n + 1) i_law_of [S ns, .int k] = ret (.int v) := by
  have : ∃ d, (∃ v : Int, d = .int v ∧ 0 ≤ v ∧ v < 10 ^ 60) ∧ cal (n + 1) i_law_of [S ns, .int k] = ret (.dat d) := by
    rw [e_law_of]
    refine call_ex rfl ?_
    unfold f_law_of
    obtain ⟨ms, e, l1, _⟩ := cut_map ns (some k) (some (k + 1))
    have lc : (EN.cutD (ns.map D.int) (some k) (some (k + 1))).length ≤ 63 := by rw [e, List.length_map]; omega
    walk_at "ex"
    rw [e]
    obtain ⟨c, zs, e2⟩ : ∃ (c : Int) (zs : List D), ms.map D.int ++ [D.int 0] = D.int c :: zs := by
      cases ms with
      | nil => exact ⟨0, [], rfl⟩
      | cons c ls => exact ⟨c, _, rfl⟩
    rw [e2, x_ixL0, post_ret, x_pow60, post_ret, x_modI (by decide), post_ret]
    exact ⟨_, rfl, _, rfl, Int.emod_nonneg _ (by decide), Int.emod_lt_of_pos _ (by decide)⟩
  obtain ⟨d, ⟨v, rfl, h0, h1⟩, e⟩ := this
  exact ⟨v, h0, h1, e⟩
theorem mixed_ok {ns : List Int} (hns : ns.length ≤ 63) (hb : ∀ z ∈ ns, Builtin.Int.intBits z ≤ 1048576) (n : Nat) {k : Int} (hk : 0 ≤ k ∧ k < 1000) : ∃ v : Int, 0 ≤ v ∧ v < 2147483647 ∧ cal (n + 1) i_law_mixed [S ns, .int k] = ret (.int v) := by
  have : ∃ d, (∃ v : Int, d = .int v ∧ 0 ≤ v ∧ v < 2147483647) ∧ cal (n + 1) i_law_mixed [S ns, .int k] = ret (.dat d) := by
    rw [e_law_mixed]
    refine call_ex rfl ?_
    unfold f_law_mixed
    walk_at "ex"
    have hl : (0 : Int) ≤ (ns.map D.int).length := by omega
    generalize hm : (if ((ns.map D.int).length : Int) > 1 then ((ns.map D.int).length : Int) else 1) = m
    have hm1 : 0 < m := by rw [← hm]; split <;> omega
    have hm2 : m ≤ ((ns ++ [0]).map D.int).length := by
      by_cases h : ((ns.map D.int).length : Int) > 1
      · rw [if_pos h] at hm
        simp only [List.length_map, List.length_append, List.length_cons, List.length_nil] at hm ⊢
        omega
      · rw [if_neg h] at hm
        simp only [List.length_map, List.length_append, List.length_cons, List.length_nil] at h ⊢
        omega
    rw [show ns.map D.int ++ [D.int 0] = (ns ++ [0]).map D.int by simp]
    have k0 := Int.emod_nonneg k (b := m) (by omega)
    have k1 := Int.emod_lt_of_pos k hm1
    obtain ⟨z, hz, e⟩ := ix_map (xs := ns ++ [0]) (f := D.int) k0 (by rw [List.length_map] at hm2; omega)
    rw [post_r e, x_addI, post_ret, x_addI, post_ret]
    have bz : Builtin.Int.intBits z ≤ 1048576 := by
      rcases List.mem_append.mp hz with h | h
      · exact hb z h
      · rw [List.mem_singleton.mp h]; decide
    have b1 : Builtin.Int.intBits (z + 1 + 1009 * k * k) ≤ max (max 1048576 1 + 1) 100 + 1 := by
      refine intBits_add_le (intBits_add_le bz (by decide)) (bits_of ?_)
      have : 1009 * k * k ≤ 1009 * 1000 * 1000 := Int.mul_le_mul (by omega) (by omega) (by omega) (by omega)
      have h2 : 0 ≤ 1009 * k * k := Int.mul_nonneg (by omega) (by omega)
      omega
    have b2 : Builtin.Int.intBits (48271 + 2 * k) ≤ 100 := bits_of (by omega)
    rw [x_mulI (by omega), post_ret, x_modI (by decide), post_ret]
    exact ⟨_, rfl, _, rfl, Int.emod_nonneg _ (by decide), Int.emod_lt_of_pos _ (by decide)⟩
  obtain ⟨d, ⟨v, rfl, h0, h1⟩, e⟩ := this
  exact ⟨v, h0, h1, e⟩
theorem turned_ok (n : Nat) {a k : Int} (ha : 0 ≤ a ∧ a < 10 ^ 20) (hk : 0 ≤ k ∧ k < 1000) : ∃ v : Int, 0 ≤ v ∧ v < 2147483647 ∧ cal (n + 1) i_law_turned [.int a, .int k] = ret (.int v) := by
  have : ∃ d, (∃ v : Int, d = .int v ∧ 0 ≤ v ∧ v < 2147483647) ∧ cal (n + 1) i_law_turned [.int a, .int k] = ret (.dat d) := by
    rw [e_law_turned]
    refine call_ex rfl ?_
    unfold f_law_turned
    walk_at "ex"
    obtain ⟨c, hc, e⟩ := ix_map (xs := [48271, 16807, 69621, 39373]) (f := D.int) (Int.emod_nonneg k (b := 4) (by decide)) (Int.emod_lt_of_pos k (b := 4) (by decide))
    have hc' : 0 ≤ c ∧ c < 100000 := by simp at hc; omega
    refine (post_r e).mpr ?_
    have h1 : 5081 * k * k ≤ 5081 * 1000 * 1000 := Int.mul_le_mul (by omega) (by omega) (by omega) (by omega)
    have h2 : 0 ≤ 5081 * k * k := Int.mul_nonneg (by omega) (by omega)
    rw [x_mulS (by omega) (by omega), post_ret, x_modI (by decide), post_ret]
    exact ⟨_, rfl, _, rfl, Int.emod_nonneg _ (by decide), Int.emod_lt_of_pos _ (by decide)⟩
  obtain ⟨d, ⟨v, rfl, h0, h1⟩, e⟩ := this
  exact ⟨v, h0, h1, e⟩
/-- a sign of the tails of words -/
abbrev tl (c : Nat) : Prop := c ∈ cpL "abcdefhilmnorstu"
theorem tl_lt : ∀ c, tl c → 97 ≤ c ∧ c < 123 ∧ c ≠ 106 ∧ c ≠ 107 ∧ c ≠ 112 ∧ c ≠ 122 := by
  have : ∀ c ∈ cpL "abcdefhilmnorstu", 97 ≤ c ∧ c < 123 ∧ c ≠ 106 ∧ c ≠ 107 ∧ c ≠ 112 ∧ c ≠ 122 := by decide +kernel
  exact this
theorem word_ok (n : Nat) {a k : Int} (ha : 0 ≤ a ∧ a < 10 ^ 70) (hk : 0 ≤ k ∧ k < 9) : ∃ (w : Str) (L : Nat), good w ∧ w.length ≤ 8 ∧ 1 ≤ w.length ∧ L ∈ cpL w ∧ (∀ c ∈ cpL w, tl c ∨ c = L) ∧ opIx (.str "jkpqvwxyz") (.int k) = ret (.str ⟨#[L]⟩) ∧ cal (n + 1) i_law_word [.int a, .int k] = ret (.str w) := by
  have hL : ∃ L, L ∈ cpL "jkpqvwxyz" ∧ opIx (.str "jkpqvwxyz") (.int k) = ret (.str ⟨#[L]⟩) := ix_chr (by decide) hk.1 hk.2
  obtain ⟨L, hLm, eL⟩ := hL
  have hL128 : L < 128 := by
    have : ∀ c ∈ cpL "jkpqvwxyz", c < 128 := by decide +kernel
    exact this L hLm
  have : ∃ d, (∃ w : Str, d = .str w ∧ good w ∧ w.length ≤ 8 ∧ 1 ≤ w.length ∧ L ∈ cpL w ∧ (∀ c ∈ cpL w, tl c ∨ c = L)) ∧ cal (n + 1) i_law_word [.int a, .int k] = ret (.dat d) := by
    rw [e_law_word]
    refine call_ex rfl ?_
    unfold f_law_word
    have kk0 : 0 ≤ k * k := Int.mul_nonneg hk.1 hk.1
    have kk1 : k * k ≤ 9 * 9 := Int.mul_le_mul (by omega) (by omega) hk.1 (by omega)
    have kq : k / 9 % 2 < 1 := by omega
    have km : k % 9 = k := by omega
    walk_at "ex"
    generalize hmore : a / 2 + k * k * 4621 * (a % 2) = more
    rw [if_pos kq, km]
    have hg : ∀ i : Nat, ∃ c, tl c ∧ opIx (.str "abcdefhilmnorstu") (.int ((more + 5 * (i : Int)) % 16)) = ret (.str ⟨#[c]⟩) := fun i => ix_chr (by decide) (Int.emod_nonneg _ (by decide)) (Int.emod_lt_of_pos _ (by decide))
    obtain ⟨g, hg⟩ := Classical.skolem.mp hg
    have m0 := Int.emod_nonneg more (b := 7) (by decide)
    have m1 := Int.emod_lt_of_pos more (b := 7) (by decide)
    obtain ⟨r, hr⟩ : ∃ r : Nat, more % 7 = r := ⟨(more % 7).toNat, by omega⟩
    have hr7 : r < 7 := by omega
    rw [hr, x_rg1 (by omega)]
    rw [show ((r : Int)).toNat = r by omega]
    rw [post_r (comp_rg (g := fun i => D.str ⟨#[g i]⟩) (fun i hi => by rw [x_mulS (by decide) (by omega), bnd_ret, x_addI, bnd_ret, x_modI (by decide), bnd_ret, (hg i).2]; rfl) (by omega))]
    obtain ⟨z, z1, z2, z3⟩ := join_chr (ys := (List.range r).map g) (by simp; omega) (sep := "") rfl
    have zl : z.length = r := by simpa using z1
    rw [show (List.range r).map (fun i => D.str ⟨#[g i]⟩) = ((List.range r).map g).map fun c => D.str ⟨#[c]⟩ by rw [List.map_map]; rfl, post_r z3]
    walk_at "ex"
    generalize hp : a / 14 % ((z.length : Int) + 1) = p
    have p0 : 0 ≤ p := hp ▸ Int.emod_nonneg _ (by omega)
    have c1 := cutS_two (z := z) (p := p) p0
    rw [post_r eL]
    walk_at "ex"
    have ht : ∀ c ∈ cpL z, tl c := fun c hc => by
      obtain ⟨i, _, rfl⟩ := List.mem_map.mp ((z2 c).mp hc)
      exact (hg i).1
    generalize hx : cutS z none (some p) = x at c1
    generalize hy : cutS z (some p) none = y at c1
    have hcs : ∀ c ∈ cpL (x ++ ⟨#[L]⟩ ++ "" ++ y), tl c ∨ c = L := fun c hc => by
      rw [cpL_append, cpL_append, cpL_append] at hc
      rcases List.mem_append.mp hc with hc | hc
      · rcases List.mem_append.mp hc with hc | hc
        · rcases List.mem_append.mp hc with hc | hc
          · exact .inl (ht c (cut_sub (hx ▸ hc)))
          · exact .inr (by simpa [cpL] using hc)
        · exact nomatch hc
      · exact .inl (ht c (cut_sub (hy ▸ hc)))
    refine ⟨_, rfl, _, rfl, ⟨?_, fun c hc => ?_⟩, ?_, ?_, ?_, hcs⟩
    · simp only [slen_append, len1]; rw [show ("" : Str).length = 0 from rfl]; omega
    · rcases hcs c hc with h | h
      · have := tl_lt c h; omega
      · omega
    · simp only [slen_append, len1]; rw [show ("" : Str).length = 0 from rfl]; omega
    · simp only [slen_append, len1]; omega
    · rw [cpL_append, cpL_append, cpL_append]
      exact List.mem_append_left _ (List.mem_append_left _ (List.mem_append_right _ (by simp [cpL])))
  obtain ⟨d, ⟨w, rfl, h1, h2, h3, h4, h5⟩, e⟩ := this
  exact ⟨w, L, h1, h2, h3, h4, h5, eL, e⟩
theorem marks_lt : ∀ c ∈ cpL "()[]{},;:.+-*/<>=!&^~@#$?", c < 128 := by decide +kernel
theorem good_1 {c : Nat} (h : c < 128) : good ⟨#[c]⟩ := ⟨by show 1 ≤ 12; decide, fun k hk => by
  have : k = c := by simpa [cpL] using hk
  omega⟩
theorem good_2 {c d : Nat} (h : c < 128) (h' : d < 128) : good (⟨#[c]⟩ ++ ⟨#[d]⟩) := ⟨by show 2 ≤ 12; decide, fun k hk => by
  rw [cpL_append] at hk
  rcases List.mem_append.mp hk with hk | hk
  · exact (good_1 h).2 k hk
  · exact (good_1 h').2 k hk⟩
theorem sign_ok (n : Nat) {a k : Int} (ha : 0 ≤ a ∧ a < 10 ^ 70) (hk : 0 ≤ k ∧ k < 9) : ∃ x : Str, good x ∧ cal (n + 2) i_law_sign [.int a, .int k] = ret (.str x) := by
  have : ∃ d, (∃ x : Str, d = .str x ∧ good x) ∧ cal (n + 2) i_law_sign [.int a, .int k] = ret (.dat d) := by
    rw [e_law_sign]
    refine call_ex rfl ?_
    unfold f_law_sign
    walk_at "ex"
    obtain ⟨c, hc, ec⟩ := ix_chr (z := "()[]{},;:.+-*/<>=!&^~@#$?") (by decide) (Int.emod_nonneg (a / 81 + 7 * k) (b := 25) (by decide)) (Int.emod_lt_of_pos _ (by decide))
    obtain ⟨d, hd, ed⟩ := ix_chr (z := "()[]{},;:.+-*/<>=!&^~@#$?") (by decide) (Int.emod_nonneg (a / 5 + 11 * k + 3) (b := 25) (by decide)) (Int.emod_lt_of_pos _ (by decide))
    obtain ⟨v, hv, ev⟩ := ix_map (xs := [1, 3, 9, 27]) (f := D.int) (Int.emod_nonneg k (b := 4) (by decide)) (Int.emod_lt_of_pos k (b := 4) (by decide))
    have hv' : 0 < v ∧ v < 100 := by simp at hv; omega
    obtain ⟨w, L, w1, _, _, _, _, _, w2⟩ := word_ok n (a := a / 2) (k := k) (by omega) hk
    rw [post_r ec]
    refine (post_r ev).mpr ?_
    walk_at "ex"
    rw [post_r ed]
    walk_at "ex"
    rw [post_r w2]
    walk_at "ex"
    obtain ⟨x, hx, ex⟩ := ix_map (xs := [⟨#[c]⟩, ⟨#[c]⟩ ++ ⟨#[d]⟩, w]) (f := D.str) (Int.emod_nonneg (a / v) (b := 3) (by decide)) (Int.emod_lt_of_pos _ (by decide))
    refine (post_r ex).mpr ⟨_, rfl, x, rfl, ?_⟩
    simp only [List.mem_cons, List.not_mem_nil, or_false] at hx
    rcases hx with rfl | rfl | rfl
    · exact good_1 (marks_lt c hc)
    · exact good_2 (marks_lt c hc) (marks_lt d hd)
    · exact w1
  obtain ⟨d, ⟨x, rfl, h1⟩, e⟩ := this
  exact ⟨x, h1, e⟩
theorem leafS {sg : List Str} {a : Int} {Q : T → List M → Prop} (hs0 : 0 < sg.length) (hsg : ∀ x ∈ sg, good x) (ha : 0 ≤ a) (h : ∀ x, good x → Q (.dat (.tup [.str "sign", .str x])) []) : Post (opIx (.dat (.lst (sts sg))) (.int (a / 9 % ((sts sg).length : Int)))) [] fun a μ1 => Post (mkTup [.str "sign", a]) μ1 Q := by
  obtain ⟨x, hx, ex⟩ := ix_map (xs := sg) (f := D.str) (Int.emod_nonneg (a / 9) (b := sg.length) (by omega)) (Int.emod_lt_of_pos _ (by omega))
  rw [show ((sts sg).length : Int) = (sg.length : Int) by rw [List.length_map], post_r ex, x_tup2, post_ret]
  exact h x (hsg x hx)
/-- parts by cells -/
theorem part_ok {nm sg : List Str} (hn : nm ≠ []) (hs : sg ≠ []) (hsg : ∀ x ∈ sg, good x) (n : Nat) : ∀ (d : Nat), d ≤ 3 → ∀ a : Int, 0 ≤ a ∧ a < 10 ^ 20 → ∃ p : P, P.wf (· ∈ nm) good d p ∧ cal (d + 2 + n) i_law_part [.int a, .int (d : Nat), .dat (.lst (sts nm)), .dat (.lst (sts sg))] = ret (.dat p.e) := by
  have hn0 : 0 < nm.length := List.length_pos_iff.mpr hn
  have hs0 : 0 < sg.length := List.length_pos_iff.mpr hs
  intro d
  induction d with
  | zero =>
    intro _ a ha
    have : ∃ d, (∃ p : P, d = p.e ∧ P.wf (· ∈ nm) good 0 p) ∧ cal (0 + 2 + n) i_law_part [.int a, .int ((0 : Nat) : Int), .dat (.lst (sts nm)), .dat (.lst (sts sg))] = ret (.dat d) := by
      rw [show 0 + 2 + n = n + 1 + 1 by omega, e_law_part]
      refine call_ex rfl ?_
      unfold f_law_part
      walk_at "ex"
      rw [show ((if a % 9 < 3 then ret true else ret (decide (((0 : Nat) : Int) < 1))) : Sh Bool) = ret true by split <;> rfl, x_iff, if_pos rfl, post_bnd]
      exact leafS hs0 hsg (by omega) fun x hx => ⟨_, rfl, .sign x, by simp only [P.e], hx⟩
    obtain ⟨d, ⟨p, rfl, h1⟩, e⟩ := this
    exact ⟨p, h1, e⟩
  | succ d ih =>
    intro hd a ha
    have ih := ih (by omega)
    have : ∃ r, (∃ p : P, r = p.e ∧ P.wf (· ∈ nm) good (d + 1) p) ∧ cal (d + 1 + 2 + n) i_law_part [.int a, .int ((d + 1 : Nat) : Int), .dat (.lst (sts nm)), .dat (.lst (sts sg))] = ret (.dat r) := by
      rw [show d + 1 + 2 + n = d + 2 + n + 1 by omega, e_law_part]
      refine call_ex rfl ?_
      unfold f_law_part
      have hd1 : ((d + 1 : Nat) : Int) - 1 = (d : Int) := by omega
      walk_at "ex"
      simp only [hd1]
      by_cases h3 : a % 9 < 3
      · rw [if_pos h3, x_iff, if_pos rfl, post_bnd]
        exact leafS hs0 hsg (by omega) fun x hx => ⟨_, rfl, .sign x, by simp only [P.e], hx⟩
      rw [if_neg h3, decide_eq_false (by omega), x_iff, if_neg Bool.false_ne_true]
      by_cases h5 : a % 9 < 5
      · rw [if_pos h5, post_bnd]
        obtain ⟨x, hx, ex⟩ := ix_map (xs := nm) (f := D.str) (Int.emod_nonneg (a / 9) (b := nm.length) (by omega)) (Int.emod_lt_of_pos _ (by omega))
        rw [show ((sts nm).length : Int) = (nm.length : Int) by rw [List.length_map], post_r ex, x_tup2, post_ret]
        exact ⟨_, rfl, .name x, by simp only [P.e], hx⟩
      rw [if_neg h5]
      rw [show d + 2 + n = d + 1 + n + 1 by omega] at ih ⊢
      by_cases h7 : a % 9 < 7
      · rw [if_pos h7]
        have hF : ∀ i : Nat, ∃ p : P, i < 3 → P.wf (· ∈ nm) good d p ∧ (bnd (cal (d + 1 + n + 1) i_law_turned [.int (a / 9), .int (i : Nat)]) fun a => toD (cal (d + 1 + n + 1) i_law_part [a, .int (d : Nat), .dat (.lst (sts nm)), .dat (.lst (sts sg))])) = ret (some p.e) := fun i => by
          by_cases hi : i < 3
          · obtain ⟨v, v0, v1, ev⟩ := turned_ok (d + 1 + n) (a := a / 9) (k := (i : Nat)) (by omega) (by omega)
            obtain ⟨p, hp, ep⟩ := ih v (by omega)
            exact ⟨p, fun _ => ⟨hp, by rw [ev, bnd_ret, ep, x_toDr]⟩⟩
          · exact ⟨.sign "", fun h => absurd h hi⟩
        obtain ⟨g, hg⟩ := Classical.skolem.mp hF
        have key : ∀ m : Int, 0 ≤ m → m ≤ 3 → (a % 9 = 6 → 2 ≤ m) → Post (bnd (compS (rg1 (.int m)) fun x_36 => bnd (cal (d + 1 + n + 1) i_law_turned [.int (a / 9), x_36]) fun a => toD (cal (d + 1 + n + 1) i_law_part [a, .int (d : Nat), .dat (.lst (sts nm)), .dat (.lst (sts sg))])) fun v_parts_35 => bnd (opIx (.dat (.lst [.str "row", .str "pick"])) (.int (a % 9 - 5))) fun a => mkTup [a, v_parts_35]) [] fun t x => ∃ d_1, t = T.dat d_1 ∧ ∃ p : P, d_1 = p.e ∧ P.wf (fun x => x ∈ nm) good (d + 1) p := fun m m0 m3 m2 => by
          obtain ⟨j, rfl⟩ : ∃ j : Nat, m = j := ⟨m.toNat, by omega⟩
          rw [x_rg1 (by omega), show ((j : Int)).toNat = j by omega, post_bnd, post_r (comp_rg (g := fun i => (g i).e) (fun i hi => (hg i (by omega)).2) (by omega)), show (List.range j).map (fun i => (g i).e) = ((List.range j).map g).map P.e by rw [List.map_map]; rfl]
          have hw : ∀ q ∈ (List.range j).map g, P.wf (· ∈ nm) good d q := fun q hq => by
            obtain ⟨i, hi, rfl⟩ := List.mem_map.mp hq
            exact (hg i (by have := List.mem_range.mp hi; omega)).1
          have hl : ((List.range j).map g).length = j := by simp
          by_cases h6 : a % 9 = 5
          · rw [h6, show (5 : Int) - 5 = 0 from rfl, x_ixL0, bnd_ret, x_tup2, post_ret]
            exact ⟨_, rfl, .row ((List.range j).map g), by simp only [P.e, P.eL_eq], by omega, hw⟩
          · have h6 : a % 9 = 6 := by omega
            have := m2 h6
            rw [h6, show (6 : Int) - 5 = 1 from rfl, x_ixL1, bnd_ret, x_tup2, post_ret]
            exact ⟨_, rfl, .pick ((List.range j).map g), by simp only [P.e, P.eL_eq], by omega, by omega, hw⟩
        have kx : ∃ v2 : Int, (v2 = 3 ∨ v2 = 2) ∧ opIx (.dat (.lst [.int 3, .int 2])) (.int (if ((d + 1 : Nat) : Int) = 2 then 1 else 0)) = ret (.int v2) := by
          by_cases hd2 : ((d + 1 : Nat) : Int) = 2
          · exact ⟨2, .inr rfl, by rw [if_pos hd2, x_ixL1]⟩
          · exact ⟨3, .inl rfl, by rw [if_neg hd2, x_ixL0]⟩
        obtain ⟨v2, hv2, ev2⟩ := kx
        rw [ev2]
        simp only [bnd_ret]
        by_cases h6 : a % 9 = 5
        · obtain ⟨v, hv, ev⟩ := ix_map (xs := [0, 1, 2, 3, 2, 2]) (f := D.int) (Int.emod_nonneg (a / 9) (b := 6) (by omega)) (Int.emod_lt_of_pos _ (by omega))
          rw [if_pos h6]
          simp only [bnd_bnd, bnd_ret, post_bnd]
          refine (post_r ev).mpr ?_
          have hv' : 0 ≤ v ∧ v ≤ 3 := by simp at hv; omega
          rw [x_min2, post_ret]
          have := key (if v2 < v then v2 else v) (by split <;> omega) (by split <;> omega) (by split <;> omega)
          simp only [post_bnd] at this
          exact this
        · rw [if_neg h6]
          simp only [bnd_bnd, bnd_ret]
          rw [x_min2]
          simp only [bnd_ret]
          refine key _ ?_ ?_ ?_ <;> split <;> omega
      · rw [if_neg h7]
        obtain ⟨v, v0, v1, ev⟩ := turned_ok (d + 1 + n) (a := a / 9) (k := 1) (by omega) (by omega)
        obtain ⟨p, hp, ep⟩ := ih v (by omega)
        rw [ev, bnd_ret, ep, bnd_ret]
        split
        · rw [x_tup2, post_ret]
          exact ⟨_, rfl, .maybe p, by simp only [P.e], hp⟩
        · obtain ⟨j, hj⟩ : ∃ j : Nat, a / 9 % 2 = j := ⟨(a / 9 % 2).toNat, by omega⟩
          rw [hj, x_tup3, post_ret]
          exact ⟨_, rfl, .many p j, by simp only [P.e], by omega, hp⟩
    obtain ⟨d, ⟨p, rfl, h1⟩, e⟩ := this
    exact ⟨p, h1, e⟩

/-! the law -/
theorem compO_rg {F : T → Sh (Option D)} {n : Nat} {g : Nat → D} {μ : List M} (hF : ∀ i, i < n → F (.int (i : Nat)) = ret (some (g i))) (hn : n ≤ 1000000) : compO (ret (rgD 0 n)) F μ = .ok (.own μ.length) (μ ++ [.lst (dats ((List.range n).map g))]) := by
  have e : rgD 0 n = dats ((List.range n).map fun (i : Nat) => D.int (0 + (i : Int))) := by unfold rgD dats; rw [List.map_map]; rfl
  rw [e]
  refine compO_map (g := g) (fun i hi => ?_) (by simpa using hn)
  rw [Int.zero_add, hF i (List.mem_range.mp hi)]
theorem txt_r0 : P.txt (.row []) = "()" := by decide +kernel
theorem txt_m0 : P.txt (.many (.sign "a") 0) = "{'a'}" := by decide +kernel
theorem txt_m1 : P.txt (.many (.sign "a") 1) = "{'a'}+" := by decide +kernel
theorem the_law (ns : List Int) (hns : ns.length ≤ 63) (hb : ∀ z ∈ ns, Builtin.Int.intBits z ≤ 1048576) : ∃ μ', f_law (cal 20) (.dat (.lst (ns.map .int))) [] = .ok (.bl true) μ' := by
  suffices hp : Post (f_law (cal 20) (S ns)) [] fun t _ => t = .bl true by
    obtain ⟨t, μ', e, rfl⟩ := hp
    exact ⟨μ', e⟩
  obtain ⟨c0, c00, c01, ec0⟩ := of_ok hns 19 (k := 0) (by decide)
  obtain ⟨c1, c10, c11, ec1⟩ := of_ok hns 19 (k := 1) (by decide)
  obtain ⟨c2, c20, c21, ec2⟩ := of_ok hns 19 (k := 2) (by decide)
  have hw : ∀ i : Nat, ∃ w : Str, i < 3 → good w ∧ cal 20 i_law_word [.int c0, .int (i : Nat)] = ret (.str w) := fun i => by
    by_cases hi : i < 3
    · obtain ⟨w, L, h1, _, _, h4, h5, h6, h7⟩ := word_ok 19 (a := c0) (k := (i : Nat)) (by omega) (by omega)
      exact ⟨w, fun _ => ⟨h1, h7⟩⟩
    · exact ⟨"", fun h => absurd h hi⟩
  obtain ⟨w, hw⟩ := Classical.skolem.mp hw
  have hs : ∀ i : Nat, ∃ x : Str, i < 4 → good x ∧ cal 20 i_law_sign [.int c1, .int (i : Nat)] = ret (.str x) := fun i => by
    by_cases hi : i < 4
    · obtain ⟨x, h1, h2⟩ := sign_ok 18 (a := c1) (k := (i : Nat)) (by omega) (by omega)
      exact ⟨x, fun _ => ⟨h1, h2⟩⟩
    · exact ⟨"", fun h => absurd h hi⟩
  obtain ⟨sx, hs⟩ := Classical.skolem.mp hs
  unfold f_law
  simp only [post_bnd]
  have en : compS (bnd (ret (.int 3)) rg1) (fun x_2 => toD (bnd (bnd (cal 20 i_law_of [S ns, .int 0]) fun u5 => bnd (bnd (ret x_2) fun u3 => bnd (ret []) fun us4 => ret (u3 :: us4)) fun us6 => ret (u5 :: us6)) (cal 20 i_law_word))) = ret (.dat (.lst (sts ((List.range 3).map w)))) := by
    rw [bnd_ret, x_rg1 (by decide), show (3 : Int).toNat = 3 from rfl, comp_rg (g := fun i => D.str (w i)) (fun i hi => ?_) (by decide)]
    · unfold sts; rw [List.map_map]; rfl
    · rw [show cal 20 i_law_of [S ns, .int 0] = ret (.int c0) from ec0]
      simp only [b_ret]
      rw [(hw i hi).2, x_toDr]
  rw [post_r en]
  generalize hnm : (List.range 3).map w = nm
  have hnm0 : nm ≠ [] := by rw [← hnm]; simp
  have hng : ∀ x ∈ nm, good x := fun x hx => by
    rw [← hnm] at hx
    obtain ⟨i, hi, rfl⟩ := List.mem_map.mp hx
    exact (hw i (List.mem_range.mp hi)).1
  have es : compO (bnd (ret (.int 4)) rg1) (fun x_8 => toD (bnd (bnd (cal 20 i_law_of [S ns, .int 1]) fun u11 => bnd (bnd (ret x_8) fun u9 => bnd (ret []) fun us10 => ret (u9 :: us10)) fun us12 => ret (u11 :: us12)) (cal 20 i_law_sign))) [] = .ok (.own 0) [.lst (dats (sts [sx 0, sx 1, sx 2, sx 3]))] := by
    rw [bnd_ret, x_rg1 (by decide)]
    refine (compO_rg (n := 4) (g := fun i => D.str (sx i)) (fun i hi => ?_) (by decide)).trans rfl
    rw [show cal 20 i_law_of [S ns, .int 1] = ret (.int c1) from ec1]
    simp only [b_ret]
    rw [(hs i hi).2, x_toDr]
  rw [post_eq es]
  have hsg : ∀ x ∈ [sx 0, sx 1, sx 2, sx 3], good x := fun x hx => by
    simp only [List.mem_cons, List.not_mem_nil, or_false] at hx
    rcases hx with rfl | rfl | rfl | rfl
    · exact (hs 0 (by decide)).1
    · exact (hs 1 (by decide)).1
    · exact (hs 2 (by decide)).1
    · exact (hs 3 (by decide)).1
  simp only [post_ret]
  have e2 : cal 20 i_law_of [S ns, .int 2] = ret (.int c2) := ec2
  rw [post_eq (show opIx (.own 0) (.int 0) [M.lst (dats (sts [sx 0, sx 1, sx 2, sx 3]))] = EN.R.ok (T.str (sx 0)) [M.lst (dats (sts [sx 0, sx 1, sx 2, sx 3]))] from rfl), x_lst3, post_ret, post_r e2, x_divI (by decide) (by decide), post_ret, x_modI (by decide), post_ret]
  have a0 := Int.emod_nonneg (c2 / 4) (b := 3) (by decide)
  have a1 := Int.emod_lt_of_pos (c2 / 4) (b := 3) (by decide)
  obtain ⟨z, hz, ez⟩ := ix_map (xs := [("WORD" : Str), "FIGURES", sx 0]) (f := D.str) (v := c2 / 4 % 3) a0 (by simpa using a1)
  rw [post_r (show opIx (T.dat (.lst [.str "WORD", .str "FIGURES", .str (sx 0)])) (.int (c2 / 4 % 3)) = ret (.str z) from ez), post_r e2, x_modI (by decide), post_ret]
  have b0 := Int.emod_nonneg c2 (b := 4) (by decide)
  have b1 := Int.emod_lt_of_pos c2 (b := 4) (by decide)
  obtain ⟨j, hj⟩ : ∃ j : Nat, c2 % 4 = j := ⟨(c2 % 4).toNat, by omega⟩
  rw [hj, post_eq (setO_at (i := 0) (n := j) rfl (ixN_nat (by simp [dats, sts]; omega)))]
  have hzg : good z := by
    simp only [List.mem_cons, List.not_mem_nil, or_false] at hz
    rcases hz with rfl | rfl | rfl
    · exact ⟨by decide, by decide⟩
    · exact ⟨by decide, by decide⟩
    · exact (hs 0 (by decide)).1
  obtain ⟨sg, hsge, hsgg, hsg0⟩ : ∃ sg : List Str, (dats (sts [sx 0, sx 1, sx 2, sx 3])).set j (T.str z) = dats (sts sg) ∧ (∀ x ∈ sg, good x) ∧ sg ≠ [] := by
    refine ⟨[sx 0, sx 1, sx 2, sx 3].set j z, by simp only [dats, sts, List.map_set], fun x hx => ?_, by simp⟩
    rcases List.mem_or_eq_of_mem_set hx with hx | rfl
    · exact hsg x hx
    · exact hzg
  rw [show ([M.lst (dats (sts [sx 0, sx 1, sx 2, sx 3]))].set 0 (M.lst ((dats (sts [sx 0, sx 1, sx 2, sx 3])).set j (T.str z)))) = [M.lst (dats (sts sg))] by rw [hsge]; rfl]
  rw [x_rg1 (by decide), post_ret]
  have hfz : frz (.own 0) [M.lst (dats (sts sg))] = .ok (.dat (.lst (sts sg))) [.frz (.lst (sts sg))] := frz_at rfl
  refine post_forL (fun _ _ μ => frz (.own 0) μ = .ok (.dat (.lst (sts sg))) [.frz (.lst (sts sg))]) hfz ?_ ?_
  · rintro i t ⟨⟩ μ ht hμ
    obtain ⟨hi3, rfl⟩ := rgD_get ht
    have hi3 : i < 3 := hi3
    obtain ⟨v, v0, v1, ev⟩ := mixed_ok hns hb 19 (k := 3 + (i : Int)) (by omega)
    obtain ⟨y, hy, ey⟩ : ∃ y : Int, (0 ≤ y ∧ y < 10) ∧ opIx (T.dat (.lst [.int 5, .int 6, .int 7])) (.int (i : Nat)) = ret (.int y) := by
      rcases (show i = 0 ∨ i = 1 ∨ i = 2 by omega) with rfl | rfl | rfl
      · exact ⟨5, by decide, rfl⟩
      · exact ⟨6, by decide, rfl⟩
      · exact ⟨7, by decide, rfl⟩
    have d0 := Int.emod_nonneg (c2 / 12) (b := 2) (by decide)
    have d1 := Int.emod_lt_of_pos (c2 / 12) (b := 2) (by decide)
    obtain ⟨p, hp, ep⟩ := part_ok hnm0 hsg0 hsgg 15 3 (by decide) (v / 9 * 9 + y + c2 / 12 % 2) ⟨by omega, by omega⟩
    have ep : cal 20 i_law_part [.int (v / 9 * 9 + y + c2 / 12 % 2), .int 3, .dat (.lst (sts nm)), .dat (.lst (sts sg))] = ret (.dat p.e) := ep
    have eb : cal 20 i_law_built [.dat p.e] = ret (.dat p.o) := built_ok 3 p hp 15
    have ek : cal 20 i_law_back [.dat p.o] = ret (.dat p.e) := back_ok 16 3 p hp
    have eso : cal 20 i_law_is_so [.dat p.o, .dat p.e] = ret (.bl true) := so_ok (N := (· ∈ nm)) hng 12 hp
    have okp : EN.okT 8 p.e := okE hng 3 p hp
    have hm1 : Builtin.Int.intBits (v / 9) + Builtin.Int.intBits 9 ≤ 134217728 := by
      have h1 : Builtin.Int.intBits (v / 9) ≤ 64 := bits_of (by omega)
      have h2 : Builtin.Int.intBits 9 ≤ 64 := bits_of (by decide)
      omega
    simp only [post_bnd, post_ret, Int.zero_add]
    rw [x_addI, post_ret, post_r (show cal 20 i_law_mixed [S ns, .int (3 + (i : Int))] = ret (.int v) from ev), x_divI (by decide) (by decide), post_ret, x_mulI hm1, post_ret, x_lst3, post_ret, post_r ey, x_addI, post_ret, post_r e2, x_divI (by decide) (by decide), post_ret, x_modI (by decide), post_ret, x_addI, post_ret, post_eq hμ, post_r ep, post_r eb, x_rg1 (by decide), post_ret]
    refine post_forL (fun _ _ μ => μ = [.frz (.lst (sts sg))]) rfl ?_ ?_
    · rintro i2 t2 ⟨⟩ μ2 ht2 rfl
      rw [ek]
      simp only [b_ret]
      rw [ne_self okp (by decide), x_tst, x_orB, if_neg Bool.false_ne_true, eso, x_tst, x_notB, x_iff]
      simp only [Bool.not_true, Bool.false_eq_true, if_false, post_ret]
    · rintro ⟨⟩ μ2 rfl
      simp only [castE, onL, post_ret]
      rfl
  · rintro ⟨⟩ μ _
    simp only [onR, post_bnd]
    have ga : good "a" := ⟨by decide, by decide⟩
    have hr : mkD (cal 20) i_Row_init "Row" [.non] = ret (.dat (P.o (.row []))) := mk_row0 19
    have hsn : mkD (cal 20) i_Sign_init "Sign" [.str "a"] = ret (.dat (P.o (.sign "a"))) := mk_sign 19 _
    have hm0 : mkD (cal 20) i_Many_init "Many" ([T.dat (P.o (.sign "a"))] ++ dats [D.int 0]) = ret (.dat (P.o (.many (.sign "a") 0))) := mk_many 19 _ _
    have hm1 : mkD (cal 20) i_Many_init "Many" [T.dat (P.o (.sign "a")), .int 1] = ret (.dat (P.o (.many (.sign "a") 1))) := mk_many 19 _ _
    have t0 : cal 20 (mt (.row [])) [.dat (P.o (.row []))] = ret (.str "()") := by
      funext μ
      have := text_ok 0 (by decide) (.row []) rfl 19 μ
      rw [txt_r0] at this
      exact this
    have t1 : cal 20 (mt (.many (.sign "a") 0)) [.dat (P.o (.many (.sign "a") 0))] = ret (.str "{'a'}") := by
      funext μ
      have := text_ok 1 (by decide) (.many (.sign "a") 0) ⟨by decide, ga⟩ 17 μ
      rw [txt_m0] at this
      exact this
    have t2 : cal 20 (mt (.many (.sign "a") 1)) [.dat (P.o (.many (.sign "a") 1))] = ret (.str "{'a'}+") := by
      funext μ
      have := text_ok 1 (by decide) (.many (.sign "a") 1) ⟨by decide, ga⟩ 17 μ
      rw [txt_m1] at this
      exact this
    have okn : EN.okT 1 (.lst []) := fun x hx => nomatch hx
    have q1 : (bnd (bnd (opIx (.dat (.lst [P.o (.row []), P.o (.many (.sign "a") 0)])) (.int 0)) (opFld tb "parts")) fun u39 => bnd (mkLst []) fun u40 => opNe u39 u40) = ret (.bl false) := by
      rw [x_ixL0, bnd_ret, F_parts, bnd_ret, x_lst0, bnd_ret]
      exact ne_self okn (by decide)
    have q2 : (bnd (bnd (opIx (.dat (.lst [P.o (.row []), P.o (.many (.sign "a") 0)])) (.int 1)) (opFld tb "least")) fun u41 => bnd (ret (.int 0)) fun u42 => opNe u41 u42) = ret (.bl false) := by
      rw [x_ixL1, bnd_ret, F_least, bnd_ret, bnd_ret, x_neI]
      rfl
    have q3 : (bnd (bnd (opIx (.dat (.lst [P.o (.row []), P.o (.many (.sign "a") 0)])) (.int 0)) fun u44 => bnd (opM tb "text" u44) fun i43 => cal 20 i43 [u44]) fun u45 => bnd (ret (.str "()")) fun u46 => opNe u45 u46) = ret (.bl false) := by
      rw [x_ixL0, bnd_ret, M_text, bnd_ret, t0, bnd_ret, bnd_ret, x_neS]
      rfl
    have q4 : (bnd (bnd (opIx (.dat (.lst [P.o (.row []), P.o (.many (.sign "a") 0)])) (.int 1)) fun u44 => bnd (opM tb "text" u44) fun i43 => cal 20 i43 [u44]) fun u49 => bnd (ret (.str "{'a'}")) fun u50 => opNe u49 u50) = ret (.bl false) := by
      rw [x_ixL1, bnd_ret, M_text, bnd_ret, t1, bnd_ret, bnd_ret, x_neS]
      rfl
    rw [post_r hr, post_r hsn, post_ret, post_ret, post_r hm0, post_ret, post_ret, post_ret, x_lst2, post_ret, q1, q2, q3, q4]
    simp only [x_tst, x_orB, Bool.false_eq_true, if_false, x_iff]
    rw [hsn]
    simp only [b_ret]
    rw [hm1]
    simp only [b_ret]
    rw [M_text]
    simp only [b_ret]
    rw [t2]
    simp only [b_ret]
    rw [x_eqS, x_andV, decide_eq_true rfl, if_pos rfl, x_ixL0]
    simp only [b_ret]
    rw [M_inner]
    simp only [b_ret, post_bnd]
    rw [post_eq (mi_own 19 (.row []) μ), post_eq frz_new, x_lst0, post_ret]
    have eqn : ∀ μ, opEq (.dat (.lst (List.map P.o (P.inner (.row []))))) (.dat (.lst [])) μ = .ok (.bl true) μ := fun μ => by
      simp only [opEq, seeD_dat]
      rw [show eqD (.lst (List.map P.o (P.inner (.row [])))) (.lst []) = some true from eqD_refl okn (by decide)]
    rw [post_eq (eqn _)]


theorem the_end {P : Program} {w : World} {mg : Str → Option Value} {K : PySem.W.Frag} (c : SaysB ex fn K) :
    ∃ (fd : FuncData) (sp : Sp), (∀ (s : Shared) (u : Value), BindsTo s fd ⟨[u], []⟩ [("_law_script", u)]) ∧
      (∀ (H : Hp) (a : Addr) (ns : List Int), ns.length ≤ 63 → (∀ z ∈ ns, Builtin.Int.intBits z ≤ 1048576) → Only H → SqL K H a (ns.map V.int) → sp [.ref a] H (fun v _ => v = .bl true) fun _ _ _ => False) ∧
      ∀ base : Heap, K.In base → base.Ns mainGlobals mg → FnOk P w K mg base L2.CX0 (41 + 1) (He.fAd K d_law.at_) fd ["_law_script"] sp :=
  law_endB (G0 := fun b => ⟨P, w, K, mg, b⟩) (N := N_law) (fun _ => rfl) rfl rfl (c.def_ 61 rfl) sc_law (fun _ _ _ _ _ _ us hl => match us, hl with | [_], _ => rfl) fun base kin hn ns hns hb => by
    have E := env_of (G := ⟨P, w, K, mg, base⟩) kin hn c
    have Tk := tabOk (G := ⟨P, w, K, mg, base⟩) kin hn c
    obtain ⟨μ', h⟩ := the_law ns hns hb
    exact ⟨μ', b_law (n := 40) E Tk (orc E Tk 20) _ _ _ _ h⟩
end LK02
namespace LK02
open PySem PySem.Spec PyProof.Rows L2 EN
abbrev R : PySem.W.OpenRow := PySem.W.OpenLaw.row PySem.Challenge.rw_readsmith_k02_parts_told
abbrev hk : PySem.W.Hook := hookB 4 ex fn
def ob (s : PySem.W.SharedT) : Bool × List He.FnW := obsBG 4 ex fn (HandSHeadRun.getT s)
theorem ob_eq (s : PySem.W.SharedT) : ob s = hk.obs s.abs := obsBG_eq (HandSHeadRun.getT_eq s)
def loose : List Str := ["_wall", "CLASSES", "Part", "Sign", "Name", "Row", "Pick", "Maybe", "Many", "_law_of", "_law_mixed", "_law_turned", "_law_word", "_law_sign", "_law_part", "_law_inner", "_law_walk", "_law_text", "_law_built", "_law_back", "_law_deep", "_law_is_so"]
set_option maxHeartbeats 0 in
theorem run (w : World) : HandSHeadRun.RunEq R (PySem.W.view R.prog [24]) hk ob 5000 loose w := by
  intro os
  kernel_rfl
end LK02
open PySem PySem.W PySem.Calls PyProof.Rows L2 EN
set_option maxRecDepth 100000 in
set_option maxHeartbeats 0 in
theorem PySem.Challenge.cw_readsmith_k02_parts_told_holds : PySem.Challenge.rw_readsmith_k02_parts_told.Holds := by
  w_on; o_law
  refine HandSHeadRun.head_any (r := OpenLaw.row PySem.Challenge.rw_readsmith_k02_parts_told) (q := view (OpenLaw.row PySem.Challenge.rw_readsmith_k02_parts_told).prog [24]) (H := LK02.hk) (ob := LK02.ob) (M := 5000) (loose := LK02.loose) (d := HandSHeadRun.topDef (OpenLaw.row PySem.Challenge.rw_readsmith_k02_parts_told).prog 24) (kwd := []) LK02.ob_eq
    (by kernel_rfl) (fun s => by kernel_rfl) LK02.run (by kernel_rfl) (by kernel_rfl) (by kernel_rfl) (by rfl) (by first | assumption | decide +kernel) (by decide +kernel) ⟨rfl, rfl, rfl, rfl, rfl, by decide +kernel⟩ ?hw ?hc
  case hw => w_witness2
  case hc =>
    refine EN.walk_ofEB (l := PySem.Challenge.rw_readsmith_k02_parts_told) (n := 63) (k := 42) (x := "_law_script") (CX := L2.CX0) rfl (by decide) (by kernel_rfl) ⟨rfl, by decide, by decide⟩ ?F (fun _ _ _ _ z => z)
    intro w mg fa h Y G hmg0
    obtain ⟨K, KX, c⟩ := Y
    have hmg : mg ("law" : PySem.Str) = some (.ref fa) := by
      have e : (HandSHeadRun.topDef (OpenLaw.row PySem.Challenge.rw_readsmith_k02_parts_told).prog 24).name = ("law" : PySem.Str) := by kernel_rfl
      rw [← e]
      exact hmg0
    have e := hmg.symm.trans (He.glo_ok (x := "law") KX G (List.all_eq_true.mp (Bool.and_eq_true_iff.mp c.all.1).1 (.glo "law") (List.mem_of_getElem? (i := 22) rfl)))
    cases e
    obtain ⟨fd, sp, h1, h2, h3⟩ := LK02.the_end (P := PySem.Challenge.pw_readsmith_k02_parts_told) (w := w) (mg := mg) c
    exact ⟨K, fd, sp, KX, h1, h2, h3⟩
