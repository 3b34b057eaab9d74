import PyProof.Rows.All
import Wide.All
import OpenK.AllK
import Wide.FinOn
import HandS.ForMost
import HandS.ForExc
import HandS.TupSets
import HandS.Deep
import HandS.IsInst
import HandS.TupAny
import HandS.Zip
import HandS.Conv
import HandS.Walk
import HandS.Wide
import HandS.Flow
import HandS.Style
import HandS.SortRule
import KE.GoesEnum
import HandS.SetFor
import PyProof.WalksMore
import HandS.TupLen
import PyProof.Rows.SumGenD
import PySem.Challenge.RW_paidbyheirs_k09_whole_waits_done_at_once
set_option Elab.async false
set_option linter.all false
set_option maxRecDepth 100000
set_option maxHeartbeats 8000000
/-! D1: values as pure data; mutable objects as registers -/
namespace DL
open PySem PySem.Spec PyProof.Rows L2

inductive Dt where
  | non | bl (b : Bool) | int (i : Int) | str (x : Str) | ty (n : String) | tup (ds : List Dt) | lst (ds : List Dt) | reg (j : Nat)

mutual
/-- av: addresses that a plain list must not stand at; rg: the registers' addresses -/
inductive Dv (H : Hp) (av rg : List Addr) : V → Dt → Prop
  | non : Dv H av rg .non .non
  | bl (b : Bool) : Dv H av rg (.bl b) (.bl b)
  | int (i : Int) : Dv H av rg (.int i) (.int i)
  | str (x : Str) : Dv H av rg (.str x) (.str x)
  | ty (n : String) : Dv H av rg (.ty n) (.ty n)
  | tup {a : Addr} {xs : List V} {ds : List Dt} : H a = some (.tup xs) → DvL H av rg xs ds → Dv H av rg (.ref a) (.tup ds)
  | lst {a : Addr} {xs : List V} {ds : List Dt} : H a = some (.lst xs) → a ∉ av → DvL H av rg xs ds → Dv H av rg (.ref a) (.lst ds)
  | reg {a : Addr} {j : Nat} : rg[j]? = some a → Dv H av rg (.ref a) (.reg j)
inductive DvL (H : Hp) (av rg : List Addr) : List V → List Dt → Prop
  | nil : DvL H av rg [] []
  | cons {v : V} {vs : List V} {d : Dt} {ds : List Dt} : Dv H av rg v d → DvL H av rg vs ds → DvL H av rg (v :: vs) (d :: ds)
end

section
variable {H H' : Hp} {av av' rg rg' : List Addr}
theorem DvL.length : ∀ {vs : List V} {ds : List Dt}, DvL H av rg vs ds → vs.length = ds.length
  | _, _, .nil => rfl
  | _, _, .cons _ t => by rw [List.length_cons, List.length_cons, t.length]
theorem DvL.get : ∀ {vs : List V} {ds : List Dt} {i : Nat} {d : Dt}, DvL H av rg vs ds → ds[i]? = some d → ∃ v, vs[i]? = some v ∧ Dv H av rg v d
  | _, _, _, _, .nil, e => by simp at e
  | _, _, 0, _, .cons h _, e => ⟨_, rfl, by simp at e; subst e; exact h⟩
  | _, _, i + 1, _, .cons _ t, e => by
    obtain ⟨v, e1, h⟩ := t.get (i := i) (by simpa using e)
    exact ⟨v, by simpa using e1, h⟩
theorem DvL.getV : ∀ {vs : List V} {ds : List Dt} {i : Nat} {v : V}, DvL H av rg vs ds → vs[i]? = some v → ∃ d, ds[i]? = some d ∧ Dv H av rg v d
  | _, _, _, _, .nil, e => by simp at e
  | _, _, 0, _, .cons h _, e => ⟨_, rfl, by simp at e; subst e; exact h⟩
  | _, _, i + 1, _, .cons _ t, e => by
    obtain ⟨d, e1, h⟩ := t.getV (i := i) (by simpa using e)
    exact ⟨d, by simpa using e1, h⟩
theorem DvL.append : ∀ {vs ws : List V} {ds es : List Dt}, DvL H av rg vs ds → DvL H av rg ws es → DvL H av rg (vs ++ ws) (ds ++ es)
  | _, _, _, _, .nil, k => k
  | _, _, _, _, .cons h t, k => .cons h (t.append k)
theorem DvL.take : ∀ {vs : List V} {ds : List Dt} (n : Nat), DvL H av rg vs ds → DvL H av rg (vs.take n) (ds.take n)
  | _, _, 0, _ => by rw [List.take_zero, List.take_zero]; exact .nil
  | _, _, n + 1, .nil => .nil
  | _, _, n + 1, .cons h t => .cons h (t.take n)
theorem DvL.drop : ∀ {vs : List V} {ds : List Dt} (n : Nat), DvL H av rg vs ds → DvL H av rg (vs.drop n) (ds.drop n)
  | _, _, 0, k => k
  | _, _, n + 1, .nil => .nil
  | _, _, n + 1, .cons h t => t.drop n
theorem DvL.set {v : V} {d : Dt} (h : Dv H av rg v d) : ∀ {vs : List V} {ds : List Dt} (n : Nat), DvL H av rg vs ds → DvL H av rg (vs.set n v) (ds.set n d)
  | _, _, _, .nil => .nil
  | _, _, 0, .cons _ t => .cons h t
  | _, _, n + 1, .cons q t => .cons q (DvL.set h n t)
theorem DvL.eraseIdx : ∀ {vs : List V} {ds : List Dt} (n : Nat), DvL H av rg vs ds → DvL H av rg (vs.eraseIdx n) (ds.eraseIdx n)
  | _, _, _, .nil => .nil
  | _, _, 0, .cons _ t => t
  | _, _, n + 1, .cons q t => .cons q (t.eraseIdx n)
theorem DvL.reverse : ∀ {vs : List V} {ds : List Dt}, DvL H av rg vs ds → DvL H av rg vs.reverse ds.reverse
  | _, _, .nil => .nil
  | _, _, .cons h t => by
    rw [List.reverse_cons, List.reverse_cons]
    exact t.reverse.append (.cons h .nil)

mutual
/-- what is kept: the tuples, the plain lists, the registers' places -/
theorem Dv.mono (ht : ∀ a xs, H a = some (.tup xs) → H' a = some (.tup xs)) (hl : ∀ a xs, H a = some (.lst xs) → a ∉ av → H' a = some (.lst xs) ∧ a ∉ av')
    (hr : ∀ (j : Nat) (a : Addr), rg[j]? = some a → rg'[j]? = some a) : ∀ {v : V} {d : Dt}, Dv H av rg v d → Dv H' av' rg' v d
  | _, _, .non => .non
  | _, _, .bl b => .bl b
  | _, _, .int i => .int i
  | _, _, .str x => .str x
  | _, _, .ty n => .ty n
  | _, _, .tup e k => .tup (ht _ _ e) (DvL.mono ht hl hr k)
  | _, _, .lst e n k => .lst (hl _ _ e n).1 (hl _ _ e n).2 (DvL.mono ht hl hr k)
  | _, _, .reg e => .reg (hr _ _ e)
theorem DvL.mono (ht : ∀ a xs, H a = some (.tup xs) → H' a = some (.tup xs)) (hl : ∀ a xs, H a = some (.lst xs) → a ∉ av → H' a = some (.lst xs) ∧ a ∉ av')
    (hr : ∀ (j : Nat) (a : Addr), rg[j]? = some a → rg'[j]? = some a) : ∀ {vs : List V} {ds : List Dt}, DvL H av rg vs ds → DvL H' av' rg' vs ds
  | _, _, .nil => .nil
  | _, _, .cons h t => .cons (Dv.mono ht hl hr h) (DvL.mono ht hl hr t)
end
end

/-- what stands in a register -/
inductive MO where
  | lst (ds : List Dt) | dct (kvs : List (List Key × Dt)) | frz (kvs : List (List Key × Dt))

/-- a dict's pairs -/
inductive KvL (H : Hp) (av : List Addr) : List (List Key × V) → List (List Key × Dt) → Prop
  | nil : KvL H av [] []
  | cons {k : List Key} {v : V} {d : Dt} {ws : List (List Key × V)} {kvs : List (List Key × Dt)} : Dv H av [] v d → KvL H av ws kvs → KvL H av ((k, v) :: ws) ((k, d) :: kvs)

def MOk (H : Hp) (av : List Addr) (a : Addr) : MO → Prop
  | .lst ds => ∃ xs, H a = some (.lst xs) ∧ DvL H av [] xs ds
  | .dct kvs => ∃ ws, H a = some (.dT ws) ∧ KvL H av ws kvs
  | .frz kvs => ∃ o ws, H a = some (.frz o (.dT ws)) ∧ KvL H av ws kvs

structure RM (H : Hp) (α : List Addr) (μ : List MO) : Prop where
  nd : α.Nodup
  len : α.length = μ.length
  ok : ∀ (j : Nat) (a : Addr) (m : MO), α[j]? = some a → μ[j]? = some m → MOk H α a m

/-- from a heap and its registers to later ones -/
structure Nx (α : List Addr) (H : Hp) (α' : List Addr) (H' : Hp) : Prop where
  keep : ∀ a o, a ∉ α → H a = some o → H' a = some o
  there : ∀ a o, H a = some o → ∃ o', H' a = some o'
  ext : ∃ αn, α' = α ++ αn ∧ ∀ b ∈ αn, H b = none

section
variable {H H1 H2 H' : Hp} {α α1 α2 α' : List Addr} {μ μ' : List MO}
theorem RM.mu (R : RM H α μ) {a : Addr} (h : a ∈ α) : (∃ xs, H a = some (.lst xs)) ∨ (∃ ws, H a = some (.dT ws)) ∨ ∃ o ws, H a = some (.frz o (.dT ws)) := by
  obtain ⟨j, hj⟩ := List.getElem?_of_mem h
  have hl : j < μ.length := by rw [← R.len]; exact (List.getElem?_eq_some_iff.mp hj).1
  have := R.ok j a _ hj (List.getElem?_eq_getElem hl)
  cases e : μ[j] with
  | lst ds => rw [e] at this; obtain ⟨xs, q, _⟩ := this; exact .inl ⟨xs, q⟩
  | dct kvs => rw [e] at this; obtain ⟨ws, q, _⟩ := this; exact .inr (.inl ⟨ws, q⟩)
  | frz kvs => rw [e] at this; obtain ⟨o, ws, q, _⟩ := this; exact .inr (.inr ⟨o, ws, q⟩)
theorem RM.ex (R : RM H α μ) {a : Addr} (h : a ∈ α) : ∃ o, H a = some o := by
  rcases R.mu h with ⟨_, e⟩ | ⟨_, e⟩ | ⟨_, _, e⟩ <;> exact ⟨_, e⟩
theorem RM.noTup (R : RM H α μ) {a : Addr} {xs : List V} (h : H a = some (.tup xs)) : a ∉ α := fun m => by
  rcases R.mu m with ⟨_, e⟩ | ⟨_, e⟩ | ⟨_, _, e⟩ <;> (rw [h] at e; cases e)
theorem Nx.refl : Nx α H α H := ⟨fun _ _ _ e => e, fun _ o e => ⟨o, e⟩, [], by simp, by simp⟩
theorem Nx.sub (n : Nx α H α' H') {a : Addr} (h : a ∈ α) : a ∈ α' := by
  obtain ⟨αn, e, _⟩ := n.ext
  rw [e]; exact List.mem_append_left _ h
theorem Nx.out (n : Nx α H α' H') {a : Addr} {o : HO} (e : H a = some o) (h : a ∉ α) : a ∉ α' := by
  obtain ⟨αn, e', f⟩ := n.ext
  rw [e', List.mem_append]
  rintro (z | z)
  · exact h z
  · rw [f a z] at e; cases e
theorem Nx.get (n : Nx α H α' H') {j : Nat} {a : Addr} (h : α[j]? = some a) : α'[j]? = some a := by
  obtain ⟨αn, e, _⟩ := n.ext
  rw [e, List.getElem?_append_left (List.getElem?_eq_some_iff.mp h).1]; exact h
theorem Nx.trans (n : Nx α H α1 H1) (m : Nx α1 H1 α2 H2) : Nx α H α2 H2 where
  keep := fun a o h e => m.keep a o (n.out e h) (n.keep a o h e)
  there := fun a o e => let ⟨o', e'⟩ := n.there a o e; m.there a o' e'
  ext := by
    obtain ⟨a1, e1, f1⟩ := n.ext
    obtain ⟨a2, e2, f2⟩ := m.ext
    refine ⟨a1 ++ a2, by rw [e2, e1, List.append_assoc], fun b hb => ?_⟩
    rcases List.mem_append.mp hb with z | z
    · exact f1 b z
    · cases q : H b with
      | none => rfl
      | some o => obtain ⟨o', e'⟩ := n.there b o q; rw [f2 b z] at e'; cases e'
theorem Nx.tups (n : Nx α H α' H') (R : RM H α μ) : ∀ a xs, H a = some (.tup xs) → H' a = some (.tup xs) := fun a xs e => n.keep a _ (R.noTup e) e
/-- plain data stays, whatever is avoided -/
theorem Nx.dv (n : Nx α H α' H') (R : RM H α μ) {v : V} {d : Dt} (h : Dv H α α v d) : Dv H' α' α' v d :=
  h.mono (n.tups R) (fun a xs e z => ⟨n.keep a _ z e, n.out e z⟩) (fun _ _ e => n.get e)
theorem Nx.dvL (n : Nx α H α' H') (R : RM H α μ) {v : List V} {d : List Dt} (h : DvL H α α v d) : DvL H' α' α' v d :=
  h.mono (n.tups R) (fun a xs e z => ⟨n.keep a _ z e, n.out e z⟩) (fun _ _ e => n.get e)
theorem Nx.dv0 (n : Nx α H α' H') (R : RM H α μ) {v : V} {d : Dt} (h : Dv H α [] v d) : Dv H' α' [] v d :=
  h.mono (n.tups R) (fun a xs e z => ⟨n.keep a _ z e, n.out e z⟩) (fun _ _ e => e)
theorem Nx.dvL0 (n : Nx α H α' H') (R : RM H α μ) {v : List V} {d : List Dt} (h : DvL H α [] v d) : DvL H' α' [] v d :=
  h.mono (n.tups R) (fun a xs e z => ⟨n.keep a _ z e, n.out e z⟩) (fun _ _ e => e)
theorem KvL.mono {av av' : List Addr} (f : ∀ v d, Dv H av [] v d → Dv H' av' [] v d) : ∀ {ws : List (List Key × V)} {kvs : List (List Key × Dt)}, KvL H av ws kvs → KvL H' av' ws kvs
  | _, _, .nil => .nil
  | _, _, .cons h t => .cons (f _ _ h) (t.mono f)

/-- registers as they are, a new object laid beside them -/
theorem RM.keep (R : RM H α μ) (n : Nx α H α H') (k : ∀ a ∈ α, H' a = H a) : RM H' α μ where
  nd := R.nd
  len := R.len
  ok := fun j a m h e => by
    have q := R.ok j a m h e
    have ha : a ∈ α := List.mem_of_getElem? h
    cases m with
    | lst ds => obtain ⟨xs, e1, d⟩ := q; exact ⟨xs, (k a ha).trans e1, n.dvL0 R d⟩
    | dct kvs => obtain ⟨ws, e1, d⟩ := q; exact ⟨ws, (k a ha).trans e1, d.mono fun _ _ => n.dv0 R⟩
    | frz kvs => obtain ⟨o, ws, e1, d⟩ := q; exact ⟨o, ws, (k a ha).trans e1, d.mono fun _ _ => n.dv0 R⟩
theorem Nx.new {p : Addr} {o : HO} (hp : H p = none) : Nx α H α (upd H p o) :=
  ⟨fun a u _ e => by rw [upd_ne (ne_of_none e hp)]; exact e, fun a u e => ⟨u, by rw [upd_ne (ne_of_none e hp)]; exact e⟩, [], by simp, by simp⟩
theorem RM.new {p : Addr} {o : HO} (R : RM H α μ) (hp : H p = none) : RM (upd H p o) α μ :=
  R.keep (Nx.new hp) fun a ha => by obtain ⟨u, e⟩ := R.ex ha; rw [upd_ne (ne_of_none e hp)]
theorem RM.fresh {p : Addr} (R : RM H α μ) (hp : H p = none) : p ∉ α := fun h => by obtain ⟨u, e⟩ := R.ex h; rw [hp] at e; cases e
/-- a new register -/
theorem Nx.reg {p : Addr} {o : HO} (hp : H p = none) : Nx α H (α ++ [p]) (upd H p o) :=
  ⟨fun a u _ e => by rw [upd_ne (ne_of_none e hp)]; exact e, fun a u e => ⟨u, by rw [upd_ne (ne_of_none e hp)]; exact e⟩, [p], rfl, fun b hb => by rw [List.mem_singleton.mp hb]; exact hp⟩
theorem RM.reg {p : Addr} {o : HO} {m : MO} (R : RM H α μ) (hp : H p = none) (hm : MOk (upd H p o) (α ++ [p]) p m) : RM (upd H p o) (α ++ [p]) (μ ++ [m]) where
  nd := List.nodup_append.mpr ⟨R.nd, by simp, fun a ha b hb => by rw [List.mem_singleton.mp hb]; exact fun z => R.fresh hp (z ▸ ha)⟩
  len := by rw [List.length_append, List.length_append, R.len]; rfl
  ok := fun j a m' h e => by
    by_cases hj : j < α.length
    · rw [List.getElem?_append_left hj] at h
      rw [List.getElem?_append_left (by rw [← R.len]; exact hj)] at e
      have n : Nx α H (α ++ [p]) (upd H p o) := Nx.reg hp
      have q := R.ok j a m' h e
      have ha : a ∈ α := List.mem_of_getElem? h
      have hne : a ≠ p := fun z => R.fresh hp (z ▸ ha)
      cases m' with
      | lst ds => obtain ⟨xs, e1, d⟩ := q; exact ⟨xs, (upd_ne hne).trans e1, n.dvL0 R d⟩
      | dct kvs => obtain ⟨ws, e1, d⟩ := q; exact ⟨ws, (upd_ne hne).trans e1, d.mono fun _ _ => n.dv0 R⟩
      | frz kvs => obtain ⟨u, ws, e1, d⟩ := q; exact ⟨u, ws, (upd_ne hne).trans e1, d.mono fun _ _ => n.dv0 R⟩
    · rw [List.getElem?_append_right (by omega)] at h
      rw [List.getElem?_append_right (by rw [← R.len]; omega)] at e
      rw [← R.len] at e
      have hz : j - α.length = 0 := by
        have := (List.getElem?_eq_some_iff.mp h).1
        simp at this; omega
      rw [hz] at h e
      simp at h e
      subst h e
      exact hm
/-- a register's object changes -/
theorem Nx.put {p : Addr} {o : HO} (h : p ∈ α) : Nx α H α (upd H p o) :=
  ⟨fun a u n e => by rw [upd_ne (fun z => n (by rw [z]; exact h))]; exact e, fun a u e => by
    by_cases z : a = p
    · rw [z]; exact ⟨o, upd_same⟩
    · exact ⟨u, by rw [upd_ne z]; exact e⟩, [], by simp, by simp⟩
theorem RM.put {p : Addr} {j : Nat} {o : HO} {m : MO} (R : RM H α μ) (hp : α[j]? = some p) (hm : MOk (upd H p o) α p m) : RM (upd H p o) α (μ.set j m) where
  nd := R.nd
  len := by rw [List.length_set]; exact R.len
  ok := fun i a m' h e => by
    have n : Nx α H α (upd H p o) := Nx.put (List.mem_of_getElem? hp)
    have hjl : j < μ.length := by rw [← R.len]; exact (List.getElem?_eq_some_iff.mp hp).1
    by_cases hi : i = j
    · subst hi
      rw [hp] at h; cases h
      rw [List.getElem?_set_self hjl] at e; cases e
      exact hm
    · rw [List.getElem?_set_ne (Ne.symm hi)] at e
      have q := R.ok i a m' h e
      have hne : a ≠ p := fun z => hi (by
        obtain ⟨h1, e1⟩ := List.getElem?_eq_some_iff.mp h
        obtain ⟨h2, e2⟩ := List.getElem?_eq_some_iff.mp hp
        exact (List.getElem_inj R.nd).mp (e1.trans (z.trans e2.symm)))
      cases m' with
      | lst ds => obtain ⟨xs, e1, d⟩ := q; exact ⟨xs, (upd_ne hne).trans e1, n.dvL0 R d⟩
      | dct kvs => obtain ⟨ws, e1, d⟩ := q; exact ⟨ws, (upd_ne hne).trans e1, d.mono fun _ _ => n.dv0 R⟩
      | frz kvs => obtain ⟨u, ws, e1, d⟩ := q; exact ⟨u, ws, (upd_ne hne).trans e1, d.mono fun _ _ => n.dv0 R⟩
/-- the last registers are forgotten -/
theorem Dv.cut {n : Nat} {v : V} {d : Dt} (h : Dv H α [] v d) : Dv H (α.take n) [] v d := h.mono (fun _ _ e => e) (fun a xs e z => ⟨e, fun y => z (List.mem_of_mem_take y)⟩) (fun _ _ e => e)
theorem DvL.cut {n : Nat} {v : List V} {d : List Dt} (h : DvL H α [] v d) : DvL H (α.take n) [] v d := h.mono (fun _ _ e => e) (fun a xs e z => ⟨e, fun y => z (List.mem_of_mem_take y)⟩) (fun _ _ e => e)
theorem RM.cut (R : RM H α μ) (n : Nat) : RM H (α.take n) (μ.take n) where
  nd := R.nd.sublist (List.take_sublist n α)
  len := by rw [List.length_take, List.length_take, R.len]
  ok := fun j a m h e => by
    have hn : j < n := by
      have := (List.getElem?_eq_some_iff.mp h).1
      rw [List.length_take] at this; omega
    rw [List.getElem?_take_of_lt hn] at h e
    have q := R.ok j a m h e
    cases m with
    | lst ds => obtain ⟨xs, e1, d⟩ := q; exact ⟨xs, e1, d.cut⟩
    | dct kvs => obtain ⟨ws, e1, d⟩ := q; exact ⟨ws, e1, d.mono fun _ _ h => h.cut⟩
    | frz kvs => obtain ⟨u, ws, e1, d⟩ := q; exact ⟨u, ws, e1, d.mono fun _ _ h => h.cut⟩
theorem Nx.cut (n : Nx α H α' H') {k : Nat} (h : α.length ≤ k) : Nx α H (α'.take k) H' where
  keep := n.keep
  there := n.there
  ext := by
    obtain ⟨αn, e, f⟩ := n.ext
    refine ⟨αn.take (k - α.length), ?_, fun b hb => f b (List.mem_of_mem_take hb)⟩
    rw [e, List.take_append, List.take_of_length_le h]
/-- a plain value holds no register -/
theorem Dv.up {v : V} {d : Dt} {rg : List Addr} (h : Dv H α [] v d) : Dv H α rg v d := h.mono (fun _ _ e => e) (fun _ _ e z => ⟨e, z⟩) (fun _ _ e => by cases e)
theorem DvL.up {v : List V} {d : List Dt} {rg : List Addr} (h : DvL H α [] v d) : DvL H α rg v d := h.mono (fun _ _ e => e) (fun _ _ e z => ⟨e, z⟩) (fun _ _ e => by cases e)
end

mutual
/-- no register within -/
inductive Pu : Dt → Prop
  | non : Pu .non
  | bl (b : Bool) : Pu (.bl b)
  | int (i : Int) : Pu (.int i)
  | str (x : Str) : Pu (.str x)
  | ty (n : String) : Pu (.ty n)
  | tup {ds : List Dt} : PuL ds → Pu (.tup ds)
  | lst {ds : List Dt} : PuL ds → Pu (.lst ds)
inductive PuL : List Dt → Prop
  | nil : PuL []
  | cons {d : Dt} {ds : List Dt} : Pu d → PuL ds → PuL (d :: ds)
end
theorem PuL.mem : ∀ {ds : List Dt}, PuL ds → ∀ d ∈ ds, Pu d
  | _, .cons h t, d, m => by
    rcases List.mem_cons.mp m with e | m
    · rw [e]; exact h
    · exact t.mem d m
theorem PuL.of : ∀ {ds : List Dt}, (∀ d ∈ ds, Pu d) → PuL ds
  | [], _ => .nil
  | d :: ds, h => .cons (h d List.mem_cons_self) (PuL.of fun e m => h e (List.mem_cons_of_mem _ m))
theorem PuL.map {α : Type} (f : α → Dt) (h : ∀ x, Pu (f x)) (l : List α) : PuL (l.map f) := PuL.of fun d m => by
  obtain ⟨x, _, e⟩ := List.mem_map.mp m
  rw [← e]; exact h x
theorem PuL.append {ds es : List Dt} (h : PuL ds) (k : PuL es) : PuL (ds ++ es) := PuL.of fun d m => by
  rcases List.mem_append.mp m with z | z
  · exact h.mem d z
  · exact k.mem d z
mutual
theorem Dv.pure {H : Hp} {av rg : List Addr} : ∀ {v : V} {d : Dt}, Dv H av rg v d → Pu d → Dv H av [] v d
  | _, _, .non, _ => .non
  | _, _, .bl b, _ => .bl b
  | _, _, .int i, _ => .int i
  | _, _, .str x, _ => .str x
  | _, _, .ty n, _ => .ty n
  | _, _, .tup e k, .tup p => .tup e (DvL.pure k p)
  | _, _, .lst e n k, .lst p => .lst e n (DvL.pure k p)
theorem DvL.pure {H : Hp} {av rg : List Addr} : ∀ {v : List V} {d : List Dt}, DvL H av rg v d → PuL d → DvL H av [] v d
  | _, _, .nil, _ => .nil
  | _, _, .cons h t, .cons p q => .cons (Dv.pure h p) (DvL.pure t q)
end
end DL
/-! D2: expressions over data -/
namespace DL
open PySem PySem.Spec PyProof.Rows L2

abbrev Sl := List (Option Dt)
structure Rel (H : Hp) (α : List Addr) (σ : L2.St) (δ : Sl) (μ : List MO) : Prop where
  rm : RM H α μ
  sl : σ.length = δ.length
  ss : ∀ (i : Nat) (d : Dt), δ[i]? = some (some d) → ∃ v, σ[i]? = some (some v) ∧ Dv H α α v d

section
variable {H H1 H' : Hp} {α α1 α' : List Addr} {σ : L2.St} {δ : Sl} {μ μ1 μ' : List MO}
theorem Rel.nx (r : Rel H α σ δ μ) (n : Nx α H α' H') (R : RM H' α' μ') : Rel H' α' σ δ μ' :=
  ⟨R, r.sl, fun i d e => let ⟨v, e1, h⟩ := r.ss i d e; ⟨v, e1, n.dv r.rm h⟩⟩
theorem Rel.set (r : Rel H α σ δ μ) (i : Nat) {v : V} {d : Dt} (h : Dv H α α v d) : Rel H α (σ.set i (some v)) (δ.set i (some d)) μ where
  rm := r.rm
  sl := by rw [List.length_set, List.length_set, r.sl]
  ss := fun j e he => by
    by_cases hj : i = j
    · subst hj
      have hl : i < δ.length := by
        have := (List.getElem?_eq_some_iff.mp he).1
        rw [List.length_set] at this; exact this
      rw [List.getElem?_set_self hl] at he
      cases he
      exact ⟨v, List.getElem?_set_self (by rw [r.sl]; exact hl), h⟩
    · rw [List.getElem?_set_ne hj] at he
      obtain ⟨u, e1, k⟩ := r.ss j e he
      exact ⟨u, by rw [List.getElem?_set_ne hj]; exact e1, k⟩
end

/-! ### the judgements -/
abbrev DK := Dt → List MO → Prop
/-- an expression's reading over data -/
def wE (te : TE) (δ : Sl) (μ : List MO) (Φ : DK) : Prop :=
  ∀ (σ : L2.St) (H : Hp) (α : List Addr) (Q : VK), Rel H α σ δ μ → (∀ v H' α' d μ', Nx α H α' H' → RM H' α' μ' → Dv H' α' α' v d → Φ d μ' → Q v H') → te σ H Q
def wT (tt : TT) (δ : Sl) (μ : List MO) (Φ : Bool → List MO → Prop) : Prop :=
  ∀ (σ : L2.St) (H : Hp) (α : List Addr) (Q : Bool → Hp → Prop), Rel H α σ δ μ → (∀ b H' α' μ', Nx α H α' H' → RM H' α' μ' → Φ b μ' → Q b H') → tt σ H Q
def wA (ta : TA) (δ : Sl) (μ : List MO) (Φ : List Dt → List MO → Prop) : Prop :=
  ∀ (σ : L2.St) (H : Hp) (α : List Addr) (Q : List V → Hp → Prop), Rel H α σ δ μ → (∀ vs H' α' ds μ', Nx α H α' H' → RM H' α' μ' → DvL H' α' α' vs ds → Φ ds μ' → Q vs H') → ta σ H Q
/-- an operation on values -/
def wO (r : R2) (x y : Dt) (μ : List MO) (Φ : DK) : Prop :=
  ∀ (H : Hp) (α : List Addr) (v w : V) (Q : VK), RM H α μ → Dv H α α v x → Dv H α α w y → (∀ u H' α' d μ', Nx α H α' H' → RM H' α' μ' → Dv H' α' α' u d → Φ d μ' → Q u H') → r v w H Q
def wU (r : V → Hp → VK → Prop) (x : Dt) (μ : List MO) (Φ : DK) : Prop :=
  ∀ (H : Hp) (α : List Addr) (v : V) (Q : VK), RM H α μ → Dv H α α v x → (∀ u H' α' d μ', Nx α H α' H' → RM H' α' μ' → Dv H' α' α' u d → Φ d μ' → Q u H') → r v H Q
def wC (r : List V → Hp → VK → Prop) (xs : List Dt) (μ : List MO) (Φ : DK) : Prop :=
  ∀ (H : Hp) (α : List Addr) (vs : List V) (Q : VK), RM H α μ → DvL H α α vs xs → (∀ u H' α' d μ', Nx α H α' H' → RM H' α' μ' → Dv H' α' α' u d → Φ d μ' → Q u H') → r vs H Q
def wM (r : V → List V → Hp → VK → Prop) (x : Dt) (xs : List Dt) (μ : List MO) (Φ : DK) : Prop :=
  ∀ (H : Hp) (α : List Addr) (v : V) (vs : List V) (Q : VK), RM H α μ → Dv H α α v x → DvL H α α vs xs → (∀ u H' α' d μ', Nx α H α' H' → RM H' α' μ' → Dv H' α' α' u d → Φ d μ' → Q u H') → r v vs H Q

section
variable {te ta tb tc : TE} {tt tu : TT} {t tr : TA} {δ : Sl} {μ : List MO} {Φ : DK} {r r' : R2} {x y : Dt} {K : PySem.W.Frag}

theorem wE_mono {Ψ : DK} (h : wE te δ μ Ψ) (k : ∀ d μ', Ψ d μ' → Φ d μ') : wE te δ μ Φ := fun σ H α Q R q => h σ H α Q R fun v H' α' d μ' n R' D p => q v H' α' d μ' n R' D (k d μ' p)
theorem wE_var {i : Nat} {d : Dt} (h : δ[i]? = some (some d)) (k : Φ d μ) : wE (tVar i) δ μ Φ := fun σ H α Q R q =>
  let ⟨v, e, D⟩ := R.ss i d h
  ⟨v, e, q v H α d μ .refl R.rm D k⟩
theorem wE_int {i : Int} (k : Φ (.int i) μ) : wE (tC (.int i)) δ μ Φ := fun σ H α Q R q => q _ H α _ μ .refl R.rm (.int i) k
theorem wE_bl {b : Bool} (k : Φ (.bl b) μ) : wE (tC (.bl b)) δ μ Φ := fun σ H α Q R q => q _ H α _ μ .refl R.rm (.bl b) k
theorem wE_str {b : Str} (k : Φ (.str b) μ) : wE (tC (.str b)) δ μ Φ := fun σ H α Q R q => q _ H α _ μ .refl R.rm (.str b) k
theorem wE_ty {b : String} (k : Φ (.ty b) μ) : wE (tC (.ty b)) δ μ Φ := fun σ H α Q R q => q _ H α _ μ .refl R.rm (.ty b) k
theorem wE_non (k : Φ .non μ) : wE (tC .non) δ μ Φ := fun σ H α Q R q => q _ H α _ μ .refl R.rm .non k
theorem wE_op (h : wE ta δ μ fun x μ1 => wE tb δ μ1 fun y μ2 => wO r x y μ2 Φ) : wE (tOp r ta tb) δ μ Φ := fun σ H α Q R q =>
  h σ H α _ R fun v H1 α1 x μ1 n1 R1 D1 h1 => h1 σ H1 α1 _ (R.nx n1 R1) fun w H2 α2 y μ2 n2 R2 D2 h2 =>
    h2 H2 α2 v w Q R2 (n2.dv R1 D1) D2 fun u H3 α3 d μ3 n3 R3 D3 k => q u H3 α3 d μ3 ((n1.trans n2).trans n3) R3 D3 k
theorem wE_un {f : V → Hp → VK → Prop} (h : wE ta δ μ fun x μ1 => wU f x μ1 Φ) : wE (tUn f ta) δ μ Φ := fun σ H α Q R q =>
  h σ H α _ R fun v H1 α1 x μ1 n1 R1 D1 h1 => h1 H1 α1 v Q R1 D1 fun u H3 α3 d μ3 n3 R3 D3 k => q u H3 α3 d μ3 (n1.trans n3) R3 D3 k
theorem wA_nil {Φ : List Dt → List MO → Prop} (k : Φ [] μ) : wA tNil δ μ Φ := fun σ H α Q R q => q [] H α [] μ .refl R.rm .nil k
theorem wA_cons {Φ : List Dt → List MO → Prop} (h : wE te δ μ fun d μ1 => wA t δ μ1 fun ds μ2 => Φ (d :: ds) μ2) : wA (tCons te t) δ μ Φ := fun σ H α Q R q =>
  h σ H α _ R fun v H1 α1 x μ1 n1 R1 D1 h1 => h1 σ H1 α1 _ (R.nx n1 R1) fun vs H2 α2 ds μ2 n2 R2 D2 k => q (v :: vs) H2 α2 (x :: ds) μ2 (n1.trans n2) R2 (.cons (n2.dv R1 D1) D2) k
theorem size_ok {n : Nat} (h : n ≤ 100000) : n ≤ sizeLine := Nat.le_trans h (by decide)
theorem size_lt {n : Nat} (h : n ≤ 100000) : n < sizeLine := Nat.lt_of_le_of_lt h (by decide)
theorem Dv.tup_new {H : Hp} {α : List Addr} {μ : List MO} {p : Addr} {xs : List V} {ds : List Dt} (R : RM H α μ) (hp : H p = none) (D : DvL H α α xs ds) : Dv (upd H p (.tup xs)) α α (.ref p) (.tup ds) :=
  .tup upd_same ((Nx.new hp).dvL R D)
theorem Dv.lst_new {H : Hp} {α : List Addr} {μ : List MO} {p : Addr} {xs : List V} {ds : List Dt} (R : RM H α μ) (hp : H p = none) (D : DvL H α α xs ds) : Dv (upd H p (.lst xs)) α α (.ref p) (.lst ds) :=
  .lst upd_same (R.fresh hp) ((Nx.new hp).dvL R D)
theorem wE_tup (h : wA t δ μ fun ds μ1 => ds.length ≤ 100000 ∧ Φ (.tup ds) μ1) : wE (tTup t) δ μ Φ := fun σ H α Q R q =>
  h σ H α _ R fun vs H1 α1 ds μ1 n1 R1 D1 h1 => ⟨by rw [D1.length]; exact size_ok h1.1, fun p hp => q (.ref p) _ α1 (.tup ds) μ1 (n1.trans (.new hp)) (R1.new hp) (Dv.tup_new R1 hp D1) h1.2⟩
/-- a list display: plain data -/
theorem wE_lst (h : wA t δ μ fun ds μ1 => ds.length ≤ 100000 ∧ Φ (.lst ds) μ1) : wE (tLst t) δ μ Φ := fun σ H α Q R q =>
  h σ H α _ R fun vs H1 α1 ds μ1 n1 R1 D1 h1 => ⟨by rw [D1.length]; exact size_ok h1.1, fun p hp => q (.ref p) _ α1 (.lst ds) μ1 (n1.trans (.new hp)) (R1.new hp) (Dv.lst_new R1 hp D1) h1.2⟩
theorem get_reg {α : List Addr} {p : Addr} : (α ++ [p])[α.length]? = some p := by rw [List.getElem?_append_right (Nat.le_refl _)]; simp
theorem reg_lst {H : Hp} {α : List Addr} {μ : List MO} {p : Addr} {xs : List V} {ds : List Dt} (R : RM H α μ) (hp : H p = none) (D : DvL H α [] xs ds) : RM (upd H p (.lst xs)) (α ++ [p]) (μ ++ [.lst ds]) :=
  R.reg hp ⟨xs, upd_same, (Nx.reg hp).dvL0 R D⟩
/-- a list display: a register -/
theorem wE_reg (h : wA t δ μ fun ds μ1 => ds.length ≤ 100000 ∧ PuL ds ∧ Φ (.reg μ1.length) (μ1 ++ [.lst ds])) : wE (tLst t) δ μ Φ := fun σ H α Q R q =>
  h σ H α _ R fun vs H1 α1 ds μ1 n1 R1 D1 h1 => ⟨by rw [D1.length]; exact size_ok h1.1, fun p hp => q (.ref p) _ (α1 ++ [p]) (.reg μ1.length) _ (n1.trans (.reg hp)) (reg_lst R1 hp (D1.pure h1.2.1)) (.reg (by rw [← R1.len]; exact get_reg)) h1.2.2⟩
theorem wE_dict (k : Φ (.reg μ.length) (μ ++ [.dct []])) : wE tDNewT δ μ Φ := fun σ H α Q R q p hp =>
  q (.ref p) _ (α ++ [p]) (.reg μ.length) _ (.reg hp) (R.rm.reg (m := .dct []) hp ⟨[], upd_same, .nil⟩) (.reg (by rw [← R.rm.len]; exact get_reg)) k
theorem wE_and (h : wE ta δ μ fun x μ1 => ∃ c, x = .bl c ∧ (c = true → wE tb δ μ1 Φ) ∧ (c = false → Φ (.bl false) μ1)) : wE (tAndV ta tb) δ μ Φ := fun σ H α Q R q =>
  h σ H α _ R fun v H1 α1 x μ1 n1 R1 D1 ⟨c, e, h1, h2⟩ => by
    subst e
    cases D1
    refine ⟨c, rfl, ?_⟩
    cases c with
    | true => exact h1 rfl σ H1 α1 Q (R.nx n1 R1) fun u H2 α2 d μ2 n2 R2 D2 k => q u H2 α2 d μ2 (n1.trans n2) R2 D2 k
    | false => exact q _ H1 α1 _ μ1 n1 R1 (.bl false) (h2 rfl)
theorem wE_or (h : wE ta δ μ fun x μ1 => ∃ c, x = .bl c ∧ (c = true → Φ (.bl true) μ1) ∧ (c = false → wE tb δ μ1 Φ)) : wE (tOrV ta tb) δ μ Φ := fun σ H α Q R q =>
  h σ H α _ R fun v H1 α1 x μ1 n1 R1 D1 ⟨c, e, h1, h2⟩ => by
    subst e
    cases D1
    refine ⟨c, rfl, ?_⟩
    cases c with
    | false => exact h2 rfl σ H1 α1 Q (R.nx n1 R1) fun u H2 α2 d μ2 n2 R2 D2 k => q u H2 α2 d μ2 (n1.trans n2) R2 D2 k
    | true => exact q _ H1 α1 _ μ1 n1 R1 (.bl true) (h1 rfl)
theorem wE_not (h : wE ta δ μ fun x μ1 => ∃ c, x = .bl c ∧ Φ (.bl (!c)) μ1) : wE (tNotV ta) δ μ Φ := fun σ H α Q R q =>
  h σ H α _ R fun v H1 α1 x μ1 n1 R1 D1 ⟨c, e, h1⟩ => by
    subst e
    cases D1
    exact ⟨c, rfl, q _ H1 α1 _ μ1 n1 R1 (.bl _) h1⟩
theorem wE_if (h : wT tt δ μ fun c μ1 => (c = true → wE ta δ μ1 Φ) ∧ (c = false → wE tb δ μ1 Φ)) : wE (tIf tt ta tb) δ μ Φ := fun σ H α Q R q =>
  h σ H α _ R fun c H1 α1 μ1 n1 R1 ⟨h1, h2⟩ => by
    cases c with
    | true => exact h1 rfl σ H1 α1 Q (R.nx n1 R1) fun u H2 α2 d μ2 n2 R2 D2 k => q u H2 α2 d μ2 (n1.trans n2) R2 D2 k
    | false => exact h2 rfl σ H1 α1 Q (R.nx n1 R1) fun u H2 α2 d μ2 n2 R2 D2 k => q u H2 α2 d μ2 (n1.trans n2) R2 D2 k
theorem wE_cb {f : List V → Hp → VK → Prop} (h : wA t δ μ fun ds μ1 => wC f ds μ1 Φ) : wE (tCB f t) δ μ Φ := fun σ H α Q R q =>
  h σ H α _ R fun vs H1 α1 ds μ1 n1 R1 D1 h1 => h1 H1 α1 vs Q R1 D1 fun u H2 α2 d μ2 n2 R2 D2 k => q u H2 α2 d μ2 (n1.trans n2) R2 D2 k
theorem wE_chain (h : wE ta δ μ fun x μ1 => wE tb δ μ1 fun y μ2 => wO r x y μ2 fun z μ3 => ∃ k, z = .bl k ∧ (k = true → wE tc δ μ3 fun w μ4 => wO r' y w μ4 Φ) ∧ (k = false → Φ (.bl false) μ3)) : wE (tChain r r' ta tb tc) δ μ Φ := fun σ H α Q R q =>
  h σ H α _ R fun v H1 α1 x μ1 n1 R1 D1 h1 => h1 σ H1 α1 _ (R.nx n1 R1) fun w H2 α2 y μ2 n2 R2 D2 h2 =>
    h2 H2 α2 v w _ R2 (n2.dv R1 D1) D2 fun u H3 α3 d μ3 n3 R3 D3 ⟨k, e, k1, k2⟩ => by
      subst e
      cases D3
      refine ⟨k, rfl, ?_⟩
      cases k with
      | true =>
        exact k1 rfl σ H3 α3 _ ((R.nx (n1.trans n2) R2).nx n3 R3) fun u4 H4 α4 d4 μ4 n4 R4 D4 h4 =>
          h4 H4 α4 w u4 Q R4 ((n3.trans n4).dv R2 D2) D4 fun u5 H5 α5 d5 μ5 n5 R5 D5 k5 => q u5 H5 α5 d5 μ5 ((((n1.trans n2).trans n3).trans n4).trans n5) R5 D5 k5
      | false => exact q _ H3 α3 _ μ3 ((n1.trans n2).trans n3) R3 (.bl false) (k2 rfl)

/-! ### tests -/
theorem wT_test {Φ : Bool → List MO → Prop} (h : wE te δ μ fun x μ1 => ∃ c, x = .bl c ∧ Φ c μ1) : wT (tTest te) δ μ Φ := fun σ H α Q R q =>
  h σ H α _ R fun v H1 α1 x μ1 n1 R1 D1 ⟨c, e, k⟩ => by
    subst e
    cases D1
    exact ⟨c, rfl, q c H1 α1 μ1 n1 R1 k⟩
theorem wT_B {Φ : Bool → List MO → Prop} (h : wE te δ μ fun x μ1 => ∃ c, x = .bl c ∧ Φ c μ1) : wT (tB te) δ μ Φ := fun σ H α Q R q =>
  h σ H α _ R fun v H1 α1 x μ1 n1 R1 D1 ⟨c, e, k⟩ => by
    subst e
    cases D1
    exact ⟨c, rfl, q c H1 α1 μ1 n1 R1 k⟩
theorem wT_and {Φ : Bool → List MO → Prop} (h : wT tt δ μ fun c μ1 => (c = true → wT tu δ μ1 Φ) ∧ (c = false → Φ false μ1)) : wT (tAnd tt tu) δ μ Φ := fun σ H α Q R q =>
  h σ H α _ R fun c H1 α1 μ1 n1 R1 ⟨h1, h2⟩ => by
    cases c with
    | true => exact h1 rfl σ H1 α1 Q (R.nx n1 R1) fun b H2 α2 μ2 n2 R2 k => q b H2 α2 μ2 (n1.trans n2) R2 k
    | false => exact q false H1 α1 μ1 n1 R1 (h2 rfl)
theorem wT_or {Φ : Bool → List MO → Prop} (h : wT tt δ μ fun c μ1 => (c = true → Φ true μ1) ∧ (c = false → wT tu δ μ1 Φ)) : wT (tOr tt tu) δ μ Φ := fun σ H α Q R q =>
  h σ H α _ R fun c H1 α1 μ1 n1 R1 ⟨h1, h2⟩ => by
    cases c with
    | false => exact h2 rfl σ H1 α1 Q (R.nx n1 R1) fun b H2 α2 μ2 n2 R2 k => q b H2 α2 μ2 (n1.trans n2) R2 k
    | true => exact q true H1 α1 μ1 n1 R1 (h1 rfl)
theorem wT_not {Φ : Bool → List MO → Prop} (h : wT tt δ μ fun c μ1 => Φ (!c) μ1) : wT (tNot tt) δ μ Φ := fun σ H α Q R q =>
  h σ H α _ R fun c H1 α1 μ1 n1 R1 k => q (!c) H1 α1 μ1 n1 R1 k

/-! ### operations -/
theorem wO_int {g : Int → Int → Int} {i j : Int} (k : Φ (.int (g i j)) μ) : wO (rI0 fun i j => .int (g i j)) (.int i) (.int j) μ Φ := fun H α v w Q R D1 D2 q => by
  cases D1; cases D2
  exact ⟨i, j, rfl, rfl, q _ H α _ μ .refl R (.int _) k⟩
theorem wO_intC {C : Int → Int → Prop} {g : Int → Int → Int} {i j : Int} (hc : C i j) (k : Φ (.int (g i j)) μ) : wO (rI C fun i j => .int (g i j)) (.int i) (.int j) μ Φ := fun H α v w Q R D1 D2 q => by
  cases D1; cases D2
  exact ⟨i, j, rfl, rfl, hc, q _ H α _ μ .refl R (.int _) k⟩
theorem wO_intB {g : Int → Int → Bool} {i j : Int} (k : Φ (.bl (g i j)) μ) : wO (rI0 fun i j => .bl (g i j)) (.int i) (.int j) μ Φ := fun H α v w Q R D1 D2 q => by
  cases D1; cases D2
  exact ⟨i, j, rfl, rfl, q _ H α _ μ .refl R (.bl _) k⟩
theorem wO_eqI {i j : Int} (k : Φ (.bl (decide (i = j))) μ) : wO rEq (.int i) (.int j) μ Φ := fun H α v w Q R D1 D2 q => by
  cases D1; cases D2
  refine ⟨rfl, q _ H α (.bl (decide (i = j))) μ .refl R ?_ k⟩
  have e : decide (V.int i = V.int j) = decide (i = j) := by simp
  rw [e]; exact .bl _
theorem wO_eqS {i j : Str} (k : Φ (.bl (decide (i = j))) μ) : wO rEq (.str i) (.str j) μ Φ := fun H α v w Q R D1 D2 q => by
  cases D1; cases D2
  refine ⟨rfl, q _ H α (.bl (decide (i = j))) μ .refl R ?_ k⟩
  have e : decide (V.str i = V.str j) = decide (i = j) := by simp
  rw [e]; exact .bl _
theorem wO_eqB {i j : Bool} (k : Φ (.bl (decide (i = j))) μ) : wO rEq (.bl i) (.bl j) μ Φ := fun H α v w Q R D1 D2 q => by
  cases D1; cases D2
  refine ⟨rfl, q _ H α (.bl (decide (i = j))) μ .refl R ?_ k⟩
  have e : decide (V.bl i = V.bl j) = decide (i = j) := by simp
  rw [e]; exact .bl _
theorem wO_neI {i j : Int} (k : Φ (.bl (!decide (i = j))) μ) : wO rNe (.int i) (.int j) μ Φ := fun H α v w Q R D1 D2 q => by
  cases D1; cases D2
  refine ⟨rfl, q _ H α (.bl (!decide (i = j))) μ .refl R ?_ k⟩
  have e : decide (V.int i = V.int j) = decide (i = j) := by simp
  rw [e]; exact .bl _
theorem wO_neB {i j : Bool} (k : Φ (.bl (!decide (i = j))) μ) : wO rNe (.bl i) (.bl j) μ Φ := fun H α v w Q R D1 D2 q => by
  cases D1; cases D2
  refine ⟨rfl, q _ H α (.bl (!decide (i = j))) μ .refl R ?_ k⟩
  have e : decide (V.bl i = V.bl j) = decide (i = j) := by simp
  rw [e]; exact .bl _
def isNon : Dt → Bool
  | .non => true
  | _ => false
theorem isNon_v {H : Hp} {av rg : List Addr} {v : V} {d : Dt} (D : Dv H av rg v d) : decide (v = .non) = isNon d := by cases D <;> simp [isNon]
theorem wO_isN (k : Φ (.bl (isNon x)) μ) : wO (fun x y H Q => y = .non ∧ Q (.bl (decide (x = .non))) H) x .non μ Φ := fun H α v w Q R D1 D2 q => by
  cases D2
  refine ⟨rfl, q _ H α (.bl (isNon x)) μ .refl R ?_ k⟩
  rw [isNon_v D1]; exact .bl _
theorem wO_notN (k : Φ (.bl (!isNon x)) μ) : wO (fun x y H Q => y = .non ∧ Q (.bl (!decide (x = .non))) H) x .non μ Φ := fun H α v w Q R D1 D2 q => by
  cases D2
  refine ⟨rfl, q _ H α (.bl (!isNon x)) μ .refl R ?_ k⟩
  rw [isNon_v D1]; exact .bl _
theorem wU_neg {i : Int} (k : Φ (.int (-i)) μ) : wU (rU fun i => .int (-i)) (.int i) μ Φ := fun H α v Q R D1 q => by
  cases D1
  exact ⟨i, rfl, q _ H α _ μ .refl R (.int _) k⟩
theorem ixN_lt {n : Nat} {i : Int} {j : Nat} (h : ixN n i = some j) : j < n := (ixN_seq h).2.1
theorem DvL.atI {H : Hp} {av rg : List Addr} {vs : List V} {ds : List Dt} {i : Int} {d : Dt} (D : DvL H av rg vs ds) (h : atI ds i = some d) : ∃ v, L2.atI vs i = some v ∧ Dv H av rg v d := by
  unfold L2.atI at h ⊢
  rw [D.length]
  cases e : ixN ds.length i with
  | none => rw [e] at h; cases h
  | some j =>
    rw [e] at h
    obtain ⟨v, e1, k⟩ := D.get (i := j) h
    exact ⟨v, e1, k⟩
theorem wO_ixT {ds : List Dt} {i : Int} {d : Dt} (h : atI ds i = some d) (k : Φ d μ) : wO (rIxT K) (.tup ds) (.int i) μ Φ := fun H α v w Q R D1 D2 q => by
  cases D2
  cases D1 with
  | tup e D =>
    obtain ⟨u, e1, Du⟩ := D.atI h
    exact ⟨_, _, i, u, rfl, rfl, .inl (.inl e), e1, q _ H α _ μ .refl R Du k⟩
/-- a list as data or in a register -/
def lstOf (μ : List MO) : Dt → Option (List Dt)
  | .lst ds => some ds
  | .reg j => match μ[j]? with
    | some (.lst ds) => some ds
    | _ => none
  | _ => none
theorem lst_at {H : Hp} {α : List Addr} {v : V} {ds : List Dt} (R : RM H α μ) (D : Dv H α α v x) (h : lstOf μ x = some ds) : ∃ a xs, v = .ref a ∧ H a = some (.lst xs) ∧ DvL H α α xs ds := by
  cases D with
  | lst e n k =>
    have e' := Option.some.inj h
    subst e'
    exact ⟨_, _, rfl, e, k⟩
  | @reg a j e =>
    unfold lstOf at h
    cases em : μ[j]? with
    | none => simp [em] at h
    | some m =>
      cases m with
      | lst es =>
        simp [em] at h
        subst h
        obtain ⟨xs, e1, k⟩ := R.ok j a _ e em
        exact ⟨a, xs, rfl, e1, k.up⟩
      | dct _ => simp [em] at h
      | frz _ => simp [em] at h
  | _ => cases h
theorem wO_ixL {ds : List Dt} {i : Int} {d : Dt} (hl : lstOf μ x = some ds) (h : atI ds i = some d) (k : Φ d μ) : wO (rIxL K) x (.int i) μ Φ := fun H α v w Q R D1 D2 q => by
  cases D2
  obtain ⟨a, xs, rfl, e, D⟩ := lst_at R D1 hl
  obtain ⟨u, e1, Du⟩ := D.atI h
  exact ⟨_, _, i, u, rfl, rfl, .inl (.inl e), e1, q _ H α _ μ .refl R Du k⟩
theorem wO_catT {ds es : List Dt} (hl : ds.length + es.length ≤ 100000) (k : Φ (.tup (ds ++ es)) μ) : wO (rCatA K) (.tup ds) (.tup es) μ Φ := fun H α v w Q R D1 D2 q => by
  cases D1 with
  | tup e1 k1 =>
    cases D2 with
    | tup e2 k2 =>
      refine ⟨_, _, _, _, rfl, rfl, .inl (.inl e1), .inl (.inl e2), by rw [k1.length, k2.length]; exact size_ok hl, fun z => ?_, fun z1 z2 => ?_, fun z1 z2 p hp => ?_⟩
      · subst z
        cases k1
        exact q _ H α _ μ .refl R (.tup e2 k2) k
      · subst z2
        cases k2
        exact q _ H α (.tup ds) μ .refl R (.tup e1 k1) (by rw [List.append_nil] at k; exact k)
      · exact q _ _ α _ μ (.new hp) (R.new hp) (Dv.tup_new R hp (k1.append k2)) k
theorem wO_cat {ds es : List Dt} (hx : lstOf μ x = some ds) (hy : lstOf μ y = some es) (hl : ds.length + es.length ≤ 100000) (k : Φ (.lst (ds ++ es)) μ) : wO rCat x y μ Φ := fun H α v w Q R D1 D2 q => by
  obtain ⟨a, xs, rfl, e1, k1⟩ := lst_at R D1 hx
  obtain ⟨b, ys, rfl, e2, k2⟩ := lst_at R D2 hy
  exact ⟨_, _, _, _, rfl, rfl, e1, e2, by rw [k1.length, k2.length]; exact size_ok hl, fun p hp => q _ _ α _ μ (.new hp) (R.new hp) (Dv.lst_new R hp (k1.append k2)) k⟩

/-! ### calls of built-ins -/
theorem wC_len {ds : List Dt} (h : x = .tup ds ∨ lstOf μ x = some ds) (k : Φ (.int (ds.length : Int)) μ) : wC (fun xs H Q => ∃ p ys, xs = [.ref p] ∧ (SqL K H p ys ∨ SqT K H p ys) ∧ Q (.int ys.length) H) [x] μ Φ := fun H α vs Q R D q => by
  cases D with
  | cons D1 D2 =>
    cases D2
    rcases h with h | h
    · subst h
      cases D1 with
      | tup e k1 => exact ⟨_, _, rfl, .inr (.inl (.inl e)), by rw [k1.length]; exact q _ H α _ μ .refl R (.int _) k⟩
    · obtain ⟨a, xs, rfl, e1, k1⟩ := lst_at R D1 h
      exact ⟨_, _, rfl, .inl (.inl (.inl e1)), by rw [k1.length]; exact q _ H α _ μ .refl R (.int _) k⟩
theorem wC_tuple {ds : List Dt} (h : lstOf μ x = some ds) (k : Φ (.tup ds) μ) : wC (fun xs H Q => ∃ p ys, xs = [.ref p] ∧ ((SqL K H p ys ∧ ∀ l, H l = none → Q (.ref l) (upd H l (.tup ys))) ∨ (SqT K H p ys ∧ Q (.ref p) H))) [x] μ Φ := fun H α vs Q R D q => by
  cases D with
  | cons D1 D2 =>
    cases D2
    obtain ⟨a, xs, rfl, e1, k1⟩ := lst_at R D1 h
    exact ⟨_, _, rfl, .inl ⟨.inl (.inl e1), fun l hl => q _ _ α _ μ (.new hl) (R.new hl) (Dv.tup_new R hl k1) k⟩⟩
theorem wC_tupleT {ds : List Dt} (k : Φ (.tup ds) μ) : wC (fun xs H Q => ∃ p ys, xs = [.ref p] ∧ ((SqL K H p ys ∧ ∀ l, H l = none → Q (.ref l) (upd H l (.tup ys))) ∨ (SqT K H p ys ∧ Q (.ref p) H))) [.tup ds] μ Φ := fun H α vs Q R D q => by
  cases D with
  | cons D1 D2 =>
    cases D2
    cases D1 with
    | tup e k1 => exact ⟨_, _, rfl, .inr ⟨.inl (.inl e), q _ H α _ μ .refl R (.tup e k1) k⟩⟩
theorem wC_list {ds : List Dt} (h : x = .tup ds ∨ lstOf μ x = some ds) (k : Φ (.lst ds) μ) : wC (fun xs H Q => ∃ p ys, xs = [.ref p] ∧ (SqL K H p ys ∨ SqT K H p ys) ∧ ∀ l, H l = none → Q (.ref l) (upd H l (.lst ys))) [x] μ Φ := fun H α vs Q R D q => by
  cases D with
  | cons D1 D2 =>
    cases D2
    rcases h with h | h
    · subst h
      cases D1 with
      | tup e k1 => exact ⟨_, _, rfl, .inr (.inl (.inl e)), fun l hl => q _ _ α _ μ (.new hl) (R.new hl) (Dv.lst_new R hl k1) k⟩
    · obtain ⟨a, xs, rfl, e1, k1⟩ := lst_at R D1 h
      exact ⟨_, _, rfl, .inl (.inl (.inl e1)), fun l hl => q _ _ α _ μ (.new hl) (R.new hl) (Dv.lst_new R hl k1) k⟩
/-- list(..) as a register -/
theorem wC_listR {ds : List Dt} (h : x = .tup ds ∨ lstOf μ x = some ds) (p : PuL ds) (k : Φ (.reg μ.length) (μ ++ [.lst ds])) : wC (fun xs H Q => ∃ p ys, xs = [.ref p] ∧ (SqL K H p ys ∨ SqT K H p ys) ∧ ∀ l, H l = none → Q (.ref l) (upd H l (.lst ys))) [x] μ Φ := fun H α vs Q R D q => by
  cases D with
  | cons D1 D2 =>
    cases D2
    rcases h with h | h
    · subst h
      cases D1 with
      | tup e k1 => exact ⟨_, _, rfl, .inr (.inl (.inl e)), fun l hl => q _ _ (α ++ [l]) _ _ (.reg hl) (reg_lst R hl (k1.pure p)) (.reg (by rw [← R.len]; exact get_reg)) k⟩
    · obtain ⟨a, xs, rfl, e1, k1⟩ := lst_at R D1 h
      exact ⟨_, _, rfl, .inl (.inl (.inl e1)), fun l hl => q _ _ (α ++ [l]) _ _ (.reg hl) (reg_lst R hl (k1.pure p)) (.reg (by rw [← R.len]; exact get_reg)) k⟩
theorem ints_v {H : Hp} {av rg : List Addr} : ∀ {xs : List V} {ns : List Int}, DvL H av rg xs (ns.map Dt.int) → xs = ns.map V.int
  | _, [], .nil => rfl
  | _, n :: ns, .cons (.int _) t => by rw [ints_v t]; rfl
theorem bls_v {H : Hp} {av rg : List Addr} : ∀ {xs : List V} {ns : List Bool}, DvL H av rg xs (ns.map Dt.bl) → xs = ns.map V.bl
  | _, [], .nil => rfl
  | _, n :: ns, .cons (.bl _) t => by rw [bls_v t]; rfl
theorem wC_sum {ns : List Int} {ds : List Dt} (h : lstOf μ x = some ds) (e : ds = ns.map Dt.int) (k : Φ (.int ns.sum) μ) : wC (rSum K) [x] μ Φ := fun H α vs Q R D q => by
  cases D with
  | cons D1 D2 =>
    cases D2
    subst e
    obtain ⟨a, xs, rfl, e1, k1⟩ := lst_at R D1 h
    have e2 := ints_v k1
    subst e2
    exact ⟨_, ns, rfl, .inl (.inl e1), q _ H α _ μ .refl R (.int _) k⟩
theorem wC_all {ns : List Bool} {ds : List Dt} (h : lstOf μ x = some ds) (e : ds = ns.map Dt.bl) (k : Φ (.bl (ns.all id)) μ) : wC (rAll K) [x] μ Φ := fun H α vs Q R D q => by
  cases D with
  | cons D1 D2 =>
    cases D2
    subst e
    obtain ⟨a, xs, rfl, e1, k1⟩ := lst_at R D1 h
    have e2 := bls_v k1
    subst e2
    exact ⟨_, ns, rfl, .inl (.inl e1), q _ H α _ μ .refl R (.bl _) k⟩
theorem wC_abs {i : Int} (k : Φ (.int (if i < 0 then -i else i)) μ) : wC (fun xs H Q => ∃ i, xs = [.int i] ∧ Q (.int (if i < 0 then -i else i)) H) [.int i] μ Φ := fun H α vs Q R D q => by
  cases D with
  | cons D1 D2 =>
    cases D2
    cases D1
    exact ⟨i, rfl, q _ H α _ μ .refl R (.int _) k⟩
theorem wC_min {i j : Int} (k : Φ (.int (if j < i then j else i)) μ) : wC (fun xs H Q => ∃ i j, xs = [.int i, .int j] ∧ Q (.int (if j < i then j else i)) H) [.int i, .int j] μ Φ := fun H α vs Q R D q => by
  cases D with
  | cons D1 D2 =>
    cases D2 with
    | cons D2 D3 =>
      cases D3
      cases D1
      cases D2
      exact ⟨i, j, rfl, q _ H α _ μ .refl R (.int _) k⟩
theorem wC_intI {i : Int} (k : Φ (.int i) μ) : wC (fun xs H Q => (∃ i, xs = [.int i] ∧ Q (.int i) H) ∨ ∃ k, xs = [.bl k] ∧ Q (.int (if k then 1 else 0)) H) [.int i] μ Φ := fun H α vs Q R D q => by
  cases D with
  | cons D1 D2 =>
    cases D2
    cases D1
    exact .inl ⟨i, rfl, q _ H α _ μ .refl R (.int _) k⟩
theorem wC_intB {b : Bool} (k : Φ (.int (if b then 1 else 0)) μ) : wC (fun xs H Q => (∃ i, xs = [.int i] ∧ Q (.int i) H) ∨ ∃ k, xs = [.bl k] ∧ Q (.int (if k then 1 else 0)) H) [.bl b] μ Φ := fun H α vs Q R D q => by
  cases D with
  | cons D1 D2 =>
    cases D2
    cases D1
    exact .inr ⟨b, rfl, q _ H α _ μ .refl R (.int _) k⟩
end
end DL
/-! D3: statements, loops, comprehensions, calls, dicts over data -/
namespace DL
open PySem PySem.Spec PyProof.Rows L2

/-- what is wanted behind a statement -/
structure DE where
  nx : Sl → List MO → Prop
  rt : DK
  bk : Sl → List MO → Prop := fun _ _ => False
  ct : Sl → List MO → Prop := fun _ _ => False
  ex : List MO → Prop := fun _ => False
structure Fits (X : Hp → Prop) (α : List Addr) (H : Hp) (P : DE) (D : Ends) : Prop where
  nx : ∀ σ' H' α' δ' μ', Nx α H α' H' → Rel H' α' σ' δ' μ' → P.nx δ' μ' → D.nx σ' H'
  rt : ∀ v H' α' d μ', Nx α H α' H' → RM H' α' μ' → Dv H' α' α' v d → P.rt d μ' → D.rt v H'
  bk : ∀ σ' H' α' δ' μ', Nx α H α' H' → Rel H' α' σ' δ' μ' → P.bk δ' μ' → D.bk σ' H'
  ct : ∀ σ' H' α' δ' μ', Nx α H α' H' → Rel H' α' σ' δ' μ' → P.ct δ' μ' → D.ct σ' H'
  ex : ∀ H' α' μ', Nx α H α' H' → RM H' α' μ' → P.ex μ' → X H'
theorem Fits.step {X : Hp → Prop} {α α1 : List Addr} {H H1 : Hp} {P : DE} {D : Ends} (f : Fits X α H P D) (n : Nx α H α1 H1) : Fits X α1 H1 P D :=
  ⟨fun _ _ _ _ _ m => f.nx _ _ _ _ _ (n.trans m), fun _ _ _ _ _ m => f.rt _ _ _ _ _ (n.trans m), fun _ _ _ _ _ m => f.bk _ _ _ _ _ (n.trans m), fun _ _ _ _ _ m => f.ct _ _ _ _ _ (n.trans m), fun _ _ _ m => f.ex _ _ _ (n.trans m)⟩
def wS (X : Hp → Prop) (t : TS) (δ : Sl) (μ : List MO) (P : DE) : Prop :=
  ∀ (σ : L2.St) (H : Hp) (α : List Addr) (D : Ends), Rel H α σ δ μ → Fits X α H P D → t D σ H
/-- a target takes a value -/
def wG (g : TG) (d : Dt) (δ : Sl) (μ : List MO) (Ψ : Sl → List MO → Prop) : Prop :=
  ∀ (σ : L2.St) (H : Hp) (α : List Addr) (v : V) (Q : L2.St → Hp → Prop), Rel H α σ δ μ → Dv H α α v d → (∀ σ' H' α' δ' μ', Nx α H α' H' → Rel H' α' σ' δ' μ' → Ψ δ' μ' → Q σ' H') → g v σ H Q
def wGs (g : TGs) (ds : List Dt) (δ : Sl) (μ : List MO) (Ψ : Sl → List MO → Prop) : Prop :=
  ∀ (σ : L2.St) (H : Hp) (α : List Addr) (vs : List V) (Q : L2.St → Hp → Prop), Rel H α σ δ μ → DvL H α α vs ds → (∀ σ' H' α' δ' μ', Nx α H α' H' → Rel H' α' σ' δ' μ' → Ψ δ' μ' → Q σ' H') → g vs σ H Q

section
variable {X : Hp → Prop} {te ta tb tc to ti : TE} {tt tu : TT} {t u : TS} {tr : TA} {δ : Sl} {μ : List MO} {Φ : DK} {P : DE} {r r' : R2} {x y d : Dt} {K : PySem.W.Frag} {g : TG} {gs : TGs} {Ψ : Sl → List MO → Prop}

theorem wG_name {i : Nat} (k : Ψ (δ.set i (some d)) μ) : wG (gName i) d δ μ Ψ := fun σ H α v Q R D q => q _ H α _ μ .refl (R.set i D) k
theorem wGs_nil (k : Ψ δ μ) : wGs gNil [] δ μ Ψ := fun σ H α vs Q R D q => by
  cases D
  exact ⟨rfl, q σ H α δ μ .refl R k⟩
theorem wGs_cons {ds : List Dt} (h : wG g d δ μ fun δ1 μ1 => wGs gs ds δ1 μ1 Ψ) : wGs (gCons g gs) (d :: ds) δ μ Ψ := fun σ H α vs Q R D q => by
  cases D with
  | cons D1 D2 =>
    exact ⟨_, _, rfl, h σ H α _ _ R D1 fun σ1 H1 α1 δ1 μ1 n1 R1 h1 => h1 σ1 H1 α1 _ Q R1 (n1.dvL R.rm D2) fun σ2 H2 α2 δ2 μ2 n2 R2 k => q σ2 H2 α2 δ2 μ2 (n1.trans n2) R2 k⟩
theorem wG_tup {n : Nat} {ds : List Dt} (hl : ds.length = n) (h : wGs gs ds δ μ Ψ) : wG (gTup K n gs) (.tup ds) δ μ Ψ := fun σ H α v Q R D q => by
  cases D with
  | tup e k => exact ⟨_, _, rfl, .inl (.inl e), by rw [k.length, hl], h σ H α _ Q R k q⟩
theorem wG_set (h : wE to δ μ fun x μ1 => wE ti δ μ1 fun y μ2 => ∃ j ds i k, x = .reg j ∧ y = .int i ∧ μ2[j]? = some (.lst ds) ∧ ixN ds.length i = some k ∧ Pu d ∧ Ψ δ (μ2.set j (.lst (ds.set k d)))) : wG (gSub to ti rSetL) d δ μ Ψ := fun σ H α v Q R D q =>
  h σ H α _ R fun w H1 α1 x μ1 n1 R1 D1 h1 => h1 σ H1 α1 _ (R.nx n1 R1) fun z H2 α2 y μ2 n2 R2 D2 ⟨j, ds, i, k, e1, e2, e3, e4, pu, hk⟩ => by
    subst e1 e2
    cases D2
    cases n2.dv R1 D1 with
    | @reg a _ ea =>
      cases D1
      have n12 := n1.trans n2
      obtain ⟨xs, ex, kx⟩ := R2.ok j _ _ ea e3
      have ha := List.mem_of_getElem? ea
      refine ⟨_, xs, i, k, rfl, rfl, ex, by rw [kx.length]; exact e4, ?_⟩
      have n3 : Nx α2 H2 α2 (upd H2 _ (.lst (xs.set k v))) := .put (o := .lst (xs.set k v)) ha
      have R3 : RM (upd H2 _ (.lst (xs.set k v))) α2 (μ2.set j (.lst (ds.set k d))) := R2.put ea ⟨_, upd_same, n3.dvL0 R2 (DvL.set ((n12.dv R.rm D).pure pu) k kx)⟩
      exact q σ _ α2 δ _ (n12.trans n3) ((R.nx n12 R2).nx n3 R3) hk

/-! ### statements -/
theorem wS_seq (h : wS X t δ μ { P with nx := fun δ1 μ1 => wS X u δ1 μ1 P }) : wS X (tSeq t u) δ μ P := fun σ H α D R f =>
  h σ H α { D with nx := u D } R ⟨fun σ' H' α' δ' μ' n R' k => k σ' H' α' D R' (f.step n), f.rt, f.bk, f.ct, f.ex⟩
theorem wS_asg (h : wE te δ μ fun d μ1 => wG g d δ μ1 P.nx) : wS X (tAsg te g) δ μ P := fun σ H α D R f =>
  h σ H α _ R fun v H1 α1 d μ1 n1 R1 D1 h1 => h1 σ H1 α1 v _ (R.nx n1 R1) D1 fun σ2 H2 α2 δ2 μ2 n2 R2 k => f.nx σ2 H2 α2 δ2 μ2 (n1.trans n2) R2 k
theorem wS_set {i : Nat} (h : wE te δ μ fun d μ1 => P.nx (δ.set i (some d)) μ1) : wS X (tAsg te (gName i)) δ μ P := wS_asg (wE_mono h fun d μ' k => wG_name k)
theorem wS_drop (h : wE te δ μ fun _ μ1 => P.nx δ μ1) : wS X (tDrop te) δ μ P := fun σ H α D R f =>
  h σ H α _ R fun v H1 α1 d μ1 n1 R1 D1 k => f.nx σ H1 α1 δ μ1 n1 (R.nx n1 R1) k
theorem wS_ret (h : wE te δ μ P.rt) : wS X (tRet te) δ μ P := fun σ H α D R f => h σ H α _ R fun v H1 α1 d μ1 n1 R1 D1 k => f.rt v H1 α1 d μ1 n1 R1 D1 k
theorem wS_retN (k : P.rt .non μ) : wS X tRetN δ μ P := fun σ H α D R f => f.rt .non H α .non μ .refl R.rm .non k
theorem wS_next (k : P.nx δ μ) : wS X tNext δ μ P := fun σ H α D R f => f.nx σ H α δ μ .refl R k
theorem wS_cont (k : P.ct δ μ) : wS X tCont δ μ P := fun σ H α D R f => f.ct σ H α δ μ .refl R k
theorem wS_if (h : wT tt δ μ fun c μ1 => (c = true → wS X t δ μ1 P) ∧ (c = false → wS X u δ μ1 P)) : wS X (tIfS tt t u) δ μ P := fun σ H α D R f =>
  h σ H α _ R fun c H1 α1 μ1 n1 R1 ⟨h1, h2⟩ => by
    cases c with
    | true => exact h1 rfl σ H1 α1 D (R.nx n1 R1) (f.step n1)
    | false => exact h2 rfl σ H1 α1 D (R.nx n1 R1) (f.step n1)
theorem wS_par {i j : Nat} (h : wA tr δ μ fun ds μ1 => ∃ d e, ds = [d, e] ∧ P.nx ((δ.set i (some d)).set j (some e)) μ1) : wS X (tPar i j tr) δ μ P := fun σ H α D R f =>
  h σ H α _ R fun vs H1 α1 ds μ1 n1 R1 D1 ⟨d, e, q, k⟩ => by
    subst q
    cases D1 with
    | cons D1 D2 =>
      cases D2 with
      | cons D2 D3 =>
        cases D3
        exact ⟨_, _, rfl, f.nx _ H1 α1 _ μ1 n1 (((R.nx n1 R1).set i D1).set j D2) k⟩

/-! ### what is walked -/
structure Itm (J : It) (α : List Addr) (H : Hp) (items : List Dt) : Prop where
  go : ∀ i H' α' μ', Nx α H α' H' → RM H' α' μ' → i < items.length → J.go i H'
  stop : ∀ H' α' μ', Nx α H α' H' → RM H' α' μ' → J.stop items.length H'
  yld : ∀ (i : Nat) H' α' μ' x H'' d, Nx α H α' H' → RM H' α' μ' → items[i]? = some d → J.yld i H' x H'' → Nx α' H' α' H'' ∧ RM H'' α' μ' ∧ Dv H'' α' α' x d
def wI (wi : TI) (δ : Sl) (μ : List MO) (Ψ : List Dt → List MO → Prop) : Prop :=
  ∀ (σ : L2.St) (H : Hp) (α : List Addr) (R : It → Hp → Prop), Rel H α σ δ μ → (∀ J H1 α1 μ1 items, Nx α H α1 H1 → RM H1 α1 μ1 → Itm J α1 H1 items → Ψ items μ1 → R J H1) → wi σ H R
/-- for each item in turn -/
def ForL (X : Hp → Prop) (g : TG) (tb : TS) (P : DE) : List Dt → Sl → List MO → Prop
  | [], δ, μ => P.nx δ μ
  | d :: ds, δ, μ => wG g d δ μ fun δ1 μ1 => wS X tb δ1 μ1 { nx := ForL X g tb P ds, ct := ForL X g tb P ds, bk := P.nx, rt := P.rt, ex := P.ex }
theorem wS_for {wi : TI} {tb : TS} (h : wI wi δ μ fun items μ1 => ForL X g tb P items δ μ1) : wS X (tFor wi g tb) δ μ P := fun σ H α D R f => by
  refine h σ H α _ R fun J H1 α1 μ1 items n1 R1 it h1 => ?_
  refine ⟨fun i m σ' H' => m = items.length - i ∧ i ≤ items.length ∧ ∃ α' δ' μ', Nx α1 H1 α' H' ∧ Rel H' α' σ' δ' μ' ∧ ForL X g tb P (items.drop i) δ' μ',
    ⟨items.length, rfl, Nat.zero_le _, α1, δ, μ1, .refl, R.nx n1 R1, h1⟩, ?_⟩
  rintro i m σ2 H2 ⟨rfl, hi, α2, δ2, μ2, n2, R2, k2⟩
  by_cases hlt : i < items.length
  · refine .inr ⟨it.go i H2 α2 μ2 n2 R2.rm hlt, fun σ' H' => ∃ α' δ' μ', Nx α1 H1 α' H' ∧ Rel H' α' σ' δ' μ' ∧ ForL X g tb P (items.drop (i + 1)) δ' μ', fun σ' H' p => ⟨_, by omega, rfl, hlt, p⟩, fun x H3 hy => ?_⟩
    have e : items.drop i = items[i] :: items.drop (i + 1) := List.drop_eq_getElem_cons hlt
    rw [e] at k2
    obtain ⟨n3, R3, D3⟩ := it.yld i H2 α2 μ2 x H3 items[i] n2 R2.rm (List.getElem?_eq_getElem hlt) hy
    refine k2 σ2 H3 α2 x _ (R2.nx n3 R3) D3 fun σ4 H4 α4 δ4 μ4 n4 R4 k4 => ?_
    have n24 : Nx α1 H1 α4 H4 := (n2.trans n3).trans n4
    refine k4 σ4 H4 α4 _ R4 ⟨fun σ5 H5 α5 δ5 μ5 n5 R5 k5 => ⟨α5, δ5, μ5, n24.trans n5, R5, k5⟩, fun v H5 α5 d5 μ5 n5 R5 D5 k5 => f.rt v H5 α5 d5 μ5 ((n1.trans n24).trans n5) R5 D5 k5,
      fun σ5 H5 α5 δ5 μ5 n5 R5 k5 => f.nx σ5 H5 α5 δ5 μ5 ((n1.trans n24).trans n5) R5 k5, fun σ5 H5 α5 δ5 μ5 n5 R5 k5 => ⟨α5, δ5, μ5, n24.trans n5, R5, k5⟩, fun H5 α5 μ5 n5 R5 k5 => f.ex H5 α5 μ5 ((n1.trans n24).trans n5) R5 k5⟩
  · have e : i = items.length := by omega
    subst e
    rw [List.drop_length] at k2
    exact .inl ⟨it.stop H2 α2 μ2 n2 R2.rm, f.nx σ2 H2 α2 δ2 μ2 (n1.trans n2) R2 k2⟩
/-- while: I falls -/
theorem wS_while {tb : TS} (I : Nat → Sl → List MO → Prop) (m0 : Nat) (h0 : I m0 δ μ)
    (hs : ∀ m δ' μ', I m δ' μ' → wT tt δ' μ' fun c μ1 => (c = true → wS X tb δ' μ1 { nx := fun δ2 μ2 => ∃ m', m' < m ∧ I m' δ2 μ2, ct := fun δ2 μ2 => ∃ m', m' < m ∧ I m' δ2 μ2, bk := P.nx, rt := P.rt, ex := P.ex }) ∧ (c = false → P.nx δ' μ1)) :
    wS X (tWhile tt tb) δ μ P := fun σ H α D R f => by
  refine ⟨fun m σ' H' => ∃ α' δ' μ', Nx α H α' H' ∧ Rel H' α' σ' δ' μ' ∧ I m δ' μ', ⟨m0, α, δ, μ, .refl, R, h0⟩, ?_⟩
  rintro m σ1 H1 ⟨α1, δ1, μ1, n1, R1, k1⟩
  refine hs m δ1 μ1 k1 σ1 H1 α1 _ R1 fun c H2 α2 μ2 n2 R2 ⟨h1, h2⟩ => ?_
  have n12 := n1.trans n2
  cases c with
  | true =>
    refine ⟨fun σ' H' => ∃ m', m' < m ∧ ∃ α' δ' μ', Nx α H α' H' ∧ Rel H' α' σ' δ' μ' ∧ I m' δ' μ', fun σ' H' q => q, ?_⟩
    exact h1 rfl σ1 H2 α2 _ (R1.nx n2 R2) ⟨fun σ5 H5 α5 δ5 μ5 n5 R5 ⟨m', hm, k5⟩ => ⟨m', hm, α5, δ5, μ5, n12.trans n5, R5, k5⟩, fun v H5 α5 d5 μ5 n5 R5 D5 k5 => f.rt v H5 α5 d5 μ5 (n12.trans n5) R5 D5 k5,
      fun σ5 H5 α5 δ5 μ5 n5 R5 k5 => f.nx σ5 H5 α5 δ5 μ5 (n12.trans n5) R5 k5, fun σ5 H5 α5 δ5 μ5 n5 R5 ⟨m', hm, k5⟩ => ⟨m', hm, α5, δ5, μ5, n12.trans n5, R5, k5⟩, fun H5 α5 μ5 n5 R5 k5 => f.ex H5 α5 μ5 (n12.trans n5) R5 k5⟩
  | false => exact f.nx σ1 H2 α2 δ1 μ2 n12 (R1.nx n2 R2) (h2 rfl)

/-! iterables -/
theorem itm_tup {H : Hp} {α : List Addr} {μ : List MO} {a : Addr} {xs : List V} {ds : List Dt} (R : RM H α μ) (e : H a = some (.tup xs)) (D : DvL H α α xs ds) : Itm (Itt K a) α H ds where
  go := fun i H' α' μ' n R' hi => ⟨xs, xs[i]'(by rw [D.length]; exact hi), .inl (.inl (n.tups R _ _ e)), by simp⟩
  stop := fun H' α' μ' n R' => ⟨xs, .inl (.inl (n.tups R _ _ e)), by rw [D.length]; exact Nat.le_refl _⟩
  yld := fun i H' α' μ' x H'' d n R' hd ⟨e1, e2⟩ => by
    subst e1
    have h := e2 xs (.inl (.inl (n.tups R _ _ e)))
    obtain ⟨v, hv, Dv'⟩ := D.get hd
    rw [hv] at h; cases h
    exact ⟨.refl, R', n.dv R Dv'⟩
theorem itm_lst {H : Hp} {α : List Addr} {μ : List MO} {a : Addr} {xs : List V} {ds : List Dt} (R : RM H α μ) (e : H a = some (.lst xs)) (na : a ∉ α) (D : DvL H α α xs ds) : Itm (Itl K a) α H ds where
  go := fun i H' α' μ' n R' hi => ⟨xs, xs[i]'(by rw [D.length]; exact hi), .inl (.inl (n.keep _ _ na e)), by simp⟩
  stop := fun H' α' μ' n R' => ⟨xs, .inl (.inl (n.keep _ _ na e)), by rw [D.length]; exact Nat.le_refl _⟩
  yld := fun i H' α' μ' x H'' d n R' hd ⟨e1, e2⟩ => by
    subst e1
    have h := e2 xs (.inl (.inl (n.keep _ _ na e)))
    obtain ⟨v, hv, Dv'⟩ := D.get hd
    rw [hv] at h; cases h
    exact ⟨.refl, R', n.dv R Dv'⟩
theorem wI_tup {Ψ : List Dt → List MO → Prop} (h : wE te δ μ fun d μ1 => ∃ ds, d = .tup ds ∧ Ψ ds μ1) : wI (iTup K te) δ μ Ψ := fun σ H α R Rl q =>
  h σ H α _ Rl fun v H1 α1 d μ1 n1 R1 D1 ⟨ds, e, k⟩ => by
    subst e
    cases D1 with
    | tup e D => exact ⟨_, rfl, ⟨_, .inl (.inl e)⟩, q _ H1 α1 μ1 ds n1 R1 (itm_tup R1 e D) k⟩
theorem wI_lst {Ψ : List Dt → List MO → Prop} (h : wE te δ μ fun d μ1 => ∃ ds, d = .lst ds ∧ Ψ ds μ1) : wI (iList K te) δ μ Ψ := fun σ H α R Rl q =>
  h σ H α _ Rl fun v H1 α1 d μ1 n1 R1 D1 ⟨ds, e, k⟩ => by
    subst e
    cases D1 with
    | lst e na D => exact ⟨_, rfl, ⟨_, .inl (.inl e)⟩, q _ H1 α1 μ1 ds n1 R1 (itm_lst R1 e na D) k⟩
def rngD (n : Nat) : List Dt := (List.range n).map fun (i : Nat) => Dt.int (i : Int)
theorem wI_rng {Ψ : List Dt → List MO → Prop} (h : wA tr δ μ fun ds μ1 => ∃ j : Int, ds = [.int j] ∧ -1000 ≤ j ∧ j ≤ 100000 ∧ Ψ (rngD j.toNat) μ1) : wI (iRng1 tr) δ μ Ψ := fun σ H α R Rl q =>
  h σ H α _ Rl fun vs H1 α1 ds μ1 n1 R1 D1 ⟨j, e, b1, b2, k⟩ => by
    subst e
    cases D1 with
    | cons D1 D2 =>
      cases D2
      cases D1
      have hl : (rngD j.toNat).length = j.toNat := by unfold rngD; rw [List.length_map, List.length_range]
      refine ⟨j, rfl, by omega, by omega, q _ H1 α1 μ1 _ n1 R1 ⟨fun i H' α' μ' _ _ hi => by rw [hl] at hi; exact hi, fun H' α' μ' _ _ => Nat.le_of_eq hl.symm, ?_⟩ k⟩
      rintro i H' α' μ' x H'' d n R' hd ⟨e1, e2⟩
      subst e1 e2
      unfold rngD at hd
      rw [List.getElem?_map] at hd
      cases hr : (List.range j.toNat)[i]? with
      | none => rw [hr] at hd; cases hd
      | some z =>
        rw [hr] at hd
        cases hd
        have hz : z = i := by
          have h1 := (List.getElem?_eq_some_iff.mp hr)
          obtain ⟨h1, h2⟩ := h1
          rw [List.getElem_range] at h2; exact h2.symm
        subst hz
        refine ⟨.refl, R', ?_⟩
        rw [Int.zero_add]
        exact .int _
/-- pairs out of two tuples -/
theorem new_pair {H' : Hp} {α' : List Addr} {μ' : List MO} {T : Addr} {x y : V} {d e : Dt} (R' : RM H' α' μ') (hT : H' T = none) (D1 : Dv H' α' α' x d) (D2 : Dv H' α' α' y e) :
    Nx α' H' α' (upd H' T (.tup [x, y])) ∧ RM (upd H' T (.tup [x, y])) α' μ' ∧ Dv (upd H' T (.tup [x, y])) α' α' (.ref T) (.tup [d, e]) :=
  ⟨.new hT, R'.new hT, Dv.tup_new R' hT (.cons D1 (.cons D2 .nil))⟩

/-! ### comprehensions -/
/-- a target that fills but the slots vs -/
def Only (g : TG) (vs : List Nat) : Prop := ∀ v σ H Q, g v σ H Q → g v σ H fun σ' H' => Q σ' H' ∧ σ'.length = σ.length ∧ ∀ i, i ∉ vs → σ'[i]? = σ[i]?
def OnlyS (g : TGs) (vs : List Nat) : Prop := ∀ v σ H Q, g v σ H Q → g v σ H fun σ' H' => Q σ' H' ∧ σ'.length = σ.length ∧ ∀ i, i ∉ vs → σ'[i]? = σ[i]?
theorem only_name {i : Nat} {vs : List Nat} (h : i ∈ vs) : Only (gName i) vs := fun v σ H Q q => ⟨q, List.length_set, fun j hj => List.getElem?_set_ne (fun e => hj (by rw [← e]; exact h))⟩
theorem only_nil {vs : List Nat} : OnlyS gNil vs := fun v σ H Q ⟨e, q⟩ => ⟨e, q, rfl, fun _ _ => rfl⟩
/-- a target's wish may be weakened -/
def MonoG (g : TG) : Prop := ∀ v σ H (Q Q' : L2.St → Hp → Prop), (∀ σ' H', Q σ' H' → Q' σ' H') → g v σ H Q → g v σ H Q'
def MonoGs (g : TGs) : Prop := ∀ v σ H (Q Q' : L2.St → Hp → Prop), (∀ σ' H', Q σ' H' → Q' σ' H') → g v σ H Q → g v σ H Q'
theorem mono_name {i : Nat} : MonoG (gName i) := fun v σ H Q Q' k q => k _ _ q
theorem mono_nil : MonoGs gNil := fun v σ H Q Q' k ⟨e, q⟩ => ⟨e, k _ _ q⟩
theorem mono_cons (h : MonoG g) (hs : MonoGs gs) : MonoGs (gCons g gs) := fun v σ H Q Q' k ⟨a, b, e, q⟩ => ⟨a, b, e, h _ _ _ _ _ (fun σ' H' z => hs _ _ _ _ _ k z) q⟩
theorem only_cons {vs : List Nat} (m : MonoG g) (h : Only g vs) (ms : MonoGs gs) (hs : OnlyS gs vs) : OnlyS (gCons g gs) vs := fun v σ H Q ⟨a, b, e, q⟩ =>
  ⟨a, b, e, m _ _ _ _ _ (fun σ' H' ⟨z1, z2, z3⟩ => ms _ _ _ _ _ (fun σ2 H2 ⟨y1, y2, y3⟩ => ⟨y1, y2.trans z2, fun i hi => (y3 i hi).trans (z3 i hi)⟩) (hs _ _ _ _ z1)) (h _ _ _ _ q)⟩
theorem mono_tup {n : Nat} (h : MonoGs gs) : MonoG (gTup K n gs) := fun v σ H Q Q' k ⟨a, xs, e1, e2, e3, q⟩ => ⟨a, xs, e1, e2, e3, h _ _ _ _ _ k q⟩
theorem only_tup {n : Nat} {vs : List Nat} (h : OnlyS gs vs) : Only (gTup K n gs) vs := fun v σ H Q ⟨a, xs, e1, e2, e3, q⟩ => ⟨a, xs, e1, e2, e3, h _ _ _ _ q⟩
theorem wipe_get {σ : L2.St} : ∀ {vs : List Nat} {i : Nat}, i ∉ vs → (wipe σ vs)[i]? = σ[i]?
  | [], _, _ => rfl
  | v :: vs, i, h => by
    unfold wipe
    rw [List.getElem?_set_ne (fun e => h (by rw [e]; exact List.mem_cons_self)), wipe_get (fun m => h (List.mem_cons_of_mem _ m))]
theorem wipe_in {σ : L2.St} : ∀ {vs : List Nat} {i : Nat}, i ∈ vs → i < σ.length → (wipe σ vs)[i]? = some none
  | v :: vs, i, h, hi => by
    unfold wipe
    by_cases e : v = i
    · subst e
      rw [List.getElem?_set_self (by rw [wipe_length]; exact hi)]
    · rw [List.getElem?_set_ne e]
      exact wipe_in ((List.mem_cons.mp h).resolve_left fun z => e z.symm) hi
theorem wipe_ext {σ σ' : L2.St} {vs : List Nat} (hl : σ'.length = σ.length) (h : ∀ i, i ∉ vs → σ'[i]? = σ[i]?) : wipe σ' vs = wipe σ vs := by
  refine List.ext_getElem? fun i => ?_
  by_cases hv : i ∈ vs
  · by_cases hi : i < σ.length
    · rw [wipe_in hv hi, wipe_in hv (by rw [hl]; exact hi)]
    · rw [List.getElem?_eq_none (by rw [wipe_length, hl]; omega), List.getElem?_eq_none (by rw [wipe_length]; omega)]
  · rw [wipe_get hv, wipe_get hv, h i hv]
def wipeD (δ : Sl) : List Nat → Sl
  | [] => δ
  | v :: vs => (wipeD δ vs).set v none
theorem Rel.forget {H : Hp} {α : List Addr} {σ : L2.St} {δ : Sl} {μ : List MO} (R : Rel H α σ δ μ) (i : Nat) : Rel H α (σ.set i none) (δ.set i none) μ where
  rm := R.rm
  sl := by rw [List.length_set, List.length_set, R.sl]
  ss := fun j e he => by
    by_cases hj : i = j
    · subst hj
      have hl : i < δ.length := by
        have := (List.getElem?_eq_some_iff.mp he).1
        rw [List.length_set] at this; exact this
      rw [List.getElem?_set_self hl] at he
      cases he
    · rw [List.getElem?_set_ne hj] at he
      obtain ⟨v, e1, k⟩ := R.ss j e he
      exact ⟨v, by rw [List.getElem?_set_ne hj]; exact e1, k⟩
theorem Rel.wipe {H : Hp} {α : List Addr} {σ : L2.St} {δ : Sl} {μ : List MO} (R : Rel H α σ δ μ) : ∀ vs : List Nat, Rel H α (L2.wipe σ vs) (wipeD δ vs) μ
  | [] => R
  | v :: vs => (R.wipe vs).forget v
/-- the items in turn, the new list so far acc -/
def CompL (g : TG) (tt : TT) (te : TE) (δ : Sl) (Φ : List Dt → List MO → Prop) : List Dt → List Dt → List MO → Prop
  | [], acc, μ => Φ acc μ
  | d :: ds, acc, μ => wG g d δ (μ ++ [.lst acc]) fun δ1 μ1 => wT tt δ1 μ1 fun c μ2 =>
      (c = true → wE te δ1 μ2 fun e μ3 => ∃ μ4, μ3 = μ4 ++ [.lst acc] ∧ μ4.length = μ.length ∧ Pu e ∧ CompL g tt te δ Φ ds (acc ++ [e]) μ4) ∧ (c = false → ∃ μ4, μ2 = μ4 ++ [.lst acc] ∧ μ4.length = μ.length ∧ CompL g tt te δ Φ ds acc μ4)
theorem wipe_wipe {σ : L2.St} {vs : List Nat} : wipe (wipe σ vs) vs = wipe σ vs := wipe_ext (wipe_length σ vs) fun i hi => wipe_get hi
theorem last_of {α : Type} {l : List α} {x : α} : (l ++ [x])[l.length]? = some x := by rw [List.getElem?_append_right (Nat.le_refl _)]; simp
theorem wE_lc {wi : TI} {vs : List Nat} (mg : MonoG g) (og : Only g vs) (h : wI wi δ μ fun items μ1 => items.length ≤ 100000 ∧ CompL g tt te (wipeD δ vs) (fun acc μ2 => Φ (.lst acc) μ2) items [] μ1) : wE (tLc wi g tt te vs) δ μ Φ := fun σ H α Q R q => by
  refine h σ H α _ R fun J H1 α1 μ1 items n1 R1 it ⟨hsm, h1⟩ D hD => ?_
  have n0 : Nx α1 H1 (α1 ++ [D]) (upd H1 D (.lst [])) := .reg hD
  have R0 : RM (upd H1 D (.lst [])) (α1 ++ [D]) (μ1 ++ [.lst []]) := reg_lst R1 hD .nil
  have same : ∀ {α' : List Addr} {H' : Hp} {μ' : List MO} {acc : List Dt}, Nx (α1 ++ [D]) (upd H1 D (.lst [])) α' H' → RM H' α' (μ' ++ [.lst acc]) → μ'.length = μ1.length → α' = α1 ++ [D] := fun {α' H' μ' acc} n' R' hl => by
    obtain ⟨an, e, _⟩ := n'.ext
    have l1 := R'.len
    rw [e, List.length_append, List.length_append, List.length_append, List.length_cons, List.length_cons, List.length_nil, List.length_nil, hl, R1.len] at l1
    have l2 : an = [] := List.eq_nil_of_length_eq_zero (by omega)
    rw [e, l2, List.append_nil]
  refine ⟨fun i m H' => m = items.length - i ∧ i ≤ items.length ∧ ∃ α' acc μ', acc.length ≤ i ∧ Nx (α1 ++ [D]) (upd H1 D (.lst [])) α' H' ∧ RM H' α' (μ' ++ [.lst acc]) ∧ μ'.length = μ1.length ∧ CompL g tt te (wipeD δ vs) (fun acc μ2 => Φ (.lst acc) μ2) (items.drop i) acc μ',
    ⟨items.length, rfl, Nat.zero_le _, α1 ++ [D], [], μ1, Nat.zero_le _, .refl, R0, rfl, h1⟩, ?_⟩
  rintro i m H2 ⟨rfl, hi, α2, acc, μ2, hacc, n2, R2, hl2, k2⟩
  have e2 := same n2 R2 hl2
  subst e2
  have hDm : (μ2 ++ [MO.lst acc])[α1.length]? = some (.lst acc) := by rw [R1.len, ← hl2]; exact last_of
  by_cases hlt : i < items.length
  · refine .inr ⟨it.go i H2 _ _ (n0.trans n2) R2 hlt, fun H' => ∃ α' acc μ', acc.length ≤ i + 1 ∧ Nx (α1 ++ [D]) (upd H1 D (.lst [])) α' H' ∧ RM H' α' (μ' ++ [.lst acc]) ∧ μ'.length = μ1.length ∧ CompL g tt te (wipeD δ vs) (fun acc μ2 => Φ (.lst acc) μ2) (items.drop (i + 1)) acc μ', fun H' p => ⟨_, by omega, rfl, hlt, p⟩, fun x H3 hy => ?_⟩
    rw [List.drop_eq_getElem_cons hlt] at k2
    obtain ⟨n3, R3, D3⟩ := it.yld i H2 _ _ x H3 items[i] (n0.trans n2) R2 (List.getElem?_eq_getElem hlt) hy
    have n13 : Nx α H (α1 ++ [D]) H3 := ((n1.trans n0).trans n2).trans n3
    have Rw : Rel H3 (α1 ++ [D]) (wipe σ vs) (wipeD δ vs) (μ2 ++ [.lst acc]) := (R.nx n13 R3).wipe vs
    have q1 := k2 (wipe σ vs) H3 _ x (fun σ' H' => ∃ α' δ' μ', Nx (α1 ++ [D]) H3 α' H' ∧ Rel H' α' σ' δ' μ' ∧ wT tt δ' μ' fun c μ2' => (c = true → wE te δ' μ2' fun e μ3 => ∃ μ4, μ3 = μ4 ++ [.lst acc] ∧ μ4.length = μ2.length ∧ Pu e ∧ CompL g tt te (wipeD δ vs) (fun acc μ2 => Φ (.lst acc) μ2) (items.drop (i + 1)) (acc ++ [e]) μ4) ∧
        (c = false → ∃ μ4, μ2' = μ4 ++ [.lst acc] ∧ μ4.length = μ2.length ∧ CompL g tt te (wipeD δ vs) (fun acc μ2 => Φ (.lst acc) μ2) (items.drop (i + 1)) acc μ4)) Rw D3
      (fun σ' H' α' δ' μ' n' R' k' => ⟨α', δ', μ', n', R', k'⟩)
    have q2 := og x (wipe σ vs) H3 _ q1
    refine (show g x (wipe σ vs) H3 _ from mg x _ _ _ _ (fun σ4 H4 z => ?_) q2)
    obtain ⟨⟨α4, δ4, μ4, n4, R4, k4⟩, z2, z3⟩ := z
    refine ⟨(wipe_ext z2 z3).trans wipe_wipe, ?_⟩
    refine k4 σ4 H4 α4 _ R4 fun c H5 α5 μ5 n5 R5 ⟨c1, c2⟩ => ?_
    have n25 : Nx (α1 ++ [D]) (upd H1 D (.lst [])) α5 H5 := ((n2.trans n3).trans n4).trans n5
    cases c with
    | true =>
      refine c1 rfl σ4 H5 α5 _ (R4.nx n5 R5) fun y H6 α6 e μ6 n6 R6 D6 ⟨μ7, em, hl7, pe, k7⟩ => ?_
      subst em
      have n26 := n25.trans n6
      have e6 := same n26 R6 (hl7.trans hl2)
      subst e6
      have hDm6 : (μ7 ++ [MO.lst acc])[α1.length]? = some (.lst acc) := by rw [R1.len, ← hl2, ← hl7]; exact last_of
      obtain ⟨xs, ex, kx⟩ := R6.ok α1.length D _ get_reg hDm6
      refine ⟨xs, ex, by rw [kx.length]; exact size_lt (by omega), α1 ++ [D], acc ++ [e], μ7, by rw [List.length_append, List.length_cons, List.length_nil]; omega, n26.trans (.put (o := .lst (xs ++ [y])) (List.mem_of_getElem? get_reg)), ?_, hl7.trans hl2, k7⟩
      have n7 : Nx (α1 ++ [D]) H6 (α1 ++ [D]) (upd H6 D (.lst (xs ++ [y]))) := .put (List.mem_of_getElem? get_reg)
      have R7 := R6.put (j := α1.length) (o := .lst (xs ++ [y])) (m := .lst (acc ++ [e])) get_reg ⟨_, upd_same, n7.dvL0 R6 (kx.append (.cons (D6.pure pe) .nil))⟩
      have es : (μ7 ++ [MO.lst acc]).set α1.length (.lst (acc ++ [e])) = μ7 ++ [.lst (acc ++ [e])] := by
        rw [R1.len, ← hl2, ← hl7, List.set_append_right _ _ (Nat.le_refl _), Nat.sub_self]; rfl
      rw [es] at R7
      exact R7
    | false =>
      obtain ⟨μ7, em, hl7, k7⟩ := c2 rfl
      subst em
      exact ⟨α5, acc, μ7, by omega, n25, R5, hl7.trans hl2, k7⟩
  · have e : i = items.length := by omega
    subst e
    rw [List.drop_length] at k2
    refine .inl ⟨it.stop H2 _ _ (n0.trans n2) R2, ?_⟩
    obtain ⟨xs, ex, kx⟩ := R2.ok α1.length D _ get_reg hDm
    have n02 : Nx α1 H1 α1 H2 := by
      have := (n0.trans n2).cut (k := α1.length) (Nat.le_refl _)
      rw [List.take_left] at this
      exact this
    have R2' : RM H2 α1 μ2 := by
      have := R2.cut α1.length
      rw [List.take_left, R1.len, ← hl2, List.take_left] at this
      exact this
    have hnD : D ∉ α1 := R1.fresh hD
    refine q (.ref D) H2 α1 (.lst acc) μ2 (n1.trans n02) R2' (.lst ex hnD ?_) k2
    have kx' := kx.cut (n := α1.length)
    rw [List.take_left] at kx'
    exact kx'.up
end
end DL
/-! D4: defs and their promises over data; methods, slices, dicts, isinstance, comparisons with the empty -/
namespace DL
open PySem PySem.Spec PyProof.Rows L2

/-! ### promises -/
abbrev Con := List Dt → List MO → DK → (List MO → Prop) → Prop
def spD (cU : Addr) (C : Con) : Sp := fun vs H Q E => ∃ α ds μ Φ Ψ, RM H α μ ∧ DvL H α α vs ds ∧ C ds μ Φ Ψ ∧
  (∀ v H' α' d μ', Nx α H α' H' → RM H' α' μ' → Dv H' α' α' v d → Φ d μ' → Q v H') ∧ (∀ H' α' μ', Nx α H α' H' → RM H' α' μ' → Ψ μ' → E (.ref cU) none H')
/-- what may be handed back: as it is; plain, the def's own registers forgotten; a register of the def's own, as plain data -/
def Ret (n : Nat) (Φ : DK) (d : Dt) (μ' : List MO) : Prop := Φ d μ' ∨ (Pu d ∧ Φ d (μ'.take n)) ∨ ∃ j ds, d = .reg j ∧ n ≤ j ∧ μ'[j]? = some (.lst ds) ∧ Φ (.lst ds) (μ'.take n)
def startD (n : Nat) (ds : List Dt) : Sl := ds.map some ++ List.replicate (n - ds.length) none
theorem start_rel {N : List Str} {H : Hp} {α : List Addr} {μ : List MO} {vs : List V} {ds : List Dt} (R : RM H α μ) (D : DvL H α α vs ds) : Rel H α (L2.start N vs) (startD N.length ds) μ where
  rm := R
  sl := by unfold L2.start startD; simp [D.length]
  ss := fun i d e => by
    unfold startD at e
    unfold L2.start
    by_cases hi : i < ds.length
    · rw [List.getElem?_append_left (by simpa using hi), List.getElem?_map] at e
      rw [List.getElem?_append_left (by simpa [D.length] using hi), List.getElem?_map]
      cases hd : ds[i]? with
      | none => rw [hd] at e; cases e
      | some d' =>
        rw [hd] at e; cases e
        obtain ⟨v, hv, k⟩ := D.get hd
        exact ⟨v, by rw [hv]; rfl, k⟩
    · rw [List.getElem?_append_right (by simpa using hi), List.getElem?_replicate] at e
      split at e <;> cases e
theorem ret_ok {α α' : List Addr} {H H' : Hp} {μ μ' : List MO} {v : V} {d : Dt} {Φ : DK} {Q : VK} (R : RM H α μ) (q : ∀ v H' α' d μ', Nx α H α' H' → RM H' α' μ' → Dv H' α' α' v d → Φ d μ' → Q v H')
    (n : Nx α H α' H') (R' : RM H' α' μ') (D : Dv H' α' α' v d) (k : Ret μ.length Φ d μ') : Q v H' := by
  rcases k with k | ⟨p, k⟩ | ⟨j, ds, e, hj, hm, k⟩
  · exact q v H' α' d μ' n R' D k
  · exact q v H' _ d _ (n.cut (k := μ.length) (Nat.le_of_eq R.len)) (R'.cut _) (D.pure p).cut.up k
  · subst e
    cases D with
    | @reg a _ ea =>
      obtain ⟨xs, ex, kx⟩ := R'.ok j a _ ea hm
      refine q _ H' _ (.lst ds) _ (n.cut (k := μ.length) (Nat.le_of_eq R.len)) (R'.cut _) (.lst ex (fun z => ?_) kx.cut.up) k
      obtain ⟨i, hi⟩ := List.getElem?_of_mem z
      have hin : i < μ.length := by
        have := (List.getElem?_eq_some_iff.mp hi).1
        rw [List.length_take] at this; omega
      rw [List.getElem?_take_of_lt hin] at hi
      obtain ⟨h1, e1⟩ := List.getElem?_eq_some_iff.mp hi
      obtain ⟨h2, e2⟩ := List.getElem?_eq_some_iff.mp ea
      have := (List.getElem_inj R'.nd).mp (e1.trans e2.symm)
      omega
section
variable {P : Program} {w : World} {K : PySem.W.Frag} {mg : Str → Option Value} {base : Heap} {cU : Addr}
/-- a def: its body's term, its reading over data -/
theorem fnD {x qual : Str} {st : Stmt} {f : Addr} {fd : FuncData} {N ps : List Str} {k : Nat} {C : Con} (F : Fun K x qual st f fd) (S : FnScope N ps (defScope st)) (hl : ∀ ds μ Φ Ψ, C ds μ Φ Ψ → ds.length = ps.length)
    (hb : ∀ (cdv : Value) (A : Around) (outer : List Env) (s : Shared) (H : Hp) (E : XK), Room k (A.deeper (envOfC qual (defScope st) s.heap.objs.size f cdv)) → ∃ t, PSs (cxOf CX0 P w K mg base N qual (defScope st) f cdv A outer s H E).nox (defBody st) t ∧
      ∀ ds μ Φ Ψ, C ds μ Φ Ψ → wS (fun _ => False) t (startD N.length ds) μ { nx := fun _ μ' => Ret μ.length Φ .non μ', rt := Ret μ.length Φ }) : FnOk P w K mg base CX0 (k + 1) f fd ps (spD cU C) := by
  refine F.ok S (fun vs H Q E h => ?_) (fun cdv A outer s H vs Q E hrm h => ?_)
  · obtain ⟨α, ds, μ, Φ, Ψ, R, D, c, _⟩ := h
    rw [D.length]; exact hl _ _ _ _ c
  · obtain ⟨t, ht, hr⟩ := hb cdv A outer s H E hrm
    refine ⟨t, ht, ?_⟩
    obtain ⟨α, ds, μ, Φ, Ψ, R, D, c, q, _⟩ := h
    refine hr ds μ Φ Ψ c _ H α _ (start_rel R D) ⟨fun σ' H' α' δ' μ' n R' k => ret_ok R q n R'.rm .non k, fun v H' α' d μ' n R' D' k => ret_ok R q n R' D' k, fun _ _ _ _ _ _ _ k => k.elim, fun _ _ _ _ _ _ _ k => k.elim, fun _ _ _ _ _ k => k.elim⟩
variable {t : TA} {δ : Sl} {μ : List MO} {Φ : DK} {C : Con}
theorem wE_call {E : XK} (h : wA t δ μ fun ds μ1 => C ds μ1 Φ fun _ => False) : wE (tCall (spD cU C) [] E t) δ μ Φ := fun σ H α Q R q =>
  h σ H α _ R fun vs H1 α1 ds μ1 n1 R1 D1 c => by
    show spD cU C (vs ++ []) H1 Q E
    rw [List.append_nil]
    exact ⟨α1, ds, μ1, Φ, _, R1, D1, c, fun v H' α' d μ' n R' D' k => q v H' α' d μ' (n1.trans n) R' D' k, fun _ _ _ _ _ k => k.elim⟩
end

section
variable {X : Hp → Prop} {te ta tb to td ty tv : TE} {tt : TT} {t : TA} {tl th : TO} {δ : Sl} {μ : List MO} {Φ : DK} {P : DE} {x y d : Dt} {K : PySem.W.Frag}

/-! ### methods of lists -/
theorem wE_bm {r : V → List V → Hp → VK → Prop} (h : wE to δ μ fun x μ1 => (∃ ds, lstOf μ1 x = some ds) ∧ wA t δ μ1 fun es μ2 => wM r x es μ2 Φ) : wE (tBM K "list" r to t) δ μ Φ := fun σ H α Q R q =>
  h σ H α _ R fun v H1 α1 x μ1 n1 R1 D1 ⟨⟨ds, hx⟩, h1⟩ => by
    obtain ⟨a, xs, e, ea, k⟩ := lst_at R1 D1 hx
    refine ⟨by subst e; exact .inl ⟨rfl, xs, .inl (.inl ea)⟩, h1 σ H1 α1 _ (R.nx n1 R1) fun vs H2 α2 es μ2 n2 R2 D2 h2 => ?_⟩
    exact h2 H2 α2 v vs Q R2 (n2.dv R1 D1) D2 fun u H3 α3 d μ3 n3 R3 D3 k => q u H3 α3 d μ3 ((n1.trans n2).trans n3) R3 D3 k
theorem wE_bm0 {r : V → List V → Hp → VK → Prop} (h : wE to δ μ fun x μ1 => (∃ ds, lstOf μ1 x = some ds) ∧ wM r x [] μ1 Φ) : wE (tBM0 K "list" r to) δ μ Φ := fun σ H α Q R q =>
  h σ H α _ R fun v H1 α1 x μ1 n1 R1 D1 ⟨⟨ds, hx⟩, h1⟩ => by
    obtain ⟨a, xs, e, ea, k⟩ := lst_at R1 D1 hx
    exact ⟨by subst e; exact .inl ⟨rfl, xs, .inl (.inl ea)⟩, h1 H1 α1 v [] Q R1 D1 .nil fun u H3 α3 d μ3 n3 R3 D3 k => q u H3 α3 d μ3 (n1.trans n3) R3 D3 k⟩
theorem lstOf_reg {j : Nat} {ds : List Dt} (h : μ[j]? = some (.lst ds)) : lstOf μ (.reg j) = some ds := by simp [lstOf, h]
theorem wM_append {j : Nat} {ds : List Dt} (hm : μ[j]? = some (.lst ds)) (hl : ds.length ≤ 100000) (p : Pu d) (k : Φ .non (μ.set j (.lst (ds ++ [d])))) : wM rAppend (.reg j) [d] μ Φ := fun H α v vs Q R D1 D2 q => by
  cases D1 with
  | @reg a _ ea =>
    cases D2 with
    | cons D2 D3 =>
      cases D3
      obtain ⟨xs, ex, kx⟩ := R.ok j a _ ea hm
      rename_i y
      have n : Nx α H α (upd H a (.lst (xs ++ [y]))) := .put (List.mem_of_getElem? ea)
      exact ⟨a, xs, y, rfl, rfl, ex, by rw [kx.length]; exact size_lt hl, q _ _ α .non _ n (R.put (m := .lst (ds ++ [d])) ea ⟨_, upd_same, n.dvL0 R (kx.append (.cons (D2.pure p) .nil))⟩) .non k⟩
theorem DvL.dropLast {H : Hp} {av rg : List Addr} {vs : List V} {ds : List Dt} (h : DvL H av rg vs ds) : DvL H av rg vs.dropLast ds.dropLast := by
  rw [List.dropLast_eq_take, List.dropLast_eq_take, h.length]; exact h.take _
theorem wM_pop {j : Nat} {ds : List Dt} (hm : μ[j]? = some (.lst ds)) (hd : ds[ds.length - 1]? = some d) (k : Φ d (μ.set j (.lst ds.dropLast))) : wM rPop (.reg j) [] μ Φ := fun H α v vs Q R D1 D2 q => by
  cases D1 with
  | @reg a _ ea =>
    cases D2
    obtain ⟨xs, ex, kx⟩ := R.ok j a _ ea hm
    obtain ⟨y, hy, ky⟩ := kx.get hd
    have n : Nx α H α (upd H a (.lst xs.dropLast)) := .put (List.mem_of_getElem? ea)
    exact ⟨a, xs, y, rfl, rfl, ex, by rw [kx.length]; exact hy, q _ _ α d _ n (R.put (m := .lst ds.dropLast) ea ⟨_, upd_same, n.dvL0 R kx.dropLast⟩) (n.dv0 R ky).up k⟩
theorem wM_popAt {j k : Nat} {i : Int} {ds : List Dt} (hm : μ[j]? = some (.lst ds)) (hi : i = (k : Int)) (hl : ds.length ≤ 100000) (hd : ds[k]? = some d) (q0 : Φ d (μ.set j (.lst (ds.eraseIdx k)))) : wM rPopAt (.reg j) [.int i] μ Φ := fun H α v vs Q R D1 D2 q => by
  cases D1 with
  | @reg a _ ea =>
    cases D2 with
    | cons D2 D3 =>
      cases D3
      cases D2
      obtain ⟨xs, ex, kx⟩ := R.ok j a _ ea hm
      obtain ⟨y, hy, ky⟩ := kx.get hd
      have hk : k < ds.length := (List.getElem?_eq_some_iff.mp hd).1
      have n : Nx α H α (upd H a (.lst (xs.eraseIdx k))) := .put (List.mem_of_getElem? ea)
      refine ⟨a, xs, i, k, y, rfl, rfl, ex, by omega, by omega, ?_, hy, q _ _ α d _ n (R.put (m := .lst (ds.eraseIdx k)) ea ⟨_, upd_same, n.dvL0 R (kx.eraseIdx k)⟩) (n.dv0 R ky).up q0⟩
      have e : ixN xs.length i = some k := by
        unfold ixN
        rw [if_pos (by omega), if_pos (by rw [kx.length]; omega)]
        simp [hi]
      exact (ixN_seq e).1

/-! ### slices -/
def wP (tl : TO) (δ : Sl) (μ : List MO) (Φ : Option Int → List MO → Prop) : Prop :=
  ∀ (σ : L2.St) (H : Hp) (α : List Addr) (Q : Option Int → Hp → Prop), Rel H α σ δ μ → (∀ o H' α' μ', Nx α H α' H' → RM H' α' μ' → Φ o μ' → Q o H') → tl σ H Q
theorem wP_none {Φ : Option Int → List MO → Prop} (k : Φ none μ) : wP tNoPart δ μ Φ := fun σ H α Q R q => q none H α μ .refl R.rm k
theorem wP_some {Φ : Option Int → List MO → Prop} (h : wE te δ μ fun d μ1 => ∃ i, d = .int i ∧ Φ (some i) μ1) : wP (tPart te) δ μ Φ := fun σ H α Q R q =>
  h σ H α _ R fun v H1 α1 d μ1 n1 R1 D1 ⟨i, e, k⟩ => by
    subst e
    cases D1
    exact ⟨i, rfl, q _ H1 α1 μ1 n1 R1 k⟩
def wSl (r : V → Option Int → Option Int → Hp → VK → Prop) (x : Dt) (lo hi : Option Int) (μ : List MO) (Φ : DK) : Prop :=
  ∀ (H : Hp) (α : List Addr) (v : V) (Q : VK), RM H α μ → Dv H α α v x → (∀ u H' α' d μ', Nx α H α' H' → RM H' α' μ' → Dv H' α' α' u d → Φ d μ' → Q u H') → r v lo hi H Q
theorem wE_slice {r : V → Option Int → Option Int → Hp → VK → Prop} (h : wE te δ μ fun x μ1 => wP tl δ μ1 fun lo μ2 => wP th δ μ2 fun hi μ3 => wSl r x lo hi μ3 Φ) : wE (tSl r te tl th) δ μ Φ := fun σ H α Q R q =>
  h σ H α _ R fun v H1 α1 x μ1 n1 R1 D1 h1 => h1 σ H1 α1 _ (R.nx n1 R1) fun lo H2 α2 μ2 n2 R2 h2 => h2 σ H2 α2 _ (R.nx (n1.trans n2) R2) fun hi H3 α3 μ3 n3 R3 h3 =>
    h3 H3 α3 v Q R3 ((n2.trans n3).dv R1 D1) fun u H4 α4 d μ4 n4 R4 D4 k => q u H4 α4 d μ4 (((n1.trans n2).trans n3).trans n4) R4 D4 k
def cutD (xs : List Dt) (lo hi : Option Int) : List Dt := (xs.drop (HT.sIx xs.length 0 lo)).take (HT.sIx xs.length xs.length hi - HT.sIx xs.length 0 lo)
theorem DvL.cutS {H : Hp} {av rg : List Addr} {vs : List V} {ds : List Dt} {lo hi : Option Int} (h : DvL H av rg vs ds) : DvL H av rg (cutV vs lo hi) (cutD ds lo hi) := by
  unfold cutV cutD
  rw [h.length]
  exact (h.drop _).take _
theorem wSl_list {ds : List Dt} {lo hi : Option Int} (hx : lstOf μ x = some ds) (k : Φ (.lst (cutD ds lo hi)) μ) : wSl (rSlL K) x lo hi μ Φ := fun H α v Q R D q => by
  obtain ⟨a, xs, rfl, ea, kx⟩ := lst_at R D hx
  exact ⟨a, xs, rfl, .inl (.inl ea), fun p hp => q _ _ α _ μ (.new hp) (R.new hp) (Dv.lst_new R hp kx.cutS) k⟩
theorem wSl_tup {ds : List Dt} {lo hi : Option Int} (k : Φ (.tup (cutD ds lo hi)) μ) : wSl (rSlA K) (.tup ds) lo hi μ Φ := fun H α v Q R D q => by
  cases D with
  | @tup a xs _ ea kx =>
    refine ⟨a, xs, rfl, .inl (.inl ea), fun z => ?_, fun _ p hp => q _ _ α _ μ (.new hp) (R.new hp) (Dv.tup_new R hp kx.cutS) k⟩
    have e : cutD ds lo hi = ds := by
      unfold cutD
      rw [kx.length] at z
      rw [z.1, z.2, List.drop_zero, Nat.sub_zero, List.take_length]
    rw [e] at k
    exact q _ H α _ μ .refl R (.tup ea kx) k
theorem wE_rev {ds : List Dt} (h : wE te δ μ fun x μ1 => ∃ ds, lstOf μ1 x = some ds ∧ Φ (.lst ds.reverse) μ1) : wE (tRevL K te) δ μ Φ := fun σ H α Q R q =>
  h σ H α _ R fun v H1 α1 x μ1 n1 R1 D1 ⟨ds, hx, k⟩ => by
    obtain ⟨a, xs, rfl, ea, kx⟩ := lst_at R1 D1 hx
    exact ⟨a, xs, rfl, .inl (.inl ea), fun p hp => q _ _ α1 _ μ1 (n1.trans (.new hp)) (R1.new hp) (Dv.lst_new R1 hp kx.reverse) k⟩

/-! ### dicts with tuple keys -/
def kD : Key → Dt
  | .inl i => .int i
  | .inr s => .str s
def valD (kvs : List (List Key × Dt)) (k : List Key) : Option Dt := (kvs.find? fun kv => decide (kv.1 = k)).map (·.2)
def putD (kvs : List (List Key × Dt)) (k : List Key) (d : Dt) : List (List Key × Dt) :=
  if (kvs.any fun kv => decide (kv.1 = k)) = true then kvs.map (fun kv => if kv.1 = k then (kv.1, d) else kv) else kvs ++ [(k, d)]
theorem keys_v {H : Hp} {av rg : List Addr} : ∀ {xs : List V} {k : List Key}, DvL H av rg xs (k.map kD) → xs = k.map kV
  | _, [], .nil => rfl
  | _, .inl i :: k, .cons (.int _) t => by rw [keys_v t]; rfl
  | _, .inr s :: k, .cons (.str _) t => by rw [keys_v t]; rfl
theorem KvL.val {H : Hp} {av : List Addr} {k : List Key} : ∀ {ws : List (List Key × V)} {kvs : List (List Key × Dt)}, KvL H av ws kvs → (valD kvs k = none → valV ws k = none) ∧ ∀ d, valD kvs k = some d → ∃ v, valV ws k = some v ∧ Dv H av [] v d
  | _, _, .nil => ⟨fun _ => rfl, fun d h => by cases h⟩
  | _, _, .cons (k := k') h t => by
    have ih := t.val (k := k)
    unfold valD valV at ih ⊢
    rw [List.find?_cons, List.find?_cons]
    by_cases e : k' = k
    · simp only [e, decide_true]
      refine ⟨fun z => (nomatch z), fun d z => ?_⟩
      cases z
      exact ⟨_, rfl, h⟩
    · simp only [e, decide_false]
      exact ih
theorem KvL.isSome {H : Hp} {av : List Addr} {k : List Key} {ws : List (List Key × V)} {kvs : List (List Key × Dt)} (h : KvL H av ws kvs) : (valV ws k).isSome = (valD kvs k).isSome := by
  cases e : valD kvs k with
  | none => rw [h.val.1 e]; rfl
  | some d => obtain ⟨v, e1, _⟩ := h.val.2 d e; rw [e1]; rfl
theorem KvL.any {H : Hp} {av : List Addr} {k : List Key} : ∀ {ws : List (List Key × V)} {kvs : List (List Key × Dt)}, KvL H av ws kvs → (ws.any fun kv => decide (kv.1 = k)) = kvs.any fun kv => decide (kv.1 = k)
  | _, _, .nil => rfl
  | _, _, .cons h t => by rw [List.any_cons, List.any_cons, t.any]
theorem KvL.append {H : Hp} {av : List Addr} {ws' : List (List Key × V)} {kvs' : List (List Key × Dt)} (h' : KvL H av ws' kvs') : ∀ {ws : List (List Key × V)} {kvs : List (List Key × Dt)}, KvL H av ws kvs → KvL H av (ws ++ ws') (kvs ++ kvs')
  | _, _, .nil => h'
  | _, _, .cons a t => .cons a (KvL.append h' t)
theorem KvL.mapP {H : Hp} {av : List Addr} {k : List Key} {v : V} {d : Dt} (hd : Dv H av [] v d) : ∀ {ws : List (List Key × V)} {kvs : List (List Key × Dt)}, KvL H av ws kvs → KvL H av (ws.map fun kv => if kv.1 = k then (kv.1, v) else kv) (kvs.map fun kv => if kv.1 = k then (kv.1, d) else kv)
  | _, _, .nil => .nil
  | _, _, .cons (k := k') a t => by
    rw [List.map_cons, List.map_cons]
    by_cases e : k' = k
    · simp only [e, if_true]; exact .cons hd (t.mapP hd)
    · simp only [e, if_false]; exact .cons a (t.mapP hd)
theorem KvL.put {H : Hp} {av : List Addr} {k : List Key} {v : V} {d : Dt} (hd : Dv H av [] v d) {ws : List (List Key × V)} {kvs : List (List Key × Dt)} (h : KvL H av ws kvs) : KvL H av (putK ws k v) (putD kvs k d) := by
  unfold putK putD
  rw [h.any]
  split
  · exact h.mapP hd
  · exact KvL.append (.cons hd .nil) h
theorem KvL.length {H : Hp} {av : List Addr} : ∀ {ws : List (List Key × V)} {kvs : List (List Key × Dt)}, KvL H av ws kvs → ws.length = kvs.length
  | _, _, .nil => rfl
  | _, _, .cons _ t => by rw [List.length_cons, List.length_cons, t.length]
/-- a dict in a register (walked or not) -/
def dctOf (μ : List MO) : Dt → Option (List (List Key × Dt))
  | .reg j => match μ[j]? with
    | some (.dct kvs) => some kvs
    | some (.frz kvs) => some kvs
    | _ => none
  | _ => none
theorem dct_at {H : Hp} {α : List Addr} {v : V} {kvs : List (List Key × Dt)} (R : RM H α μ) (D : Dv H α α v x) (h : dctOf μ x = some kvs) : ∃ a ws, v = .ref a ∧ L2.Rd H a (.dT ws) ∧ KvL H α ws kvs := by
  cases D with
  | @reg a j e =>
    unfold dctOf at h
    cases em : μ[j]? with
    | none => simp [em] at h
    | some m =>
      cases m with
      | lst es => simp [em] at h
      | dct k0 =>
        simp [em] at h
        subst h
        obtain ⟨ws, e1, k⟩ := R.ok j a _ e em
        exact ⟨a, ws, rfl, .inl e1, k⟩
      | frz k0 =>
        simp [em] at h
        subst h
        obtain ⟨o, ws, e1, k⟩ := R.ok j a _ e em
        exact ⟨a, ws, rfl, .inr ⟨o, e1⟩, k⟩
  | _ => cases h
theorem dget_at {H : Hp} {α : List Addr} {v w : V} {kvs : List (List Key × Dt)} {k : List Key} (R : RM H α μ) (D : Dv H α α v x) (D2 : Dv H α α w (.tup (k.map kD))) (h : dctOf μ x = some kvs) : ∃ a ws, v = .ref a ∧ DGet H a w (valV ws k) ∧ KvL H α ws kvs := by
  obtain ⟨a, ws, e, rd, k1⟩ := dct_at R D h
  cases D2 with
  | @tup b xs _ eb kb =>
    have ek := keys_v kb
    subst ek
    exact ⟨a, ws, e, .inr ⟨ws, k, b, rd, rfl, eb, rfl⟩, k1⟩
theorem wE_dget (h : wE td δ μ fun x μ1 => wE ty δ μ1 fun y μ2 => ∃ kvs k d, dctOf μ2 x = some kvs ∧ y = .tup (k.map kD) ∧ valD kvs k = some d ∧ Φ d μ2) : wE (tDGet td ty) δ μ Φ := fun σ H α Q R q =>
  h σ H α _ R fun v H1 α1 x μ1 n1 R1 D1 h1 => h1 σ H1 α1 _ (R.nx n1 R1) fun w H2 α2 y μ2 n2 R2 D2 ⟨kvs, k, d, hx, e, hv, hk⟩ => by
    subst e
    obtain ⟨a, ws, ea, g, kw⟩ := dget_at R2 (n2.dv R1 D1) D2 hx
    obtain ⟨u, eu, Du⟩ := kw.val.2 d hv
    rw [eu] at g
    exact ⟨a, u, ea, g, q u H2 α2 d μ2 (n1.trans n2) R2 Du.up hk⟩
theorem wE_din (h : wE ty δ μ fun y μ1 => wE td δ μ1 fun x μ2 => ∃ kvs k, dctOf μ2 x = some kvs ∧ y = .tup (k.map kD) ∧ Φ (.bl (valD kvs k).isSome) μ2) : wE (tDIn ty td) δ μ Φ := fun σ H α Q R q =>
  h σ H α _ R fun w H1 α1 y μ1 n1 R1 D1 h1 => h1 σ H1 α1 _ (R.nx n1 R1) fun v H2 α2 x μ2 n2 R2 D2 ⟨kvs, k, hx, e, hk⟩ => by
    subst e
    obtain ⟨a, ws, ea, g, kw⟩ := dget_at R2 D2 (n2.dv R1 D1) hx
    refine ⟨a, _, ea, g, q _ H2 α2 _ μ2 (n1.trans n2) R2 ?_ hk⟩
    rw [kw.isSome]; exact .bl _
theorem wE_dnin (h : wE ty δ μ fun y μ1 => wE td δ μ1 fun x μ2 => ∃ kvs k, dctOf μ2 x = some kvs ∧ y = .tup (k.map kD) ∧ Φ (.bl (!(valD kvs k).isSome)) μ2) : wE (tDNotIn ty td) δ μ Φ := fun σ H α Q R q =>
  h σ H α _ R fun w H1 α1 y μ1 n1 R1 D1 h1 => h1 σ H1 α1 _ (R.nx n1 R1) fun v H2 α2 x μ2 n2 R2 D2 ⟨kvs, k, hx, e, hk⟩ => by
    subst e
    obtain ⟨a, ws, ea, g, kw⟩ := dget_at R2 D2 (n2.dv R1 D1) hx
    refine ⟨a, _, ea, g, q _ H2 α2 _ μ2 (n1.trans n2) R2 ?_ hk⟩
    rw [kw.isSome]; exact .bl _
theorem wS_dput (h : wE tv δ μ fun d μ1 => wE td δ μ1 fun x μ2 => wE ty δ μ2 fun y μ3 => ∃ j kvs k, x = .reg j ∧ μ3[j]? = some (.dct kvs) ∧ y = .tup (k.map kD) ∧ kvs.length ≤ 100000 ∧ Pu d ∧ P.nx δ (μ3.set j (.dct (putD kvs k d)))) : wS X (sDPut td ty tv) δ μ P := fun σ H α D R f =>
  h σ H α _ R fun v H1 α1 d μ1 n1 R1 D1 h1 => h1 σ H1 α1 _ (R.nx n1 R1) fun w H2 α2 x μ2 n2 R2 D2 h2 => h2 σ H2 α2 _ (R.nx (n1.trans n2) R2) fun z H3 α3 y μ3 n3 R3 D3 ⟨j, kvs, k, e1, hm, e2, hl, p, hk⟩ => by
    subst e1 e2
    cases n3.dv R2 D2 with
    | @reg a _ ea =>
      cases D2
      obtain ⟨ws, ew, kw⟩ := R3.ok j a _ ea hm
      cases D3 with
      | @tup b xs _ eb kb =>
        have ek := keys_v kb
        subst ek
        have n4 : Nx α3 H3 α3 (upd H3 _ (.dT (putK ws k v))) := .put (List.mem_of_getElem? ea)
        refine ⟨_, _, rfl, .inr ⟨ws, k, b, ew, rfl, eb, by rw [kw.length]; exact size_lt hl, rfl⟩, ?_⟩
        have n14 := ((n1.trans n2).trans n3).trans n4
        have D1' : Dv (upd H3 _ (.dT (putK ws k v))) α3 [] v d := (((n2.trans n3).trans n4).dv R1 D1).pure p
        exact f.nx σ _ α3 δ _ n14 (R.nx n14 (R3.put (m := .dct (putD kvs k d)) ea ⟨_, upd_same, KvL.put D1' (kw.mono fun _ _ => n4.dv0 R3)⟩)) hk

/-! ### isinstance -/
def tyN : Dt → Option String
  | .non => some "NoneType" | .bl _ => some "bool" | .int _ => some "int" | .str _ => some "str" | .tup _ => some "tuple" | .lst _ => some "list" | _ => none
theorem tyN_ok {H : Hp} {av rg : List Addr} {v : V} {n : String} (D : Dv H av rg v x) (h : tyN x = some n) : TyX K H v (.type n) := by
  cases D with
  | non => cases h; exact .base .non
  | bl b => cases h; exact .base (.bl b)
  | int b => cases h; exact .base (.int b)
  | str b => cases h; exact .base (.str b)
  | tup e k => cases h; exact .base (.tup e)
  | lst e _ k => cases h; exact .base (.lst e)
  | _ => cases h
theorem wC_isi {T n : String} {b : Bool} (hn : tyN x = some n) (hk : kitB n T = some b) (k : Φ (.bl b) μ) : wC (rIsi K) [x, .ty T] μ Φ := fun H α vs Q R D q => by
  cases D with
  | cons D1 D2 =>
    cases D2 with
    | cons D2 D3 =>
      cases D3
      cases D2
      exact ⟨_, _, .type n, .type T, b, rfl, .ty T, tyN_ok D1 hn, kit_ty hk, q _ H α _ μ .refl R (.bl b) k⟩
theorem wC_isi2 {T U n : String} {b c : Bool} (hn : tyN x = some n) (hb : kitB n T = some b) (hc : kitB n U = some c) (k : Φ (.bl (b || c)) μ) : wC (rIsiT K) [x, .tup [.ty T, .ty U]] μ Φ := fun H α vs Q R D q => by
  cases D with
  | cons D1 D2 =>
    cases D2 with
    | cons D2 D3 =>
      cases D3
      cases D2 with
      | tup e kx =>
        cases kx with
        | cons t1 kx =>
          cases kx with
          | cons t2 kx =>
            cases kx
            cases t1
            cases t2
            refine ⟨_, _, _, .type n, [.type T, .type U], b || c, rfl, e, .cons (.ty T) (.cons (.ty U) .nil), tyN_ok D1 hn, kitAny_cons (kit_ty hb) (fun e => kitAny_cons (kit_ty hc) (fun e2 => ?_) (fun e2 => ?_)) (fun e => ?_), q _ H α _ μ .refl R (.bl _) k⟩
            · rw [e, e2]; exact kitAny_nil
            · rw [e, e2]; rfl
            · rw [e]; rfl

/-! ### data to be compared -/
mutual
inductive Py : Nat → Dt → PyData → Prop
  | non {n : Nat} : Py n .non .none
  | bl {n : Nat} (b : Bool) : Py n (.bl b) (.bool b)
  | int {n : Nat} (i : Int) : Py n (.int i) (.int i)
  | str {n : Nat} {x : Str} (h : PyData.canLay0 (.str x) = true) : Py n (.str x) (.str x)
  | tup {n : Nat} {ds : List Dt} {ps : List PyData} : PyL n ds ps → Py (n + 1) (.tup ds) (.tuple ps)
  | lst {n : Nat} {ds : List Dt} {ps : List PyData} : PyL n ds ps → Py (n + 1) (.lst ds) (.list ps)
inductive PyL : Nat → List Dt → List PyData → Prop
  | nil {n : Nat} : PyL n [] []
  | cons {n : Nat} {d : Dt} {p : PyData} {ds : List Dt} {ps : List PyData} : Py n d p → PyL n ds ps → PyL n (d :: ds) (p :: ps)
end
mutual
theorem Py.shape : ∀ {n : Nat} {d : Dt} {p : PyData}, Py n d p → p.canLay0 = true ∧ p.depth ≤ n
  | _, _, _, .non => ⟨rfl, Nat.zero_le _⟩
  | _, _, _, .bl b => ⟨rfl, Nat.zero_le _⟩
  | _, _, _, .int b => ⟨rfl, Nat.zero_le _⟩
  | _, _, _, .str h => ⟨h, Nat.zero_le _⟩
  | _, _, _, .tup k => ⟨by simpa only [PyData.canLay0] using (PyL.shape k).1, by simpa only [PyData.depth] using Nat.succ_le_succ (PyL.shape k).2⟩
  | _, _, _, .lst k => ⟨by simpa only [PyData.canLay0] using (PyL.shape k).1, by simpa only [PyData.depth] using Nat.succ_le_succ (PyL.shape k).2⟩
theorem PyL.shape : ∀ {n : Nat} {d : List Dt} {p : List PyData}, PyL n d p → PyData.canLayAll0 p = true ∧ PyData.depthAll p ≤ n
  | _, _, _, .nil => ⟨by simp only [PyData.canLayAll0], by simp only [PyData.depthAll]; exact Nat.zero_le _⟩
  | _, _, _, .cons h t => ⟨by simp only [PyData.canLayAll0, (Py.shape h).1, (PyL.shape t).1, Bool.and_self], by simp only [PyData.depthAll]; exact Nat.max_le.mpr ⟨(Py.shape h).2, (PyL.shape t).2⟩⟩
end
mutual
theorem Py.dp {H : Hp} {av rg : List Addr} : ∀ {n : Nat} {d : Dt} {p : PyData} {v : V}, Py n d p → Dv H av rg v d → Dp K H v p
  | _, _, _, _, .non, .non => .non
  | _, _, _, _, .bl b, .bl _ => .bl b
  | _, _, _, _, .int b, .int _ => .int b
  | _, _, _, _, .str h, .str _ => .str _
  | _, _, _, _, .tup k, .tup e D => .tup (.inl (.inl e)) (PyL.dp k D)
  | _, _, _, _, .lst k, .lst e _ D => .lst (.inl (.inl e)) (PyL.dp k D)
theorem PyL.dp {H : Hp} {av rg : List Addr} : ∀ {n : Nat} {d : List Dt} {p : List PyData} {v : List V}, PyL n d p → DvL H av rg v d → DpAll K H v p
  | _, _, _, _, .nil, .nil => .nil
  | _, _, _, _, .cons h t, .cons D E => .cons (Py.dp h D) (PyL.dp t E)
end
end
end DL
/-! E1: enumerate of a tuple -/
namespace EnT
open PySem PySem.Spec PyProof.Rows L2

set_option maxHeartbeats 1000000 in
theorem made {v : Value} {ob : Obj} {G : Heap → Prop} (bg : Begins v ob G) :
    Meets (Builtin.«enumerate.__new__» ⟨[.type "enumerate", v], []⟩) (fun _ R z => G z.heap ∧
      R (.ok (.ret (.ref (z.heap.push ob).objs.size))) { z with heap := (z.heap.push ob).push { cls := .type "enumerate", data := .fields #[.none, .bool false, .ref z.heap.objs.size, rawInt 0, .none, .none] } }) :=
  .of_wp fun P1 w1 A1 R1 s1 hyp => by
    obtain ⟨hp, gn, dr, tk, osx⟩ := s1; obtain ⟨g1, hyp⟩ := hyp
    have sub0 := sub_enumerate
    have it0 : ∀ {A' : Around} {E Q : Value → Shared → Prop}, Q (.ref hp.objs.size) ⟨hp.push ob, gn, dr, tk, osx⟩ → wpAny (model P1 w1) A' (pyIter v) Q E ⟨hp, gn, dr, tk, osx⟩ := fun k => bg.iter P1 w1 _ _ ⟨hp, gn, dr, tk, osx⟩ _ g1 k
    wp_walk using it0
    refine wpAny_stack_any fun _ => wpAny_pure ?_
    split
    · rename_i cc _ _ _ _ _
      cases (cc == Value.type "enumerate") <;> (wp_walk using it0; exact ⟨_, rfl, hyp⟩)
    · wp_walk using it0; exact ⟨_, rfl, hyp⟩

section
variable {prog : Program} {w : World} {A : Around} {E : Value → Shared → Prop} {s : Shared}
theorem call1 {v : Value} {ob : Obj} {G : Heap → Prop} {Q : Value → Shared → Prop} (bg : Begins v ob G) (g1 : G s.heap)
    (k : ∀ h2, IsEnum h2 (s.heap.objs.size + 1) s.heap.objs.size 0 .none → h2.get? s.heap.objs.size = some ob → (∀ b o, s.heap.get? b = some o → h2.get? b = some o) → Q (.ref (s.heap.objs.size + 1)) { s with heap := h2 }) :
    wpAny (model prog w) A (call (.type "enumerate") [v]) Q E s := by
  refine callType_new F.called_enumerate (by decide) (F.typeCall_enumerate_1 _) (F.newCall_enumerate_1 _) (fun ob2 => F.args_object_init_2 ob2 _) F.entry_enumerate_new (made bg) ⟨g1, ?_⟩
  have sz : (s.heap.push ob).objs.size = s.heap.objs.size + 1 := Heap.size_push ..
  show _ ∧ _
  rw [sz]
  have en : IsEnum ((s.heap.push ob).push { cls := .type "enumerate", data := .fields #[.none, .bool false, .ref s.heap.objs.size, rawInt 0, .none, .none] }) (s.heap.objs.size + 1) s.heap.objs.size 0 .none := by
    have q := Heap.get?_push_size (s.heap.push ob) (o := { cls := .type "enumerate", data := .fields #[.none, .bool false, .ref s.heap.objs.size, rawInt 0, .none, .none] }) rfl
    rw [sz] at q; exact q
  exact ⟨⟨_, en, rfl⟩, k _ en (Heap.get?_push_of_some _ (Heap.get?_push_size _ bg.free)) fun b o e => Heap.get?_push_of_some _ (Heap.get?_push_of_some _ e)⟩
end

/-- the tuple at a, each item in a new pair with its number -/
def IteT (K : PySem.W.Frag) (a : Addr) : It :=
  ⟨fun i H => ∃ (xs : List V) (x : V), SqT K H a xs ∧ xs[i]? = some x, fun i H v H' => ∃ T x, v = .ref T ∧ H T = none ∧ H' = upd H T (.tup [.int (i : Nat), x]) ∧ ∀ xs, SqT K H a xs → xs[i]? = some x, fun i H => ∃ xs : List V, SqT K H a xs ∧ xs.length ≤ i⟩
theorem turnT {P : Program} {w : World} {K : PySem.W.Frag} {elts : List Expr} {kk : Nat} {tpos : Pos} (a e it : Addr) (hat : a ≠ it) (hea : e ≠ a) (hne : e ≠ it) :
    Turn P w K (.Tuple elts kk tpos) (IteT K a) [e, it] e (fun i h => (∃ old, IsEnum h e it ((i : Nat) : Int) old) ∧ h.IsTupleIter it a i) where
  mem := by simp
  obj := fun i h st b hb => by
    obtain ⟨⟨old, he⟩, ⟨o, ho, hc, hd⟩⟩ := st
    have e' : b = e ∨ b = it := by simpa using hb
    rcases e' with z | z <;> rw [z]
    · exact ⟨_, he, fun v q => nomatch q⟩
    · exact ⟨o, ho, fun v q => by rw [hd] at q; cases q⟩
  keep := fun i h h' st k => let ⟨⟨old, he⟩, hi⟩ := st; ⟨⟨old, k e (by simp) _ he⟩, hi.at fun o q => k it (by simp) o q⟩
  item := by
    intro X hP hw hK hc i pins s σ H E I hf st hg
    subst hP hw hK
    obtain ⟨⟨old, he⟩, hit⟩ := st
    obtain ⟨xs, x, hq, hx⟩ := hg
    obtain ⟨its, rv, tp, hz⟩ := I.tuple hq
    obtain ⟨u, hu, ru⟩ := rv.get hx
    have hel : e < s.heap.objs.size := Heap.lt_size he
    have hil : it < s.heap.objs.size := by obtain ⟨_, q, _⟩ := hit; exact Heap.lt_size q
    have Dr := Draws.tuple (prog := X.prog) (w := X.w) (A := X.A.in1) (by have := I.ok.hd hc; simpa using this) it a hat its.toArray
    have hsz : i < its.toArray.size := by
      have := (List.getElem?_eq_some_iff.mp hu).1
      simpa using this
    refine wpAny_pyNext_enum_itemD Dr he ⟨hit, tp⟩ hsz hne (by simp [hne, hea]) fun x2 h2 tk2 hx2 ho hs2 hT hsz2 hk => ?_
    have ex2 : x2 = u := by
      have : its.toArray[i]? = some u := by simpa using hu
      have q : its.toArray[i]? = some x2 := hx2
      rw [this] at q; exact (Option.some.inj q).symm
    subst ex2
    refine ⟨_, rfl, wpAny_letOwnedTupleGo_enum (s := { s with heap := h2, toks := tk2 + 1 }) ho fun h3 he3 sb => ?_⟩
    have hT3 : h3.get? s.heap.objs.size = some { cls := .type "tuple", data := .seq #[.int i tk2, x2] } := (sb.2 _ (Nat.ne_of_gt hel)).trans hT
    have new : ObjOk X.prog X.w (upd H s.heap.objs.size (.tup [.int (i : Nat), x])) h3 s.heap.objs.size (.tup [.int (i : Nat), x]) :=
      ⟨by show 2 ≤ sizeLine; decide, [.int i tk2, x2], .cons ⟨_, rfl⟩ (.cons ru .nil), ⟨_, hT3, rfl, _, rfl⟩⟩
    have J : Inv X pins σ (upd H s.heap.objs.size (.tup [.int (i : Nat), x])) { s with heap := h3, toks := tk2 + 1 } :=
      I.turnedNew (ch := [e, it]) (fun b ob hb q => (sb.2 b (fun z => hb (by simp [z]))).trans (hk b ob (fun z => hb (by simp [z])) (fun z => hb (by simp [z])) q)) hf (Nat.le_refl _) new
    refine ⟨.ref s.heap.objs.size, _, J, rfl, ⟨_, x, rfl, I.hok.fresh (Nat.le_refl _), rfl, fun ys hy => by rw [I.tuple_inj hy hq]; exact hx⟩, ⟨⟨x2, ?_⟩, hs2.1.at fun o q => (sb.2 it (Ne.symm hne)).trans q⟩, fun b hb => ?_⟩
    · have e1 : ((i + 1 : Nat) : Int) = (i : Int) + 1 := by omega
      rw [e1]; exact he3
    · have hlt : b < s.heap.objs.size := by
        have e' : b = e ∨ b = it := by simpa using hb
        rcases e' with z | z <;> rw [z]
        · exact hel
        · exact hil
      rw [upd_ne (Nat.ne_of_lt hlt)]
      exact (hf b hb).1
  done := by
    intro X hP hw hK hc i pins s σ H E I hf st hg
    subst hP hw hK
    obtain ⟨⟨old, he⟩, hit⟩ := st
    obtain ⟨xs, hq, hx⟩ := hg
    obtain ⟨its, rv, tp, hz⟩ := I.tuple hq
    obtain ⟨f0, f1, f2, f3, f4, f5⟩ := hf it (by simp)
    have hl := rv.length
    have De : Draws X.prog X.w X.A.in1 it [it, a] i (fun _ _ => True) (fun j h => j = i ∧ h.IsTupleIter it a i ∧ h.IsTuple a its.toArray) :=
      ⟨fun _ _ st => let ⟨o, ho, _⟩ := st.2.1; ⟨o, ho⟩, fun _ _ _ st hk => ⟨st.1, st.2.1.at fun o e => hk it (by simp) o e, st.2.2.at fun o e => hk a (by simp) o e⟩,
        fun j z Q E hj st => absurd st.1 (by omega), fun z Q E st hE => wpAny_nextOf_tuple_end (by have := I.ok.hd hc; simpa using this) st.2.1 st.2.2 (by simp; omega) hE⟩
    exact wpAny_pyNext_enum_endD De he ⟨rfl, hit, tp⟩ fun h' eb => ⟨rfl, I.turned (t' := s.toks) (fun b o hb q => eb b o hb q) f0 f1 f3 f4 f5⟩
  self := fun A i s Q E st h => let ⟨⟨_, he⟩, _⟩ := st; wpAny_pyIter_enum he h
def iEnumT (K : PySem.W.Frag) (ta : TA) : TI := fun σ H R => ta σ H fun vs H1 => ∃ a xs, vs = [.ref a] ∧ SqT K H1 a xs ∧ R (IteT K a) H1
theorem pi_enumT {X : Cx} {e : Expr} {ta : TA} {p pos tpos : Pos} {elts : List Expr} {kk : Nat} (hg : Gl X "enumerate") (hm : X.mg "enumerate" = none) (ha : PA X [e] ta) (hs : starEach [e] X.env = [(false, eval e X.env)] := by rfl) :
    PI X (.Tuple elts kk tpos) (.Call (.Name "enumerate" p) [e] [] pos) (iEnumT X.K ta) := by
  refine ⟨fun pins s σ H R I hyp => ?_⟩
  refine Call_ (ld_blt I hg hm boot_enumerate (PyProof.Rows.callWith_type1 (thn (ha.run pos pins s σ H _ I hyp) fun us s1 ⟨vs, H1, I1, r1, q1⟩ => ?_) hs rfl))
  obtain ⟨a, xs, ex, hq, q⟩ := q1
  subst ex
  cases r1 with
  | cons r rr =>
    cases rr
    cases r
    obtain ⟨its, rv, tp, hz⟩ := I1.tuple hq
    have tp' : s1.heap.IsTuple a its.toArray := tp
    have hal : a < s1.heap.objs.size := by obtain ⟨_, q0, _⟩ := tp'; exact Heap.lt_size q0
    refine call1 (begins_tuple a its.toArray) tp' fun h2 he hit hk => wpAny_pyIter_enum he ?_
    have I2 : Inv X pins σ H1 { s1 with heap := h2 } := I1.kept (t' := s1.toks) hk
    refine ⟨s1.heap.objs.size + 1, [s1.heap.objs.size + 1, s1.heap.objs.size], _, _, H1, rfl, I2, turnT a (s1.heap.objs.size + 1) s1.heap.objs.size (Nat.ne_of_lt hal) (Nat.ne_of_gt (Nat.lt_succ_of_lt hal)) (Nat.succ_ne_self _), ⟨⟨.none, he⟩, ⟨_, hit, rfl, rfl⟩⟩, fun b hb => ?_, q⟩
    have hle : s1.heap.objs.size ≤ b := by
      have e' : b = s1.heap.objs.size + 1 ∨ b = s1.heap.objs.size := by simpa using hb
      rcases e' with z | z <;> rw [z]
      · exact Nat.le_add_right _ _
      · exact Nat.le_refl _
    exact I1.fpOk hle (I1.hok.fresh hle)
end EnT
/-! E2: set(t) of a tuple of tuples of ints; len of such a set -/
namespace SeT
open PySem PySem.Spec PyProof.Rows L2
abbrev mt0 (w : World) : Obj := { cls := .type "set", dict := none, data := .set #[] 0 (.fresh 0 0 (!w.params.followText "set-order")) }
section
variable {P : Program} {w : World} {A : Around} {E : Value → Shared → Prop} {s : Shared}
set_option maxHeartbeats 3200000 in
theorem call_set {tp : Addr} {arr : Array Value} (ks : List (Addr × List Int)) {Q : Value → Shared → Prop} (calm : A.handled = none) (ht : s.heap.IsTuple tp arr) (items : arr.toList = ks.map fun z => Value.ref z.1)
    (each : ∀ z ∈ ks, IsT P w s.heap z.2 z.1) (few : ks.length < 64) (room : A.units + 3 < cLine)
    (k : ∀ (h2 : Heap) (tk : Nat) M es ep tb, SetTR P w h2 s.heap.objs.size M es ep tb → Got ks ks.length M → (∀ b o, s.heap.get? b = some o → h2.get? b = some o) → Q (.ref s.heap.objs.size) { s with heap := h2, toks := tk }) :
    wpAny (model P w) A (call (.type "set") [.ref tp]) Q E s := by
  have szi : arr.size = ks.length := by
    have q0 := congrArg List.length items
    rwa [Array.length_toList, List.length_map] at q0
  obtain ⟨cc, tl, mro0⟩ := F.called_set.mro
  have made0 := F.called_set.made
  have sub0 := F.called_set.sub
  refine wpAny_call (codeAny_of_tree ?_)
  show wpAny _ _ (callAny (.type "set") _) _ _ _
  refine wpAny_pure ⟨Code.quiet_builtin _ (by decide +kernel), codeAny_builtin F.entry_type_call ?_⟩
  rw [Around.under_plain (weight_type_call_type "set" [.ref tp] []) rfl]
  have n1 := F.called_set.notType
  have n2 := F.called_set.canCreate
  have n3 := F.typeCall_set_1 (.ref tp)
  repeat (any_goals (first | assumption | wp_step))
  refine codeAny_mono (code_set_led1 (.ref tp) (E := E) (Q₁ := fun ob z => ob = .ref s.heap.objs.size ∧ z = { s with heap := s.heap.push (mt0 w) }) ⟨rfl, rfl⟩) fun r s1 hr => ?_
  cases r with
  | error e => exact hr
  | ok fl =>
    cases fl with
    | ret ob =>
      obtain ⟨rfl, rfl⟩ := hr
      have atS : (s.heap.push (mt0 w)).get? s.heap.objs.size = some (mt0 w) := Heap.get?_push_size _ rfl
      have tyS : Shared.TypeIs { s with heap := s.heap.push (mt0 w) } (.ref s.heap.objs.size) "set" := ⟨_, atS, rfl⟩
      have li0 := F.called_set.init.lookup
      have bi0 := F.called_set.init.bind (.ref s.heap.objs.size)
      repeat (any_goals (first | assumption | wp_step))
      refine codeAny_mono (codeAny_call_builtin (R := wants (fun r z => r = .none ∧ ∃ h2 tk M es ep tb, z = { s with heap := h2, toks := tk } ∧ SetTR P w h2 s.heap.objs.size M es ep tb ∧ Got ks ks.length M ∧ (∀ b o, s.heap.get? b = some o → h2.get? b = some o)) E)
        F.called_set.init.plain F.entry_set_init (check_set_init_1 tyS ?_)) fun r2 s2 hr2 => ?_
      · obtain ⟨⟨oc, od, dt, osl⟩, ho, hc0, n0, hd0⟩ := ht
        simp only at hc0 hd0
        subst hc0; subst hd0
        have ho' : (s.heap.push (mt0 w)).get? tp = some { cls := .type "tuple", dict := od, data := .seq arr n0, slots := osl } := Heap.get?_push_of_some _ ho
        have f1 := F.sub_tuple_set
        have f2 := F.sub_tuple_frozenset
        have f3 : (Value.type "tuple" == Value.type "dict") = false := by decide
        have ht1 : (s.heap.push (mt0 w)).IsTuple tp arr := ⟨_, ho', rfl, n0, rfl⟩
        unfold Builtin.«set.__init__» noKeywords Builtin.Frozenset.updateFrom
        generalize gen0 : pyIter = IT
        wp_walk
        subst gen0
        refine wpAny_pyIter_tuple ht1 (wpAny_bind (wpAny_runValue ?_))
        have lt0 : tp < s.heap.objs.size := Heap.lt_size ho
        have calm3 : A.in1.in1.in1.handled = none := by simp [calm]
        have ne0 : tp ≠ (s.heap.push (mt0 w)).objs.size := by
          rw [Heap.size_push]
          exact Nat.ne_of_lt (Nat.lt_succ_of_lt lt0)
        have out0 : s.heap.objs.size ∉ [(s.heap.push (mt0 w)).objs.size, tp] := fun hm => by
          rw [Heap.size_push] at hm
          rcases List.mem_cons.mp hm with z | z
          · exact Nat.ne_of_lt (Nat.lt_succ_self _) z
          · exact Nat.ne_of_gt lt0 (List.mem_singleton.mp z)
        have val0 : ∀ (i : Nat) (v : Value), arr[i]? = some v → ∃ z, ks[i]? = some z ∧ v = .ref z.1 := fun i v hv => by
          have q0 : (ks.map fun z => Value.ref z.1)[i]? = some v := by rw [← items, Array.getElem?_toList]; exact hv
          rw [List.getElem?_map] at q0
          cases e0 : ks[i]? with
          | none => rw [e0] at q0; cases q0
          | some z => rw [e0] at q0; exact ⟨z, rfl, (Option.some.inj q0).symm⟩
        have far : ∀ b, s.heap.objs.size ≤ b → s.heap.get? b = none := fun b hb => Heap.get?_none_of_le hb
        refine set_update_tups ((Walks.tuple calm3 _ tp ne0 arr).toS) s.heap.objs.size out0 ks szi few val0 s.heap each (far _ (Nat.le_refl _)) (fun b hb => far b (by
            rw [List.mem_singleton.mp hb, Heap.size_push]; exact Nat.le_succ _)) room (arr.size - 0) 0 _ (by omega) (Nat.zero_le _)
          ⟨⟨_, Heap.get?_push_size _ rfl, rfl, rfl⟩, (ht1.push _)⟩ (fun b o e => Heap.get?_push_of_some _ (Heap.get?_push_of_some _ e)) ?z0 ?z1
        case z0 => exact ⟨[], #[], 0, _, setTR_fresh (Heap.get?_push_of_some _ atS), Got.zero ks⟩
        case z1 =>
          intro s' M es ep tb mv hS2 g2 kp
          obtain ⟨h2, gn, dr, tk, osx⟩ := s'
          have eg : gn = s.gens := mv.gens
          have ed : dr = s.drawn := mv.drawn
          have eo : osx = s.os := mv.os
          subst eg ed eo
          show wpAny _ _ _ _ _ _
          refine wpAny_pure ?_
          show wpAny _ _ (ret Value.none) _ _ _
          rw [szi] at g2
          exact wpAny_pure ⟨rfl, h2, tk, M, es, ep, tb, rfl, hS2, g2, kp⟩
      · cases r2 with
        | error e => exact hr2
        | ok fl2 =>
          cases fl2 with
          | ret rr =>
            obtain ⟨rfl, h2, tk, M, es, ep, tb, rfl, hS2, g2, kp⟩ := hr2
            repeat (any_goals (first | assumption | wp_step))
            exact k _ _ _ _ _ _ hS2 g2 kp
          | _ => exact hr2.elim
    | _ => exact hr.elim
end
section
variable {X : Cx}
/-- set(t), t a tuple of tuples of ints -/
def rSetT (K : PySem.W.Frag) (P : Program) (w : World) : List V → Hp → VK → Prop := fun xs H Q => ∃ (l : Addr) (ks : List (Addr × List Int)), xs = [V.ref l] ∧ SqT K H l (ks.map fun p => V.ref p.1) ∧ (∀ p ∈ ks, SqT K H p.1 (p.2.map V.int)) ∧ ks.length < 64 ∧
  ∀ a M, H a = none → (M.map (·.2)).Nodup → (∀ p ∈ M, p ∈ ks) → (∀ p ∈ ks, p.2 ∈ M.map (·.2)) → Q (.ref a) (upd H a (SetTO P w a M))
theorem cr_setT (hc : X.calm = true) (hu : X.A.units + 64 < cLine) : CallR X (.type "set") (rSetT X.K X.prog X.w) := by
  intro pins s σ H xs us Q I r h
  obtain ⟨l, ks, rfl, hl, hk, hf, q⟩ := h
  obtain ⟨its, rv, tp, hz⟩ := I.tuple hl
  rw [Vals.ref1 r]
  refine call_set (P := X.prog) (w := X.w) ks (I.ok.hd hc) (show s.heap.IsTuple l its.toArray from tp) (by simpa using refs_of_vals rv) (fun p hp => I.isT (hk p hp)) hf (by omega) fun h2 tk M es ep tb R g kp => ?_
  exact ⟨.ref s.heap.objs.size, upd H s.heap.objs.size (SetTO X.prog X.w s.heap.objs.size M), I.laid (t' := tk) kp (Nat.le_refl _) (setTO_new R.t0), rfl,
    q _ M (I.hok.fresh (Nat.le_refl _)) R.nd (fun p hp => List.mem_of_mem_take (g.sub p hp)) fun p hp => g.all p (by rw [List.take_length]; exact hp)⟩
/-- len(set) -/
def rLenSet (K : PySem.W.Frag) (P : Program) (w : World) : List V → Hp → VK → Prop := fun xs H Q => ∃ (a : Addr) (M : List (Addr × List Int)), xs = [V.ref a] ∧ H a = some (SetTO P w a M) ∧ (∀ p ∈ M, SqT K H p.1 (p.2.map V.int)) ∧ Q (.int (M.length : Nat)) H
theorem rows_len {P : Program} {w : World} (M : List (Addr × List Int)) : (rowsOf P w M).length = M.length := by
  unfold rowsOf; simp
theorem cr_lenSet : CallR X (.builtin "len") (rLenSet X.K X.prog X.w) := by
  intro pins s σ H xs us Q I r h
  obtain ⟨a, M, rfl, ha, hm, q⟩ := h
  obtain ⟨es, ep, tb, R0⟩ := SetT0.full (show SetT0 X.prog X.w s.heap a M from (I.hok a _ ha).1) fun p hp => I.isT (hm p hp)
  obtain ⟨o, ho, hex, hd⟩ := R0.ob
  rw [Vals.ref1 r]
  have hsz : es.size = M.length := by rw [← Array.length_toList, R0.rows, rows_len]
  have hfew := R0.few
  refine call_len_set ho hex hd R0.fits (by omega) ?_
  exact ⟨.int (M.length : Nat), H, I.tok _, ⟨_, by rw [hsz]⟩, q⟩
end
end SeT
/-! D5: enumerate, zip, sets, sorted, comparisons with the empty, lists of a dict's keys -/
namespace DL
open PySem PySem.Spec PyProof.Rows L2

def enumD : Nat → List Dt → List Dt
  | _, [] => []
  | n, d :: ds => .tup [.int (n : Nat), d] :: enumD (n + 1) ds
theorem enumD_len : ∀ (n : Nat) (ds : List Dt), (enumD n ds).length = ds.length
  | _, [] => rfl
  | n, d :: ds => by rw [enumD, List.length_cons, List.length_cons, enumD_len]
theorem enumD_get : ∀ (n i : Nat) (ds : List Dt), (enumD n ds)[i]? = (ds[i]?).map fun d => .tup [.int ((n + i : Nat) : Int), d]
  | _, _, [] => by simp [enumD]
  | n, 0, d :: ds => rfl
  | n, i + 1, d :: ds => by
    rw [enumD, List.getElem?_cons_succ, List.getElem?_cons_succ, enumD_get, Nat.add_right_comm]; rfl
def zipD (xs ys : List Dt) : List Dt := List.zipWith (fun a b => Dt.tup [a, b]) xs ys

section
variable {X : Hp → Prop} {te ta tb to td ty tv : TE} {tt : TT} {t tr : TA} {δ : Sl} {μ : List MO} {Φ : DK} {P : DE} {x y d : Dt} {K : PySem.W.Frag}

theorem itm_enumT {H : Hp} {α : List Addr} {μ : List MO} {a : Addr} {xs : List V} {ds : List Dt} (R : RM H α μ) (e : H a = some (.tup xs)) (D : DvL H α α xs ds) : Itm (EnT.IteT K a) α H (enumD 0 ds) where
  go := fun i H' α' μ' n R' hi => ⟨xs, xs[i]'(by rw [D.length]; rw [enumD_len] at hi; exact hi), .inl (.inl (n.tups R _ _ e)), by simp⟩
  stop := fun H' α' μ' n R' => ⟨xs, .inl (.inl (n.tups R _ _ e)), by rw [D.length, enumD_len]; exact Nat.le_refl _⟩
  yld := fun i H' α' μ' x H'' d n R' hd ⟨T, y, e1, e2, e3, e4⟩ => by
    subst e1 e3
    have h := e4 xs (.inl (.inl (n.tups R _ _ e)))
    rw [enumD_get] at hd
    cases hds : ds[i]? with
    | none => rw [hds] at hd; cases hd
    | some z =>
      rw [hds] at hd; cases hd
      obtain ⟨v, hv, Dv'⟩ := D.get hds
      rw [hv] at h; cases h
      have e0 : ((0 + i : Nat) : Int) = (i : Nat) := by rw [Nat.zero_add]
      rw [e0]
      exact new_pair R' e2 (.int _) (n.dv R Dv')
theorem itm_enumL {H : Hp} {α : List Addr} {μ : List MO} {a : Addr} {xs : List V} {ds : List Dt} (R : RM H α μ) (e : H a = some (.lst xs)) (na : a ∉ α) (D : DvL H α α xs ds) : Itm (Ite K a) α H (enumD 0 ds) where
  go := fun i H' α' μ' n R' hi => ⟨xs, xs[i]'(by rw [D.length]; rw [enumD_len] at hi; exact hi), .inl (.inl (n.keep _ _ na e)), by simp⟩
  stop := fun H' α' μ' n R' => ⟨xs, .inl (.inl (n.keep _ _ na e)), by rw [D.length, enumD_len]; exact Nat.le_refl _⟩
  yld := fun i H' α' μ' x H'' d n R' hd ⟨T, y, e1, e2, e3, e4⟩ => by
    subst e1 e3
    have h := e4 xs (.inl (.inl (n.keep _ _ na e)))
    rw [enumD_get] at hd
    cases hds : ds[i]? with
    | none => rw [hds] at hd; cases hd
    | some z =>
      rw [hds] at hd; cases hd
      obtain ⟨v, hv, Dv'⟩ := D.get hds
      rw [hv] at h; cases h
      have e0 : ((0 + i : Nat) : Int) = (i : Nat) := by rw [Nat.zero_add]
      rw [e0]
      exact new_pair R' e2 (.int _) (n.dv R Dv')
theorem wI_enumT {Ψ : List Dt → List MO → Prop} (h : wA tr δ μ fun es μ1 => ∃ ds, es = [.tup ds] ∧ Ψ (enumD 0 ds) μ1) : wI (EnT.iEnumT K tr) δ μ Ψ := fun σ H α R Rl q =>
  h σ H α _ Rl fun vs H1 α1 es μ1 n1 R1 D1 ⟨ds, e, k⟩ => by
    subst e
    cases D1 with
    | cons D1 D2 =>
      cases D2
      cases D1 with
      | tup e D => exact ⟨_, _, rfl, .inl (.inl e), q _ H1 α1 μ1 _ n1 R1 (itm_enumT R1 e D) k⟩
theorem wI_enumL {Ψ : List Dt → List MO → Prop} (h : wA tr δ μ fun es μ1 => ∃ ds, es = [.lst ds] ∧ Ψ (enumD 0 ds) μ1) : wI (iEnum K tr) δ μ Ψ := fun σ H α R Rl q =>
  h σ H α _ Rl fun vs H1 α1 es μ1 n1 R1 D1 ⟨ds, e, k⟩ => by
    subst e
    cases D1 with
    | cons D1 D2 =>
      cases D2
      cases D1 with
      | lst e na D => exact ⟨_, _, rfl, .inl (.inl e), q _ H1 α1 μ1 _ n1 R1 (itm_enumL R1 e na D) k⟩
theorem zip_get {xs ys : List Dt} {i : Nat} {d : Dt} (h : (zipD xs ys)[i]? = some d) : ∃ a b, xs[i]? = some a ∧ ys[i]? = some b ∧ d = .tup [a, b] := by
  unfold zipD at h
  rw [List.getElem?_zipWith] at h
  cases hx : xs[i]? with
  | none => rw [hx] at h; cases h
  | some a =>
    cases hy : ys[i]? with
    | none => rw [hx, hy] at h; cases h
    | some b => rw [hx, hy] at h; cases h; exact ⟨a, b, rfl, rfl, rfl⟩
theorem zip_len {xs ys : List Dt} : (zipD xs ys).length = min xs.length ys.length := by unfold zipD; rw [List.length_zipWith]
theorem itm_zipT {H : Hp} {α : List Addr} {μ : List MO} {a b : Addr} {xs ys : List V} {ds es : List Dt} (R : RM H α μ) (e : H a = some (.tup xs)) (D : DvL H α α xs ds) (e' : H b = some (.tup ys)) (D' : DvL H α α ys es) : Itm (RZ.ItzT K a b) α H (zipD ds es) where
  go := fun i H' α' μ' n R' hi => by
    rw [zip_len] at hi
    exact ⟨xs, ys, xs[i]'(by rw [D.length]; omega), ys[i]'(by rw [D'.length]; omega), .inl (.inl (n.tups R _ _ e)), .inl (.inl (n.tups R _ _ e')), by simp, by simp⟩
  stop := fun H' α' μ' n R' => ⟨xs, ys, .inl (.inl (n.tups R _ _ e)), .inl (.inl (n.tups R _ _ e')), by rw [D.length, D'.length, zip_len]; omega⟩
  yld := fun i H' α' μ' x H'' d n R' hd ⟨T, y1, y2, e1, e2, e3, e4, e5⟩ => by
    subst e1 e3
    obtain ⟨d1, d2, h1, h2, ed⟩ := zip_get hd
    subst ed
    obtain ⟨v1, hv1, Dv1⟩ := D.get h1
    obtain ⟨v2, hv2, Dv2⟩ := D'.get h2
    have q1 := e4 xs (.inl (.inl (n.tups R _ _ e)))
    have q2 := e5 ys (.inl (.inl (n.tups R _ _ e')))
    rw [hv1] at q1; cases q1
    rw [hv2] at q2; cases q2
    exact new_pair R' e2 (n.dv R Dv1) (n.dv R Dv2)
theorem itm_zipL {H : Hp} {α : List Addr} {μ : List MO} {a b : Addr} {xs ys : List V} {ds es : List Dt} (R : RM H α μ) (e : H a = some (.lst xs)) (na : a ∉ α) (D : DvL H α α xs ds) (e' : H b = some (.lst ys)) (nb : b ∉ α) (D' : DvL H α α ys es) : Itm (Itz K a b) α H (zipD ds es) where
  go := fun i H' α' μ' n R' hi => by
    rw [zip_len] at hi
    exact ⟨xs, ys, xs[i]'(by rw [D.length]; omega), ys[i]'(by rw [D'.length]; omega), .inl (.inl (n.keep _ _ na e)), .inl (.inl (n.keep _ _ nb e')), by simp, by simp⟩
  stop := fun H' α' μ' n R' => ⟨xs, ys, .inl (.inl (n.keep _ _ na e)), .inl (.inl (n.keep _ _ nb e')), by rw [D.length, D'.length, zip_len]; omega⟩
  yld := fun i H' α' μ' x H'' d n R' hd ⟨T, y1, y2, e1, e2, e3, e4, e5⟩ => by
    subst e1 e3
    obtain ⟨d1, d2, h1, h2, ed⟩ := zip_get hd
    subst ed
    obtain ⟨v1, hv1, Dv1⟩ := D.get h1
    obtain ⟨v2, hv2, Dv2⟩ := D'.get h2
    have q1 := e4 xs (.inl (.inl (n.keep _ _ na e)))
    have q2 := e5 ys (.inl (.inl (n.keep _ _ nb e')))
    rw [hv1] at q1; cases q1
    rw [hv2] at q2; cases q2
    exact new_pair R' e2 (n.dv R Dv1) (n.dv R Dv2)
theorem wI_zip {Ψ : List Dt → List MO → Prop} (h : wA tr δ μ fun es μ1 => ∃ xs ys, (es = [.tup xs, .tup ys] ∨ es = [.lst xs, .lst ys]) ∧ Ψ (zipD xs ys) μ1) : wI (RZ.iZipA K tr) δ μ Ψ := fun σ H α R Rl q =>
  h σ H α _ Rl fun vs H1 α1 es μ1 n1 R1 D1 ⟨xs, ys, e, k⟩ => by
    rcases e with e | e <;> subst e
    · cases D1 with
      | cons D1 D2 =>
        cases D2 with
        | cons D2 D3 =>
          cases D3
          cases D1 with
          | tup e1 k1 =>
            cases D2 with
            | tup e2 k2 => exact ⟨_, _, _, _, rfl, .inr ⟨.inl (.inl e1), .inl (.inl e2), q _ H1 α1 μ1 _ n1 R1 (itm_zipT R1 e1 k1 e2 k2) k⟩⟩
    · cases D1 with
      | cons D1 D2 =>
        cases D2 with
        | cons D2 D3 =>
          cases D3
          cases D1 with
          | lst e1 n1' k1 =>
            cases D2 with
            | lst e2 n2' k2 => exact ⟨_, _, _, _, rfl, .inl ⟨.inl (.inl e1), .inl (.inl e2), q _ H1 α1 μ1 _ n1 R1 (itm_zipL R1 e1 n1' k1 e2 n2' k2) k⟩⟩

/-! ### comparisons with the empty -/
theorem eqvAll_nil (ps : List PyData) : PyData.eqvAll ps [] = ps.isEmpty := by cases ps <;> rfl
theorem PyL.empty {n : Nat} : ∀ {ds : List Dt} {ps : List PyData}, PyL n ds ps → ps.isEmpty = ds.isEmpty
  | _, _, .nil => rfl
  | _, _, .cons _ _ => rfl
theorem shaped_of {n : Nat} {p : PyData} (h : p.canLay0 = true ∧ p.depth ≤ n) (hn : n ≤ 64) : SeqAt.shaped p = true := by
  unfold SeqAt.shaped
  rw [h.1, Bool.true_and]
  exact decide_eq_true (Nat.le_trans h.2 hn)
theorem nil_shaped_l : SeqAt.shaped (.list []) = true := by decide +kernel
theorem nil_shaped_t : SeqAt.shaped (.tuple []) = true := by decide +kernel
theorem dp_list {n : Nat} {H : Hp} {α : List Addr} {v : V} {ds : List Dt} {ps : List PyData} (R : RM H α μ) (D : Dv H α α v x) (hx : lstOf μ x = some ds) (hp : PyL n ds ps) : Dp K H v (.list ps) := by
  obtain ⟨a, xs, rfl, ea, kx⟩ := lst_at R D hx
  exact .lst (.inl (.inl ea)) (PyL.dp hp kx)
theorem wO_eqNil {n : Nat} {ds : List Dt} {ps : List PyData} (hx : lstOf μ x = some ds) (hp : PyL n ds ps) (hn : n ≤ 60) (k : Φ (.bl ds.isEmpty) μ) : wO (rEqD K) x (.lst []) μ Φ := fun H α v w Q R D1 D2 q => by
  refine ⟨.list ps, .list [], dp_list R D1 hx hp, dp_list (n := n) R D2 rfl .nil, shaped_of (n := n + 1) ⟨by simpa only [PyData.canLay0] using hp.shape.1, by simpa only [PyData.depth] using Nat.succ_le_succ hp.shape.2⟩ (by omega), nil_shaped_l, q _ H α (.bl ds.isEmpty) μ .refl R ?_ k⟩
  have e : PyData.eqv (.list ps) (.list []) = ds.isEmpty := by rw [← hp.empty, ← eqvAll_nil ps]; simp only [PyData.eqv]
  rw [e]; exact .bl _
theorem wO_neNil {n : Nat} {ds : List Dt} {ps : List PyData} (hx : lstOf μ x = some ds) (hp : PyL n ds ps) (hn : n ≤ 60) (k : Φ (.bl (!ds.isEmpty)) μ) : wO (rNeD K) x (.lst []) μ Φ := fun H α v w Q R D1 D2 q => by
  refine ⟨.list ps, .list [], dp_list R D1 hx hp, dp_list (n := n) R D2 rfl .nil, shaped_of (n := n + 1) ⟨by simpa only [PyData.canLay0] using hp.shape.1, by simpa only [PyData.depth] using Nat.succ_le_succ hp.shape.2⟩ (by omega), nil_shaped_l, q _ H α (.bl (!ds.isEmpty)) μ .refl R ?_ k⟩
  have e : PyData.eqv (.list ps) (.list []) = ds.isEmpty := by rw [← hp.empty, ← eqvAll_nil ps]; simp only [PyData.eqv]
  rw [e]; exact .bl _
theorem wO_neNilT {n : Nat} {ds : List Dt} {ps : List PyData} (hp : PyL n ds ps) (hn : n ≤ 60) (k : Φ (.bl (!ds.isEmpty)) μ) : wO (rNeD K) (.tup ds) (.tup []) μ Φ := fun H α v w Q R D1 D2 q => by
  refine ⟨.tuple ps, .tuple [], Py.dp (n := n + 1) (.tup hp) D1, Py.dp (n := n + 1) (.tup .nil) D2, shaped_of (n := n + 1) ⟨by simpa only [PyData.canLay0] using hp.shape.1, by simpa only [PyData.depth] using Nat.succ_le_succ hp.shape.2⟩ (by omega), nil_shaped_t, q _ H α (.bl (!ds.isEmpty)) μ .refl R ?_ k⟩
  have e : PyData.eqv (.tuple ps) (.tuple []) = ds.isEmpty := by rw [← hp.empty, ← eqvAll_nil ps]; simp only [PyData.eqv]
  rw [e]; exact .bl _
/-- t not in () -/
def rNinE : R2 := fun x y H Q => ∃ p, y = .ref p ∧ H p = some (.tup []) ∧ Q (.bl true) H
theorem op_ninE {X : Cx} : OpR X (compareOp .NotIn) rNinE := by
  intro pins s σ H x y v u Q I rx ry h
  obtain ⟨p, rfl, hp, q⟩ := h
  cases ry
  obtain ⟨its, r, tp, hz⟩ := I.tuple (.inl (.inl hp))
  cases r
  exact SeqAt.notIn_tupleAt (fun _ => false) tp (fun w hw => by simp at hw) ⟨.bl true, H, I, by simp [L2.RelV], q⟩
theorem wO_ninE (k : Φ (.bl true) μ) : wO rNinE x (.tup []) μ Φ := fun H α v w Q R D1 D2 q => by
  cases D2 with
  | tup e k2 =>
    cases k2
    exact ⟨_, rfl, e, q _ H α _ μ .refl R (.bl true) k⟩
/-- n not in (a, b) of ints -/
theorem wO_ninI {i : Int} {ns : List Int} (k : Φ (.bl (!decide (i ∈ ns))) μ) : wO (rIn K true) (.int i) (.tup (ns.map Dt.int)) μ Φ := fun H α v w Q R D1 D2 q => by
  cases D1
  cases D2 with
  | tup e k2 =>
    have ek := ints_v k2
    subst ek
    refine ⟨_, _, rfl, .inr (.inl (.inl e)), rfl, by simp [flatV], q _ H α (.bl (!decide (i ∈ ns))) μ .refl R ?_ k⟩
    have e : inV (.int i) (ns.map V.int) = decide (i ∈ ns) := by
      unfold inV
      rw [List.any_map]
      rw [Bool.eq_iff_iff]
      simp only [List.any_eq_true, decide_eq_true_eq, Function.comp, eqV, beq_iff_eq]
      exact ⟨fun ⟨x, hx, e⟩ => e ▸ hx, fun h => ⟨i, h, rfl⟩⟩
    rw [if_pos rfl, e]; exact .bl _
/-- tuples of ints by < -/
theorem wO_ltT {ns ms : List Int} {ds es : List Dt} (e1 : ds = ns.map Dt.int) (e2 : es = ms.map Dt.int) (k : Φ (.bl (HT.lexLt ns ms)) μ) : wO (rLtT K) (.tup ds) (.tup es) μ Φ := fun H α v w Q R D1 D2 q => by
  subst e1 e2
  cases D1 with
  | tup a1 k1 =>
    cases D2 with
    | tup a2 k2 =>
      have q1 := ints_v k1
      have q2 := ints_v k2
      subst q1 q2
      exact ⟨_, _, ns, ms, rfl, rfl, .inl (.inl a1), .inl (.inl a2), q _ H α _ μ .refl R (.bl _) k⟩
theorem DvL.rep {H : Hp} {av rg : List Addr} {vs : List V} {ds : List Dt} (h : DvL H av rg vs ds) : ∀ n : Nat, DvL H av rg (List.replicate n vs).flatten (List.replicate n ds).flatten
  | 0 => .nil
  | n + 1 => by rw [List.replicate_succ, List.replicate_succ, List.flatten_cons, List.flatten_cons]; exact h.append (h.rep n)
theorem wO_rep {n : Nat} {i : Int} {ds : List Dt} (hx : lstOf μ x = some ds) (hi : i = (n : Nat)) (hb : n ≤ 1000) (hl : ds.length ≤ 100) (k : Φ (.lst (List.replicate n ds).flatten) μ) : wO rRep x (.int i) μ Φ := fun H α v w Q R D1 D2 q => by
  obtain ⟨a, xs, rfl, ea, kx⟩ := lst_at R D1 hx
  cases D2
  subst hi
  refine ⟨a, _, xs, rfl, rfl, ea, by omega, by omega, ?_, fun p hp => q _ _ α _ μ (.new hp) (R.new hp) (Dv.lst_new R hp ?_) k⟩
  · rw [kx.length, Int.toNat_natCast]
    refine size_ok ?_
    have := Nat.mul_le_mul hl hb
    omega
  · rw [Int.toNat_natCast]
    exact kx.rep n
/-- x or y of lists, by truth -/
theorem wE_orT (h : wE ta δ μ fun x μ1 => ∃ ds, lstOf μ1 x = some ds ∧ (ds.isEmpty = false → Φ x μ1) ∧ (ds.isEmpty = true → wE tb δ μ1 Φ)) : wE (tOrT K ta tb) δ μ Φ := fun σ H α Q R q =>
  h σ H α _ R fun v H1 α1 x μ1 n1 R1 D1 ⟨ds, hx, h1, h2⟩ => by
    obtain ⟨a, xs, rfl, ea, kx⟩ := lst_at R1 D1 hx
    refine ⟨!xs.isEmpty, .inl ⟨xs, .inl (.inl ea), rfl⟩, ?_⟩
    have e : xs.isEmpty = ds.isEmpty := by
      have := kx.length
      cases xs <;> cases ds <;> simp_all
    rw [e]
    cases hb : ds.isEmpty with
    | true => exact h2 hb σ H1 α1 Q (R.nx n1 R1) fun u H2 α2 d μ2 n2 R2 D2 k => q u H2 α2 d μ2 (n1.trans n2) R2 D2 k
    | false => exact q _ H1 α1 x μ1 n1 R1 D1 (h1 hb)
end
end DL
/-! D6: sorted pairs, sets of pairs, a dict's keys -/
namespace DL
open PySem PySem.Spec PyProof.Rows L2

abbrev pairD (p : Int × Int) : Dt := .tup [.int p.1, .int p.2]
/-- the pair that a value is -/
def pairV (H : Hp) (v : V) : Int × Int := match v with
  | .ref t => match H t with
    | some (.tup [.int a, .int b]) => (a, b)
    | _ => (0, 0)
  | _ => (0, 0)
theorem pair_at {H : Hp} {av rg : List Addr} {v : V} {p : Int × Int} (D : Dv H av rg v (pairD p)) : ∃ t, v = .ref t ∧ H t = some (.tup [.int p.1, .int p.2]) ∧ pairV H v = p := by
  cases D with
  | @tup a xs _ e k =>
    cases k with
    | cons k1 k2 =>
      cases k2 with
      | cons k2 k3 =>
        cases k3
        cases k1
        cases k2
        exact ⟨a, rfl, e, by simp [pairV, e]⟩
theorem pairs_at {H : Hp} {av rg : List Addr} : ∀ {vs : List V} {ps : List (Int × Int)}, DvL H av rg vs (ps.map pairD) → vs.map (pairV H) = ps ∧ ∀ v ∈ vs, ∃ t, v = .ref t ∧ H t = some (.tup [.int (pairV H v).1, .int (pairV H v).2])
  | _, [], .nil => ⟨rfl, fun _ h => by cases h⟩
  | _, p :: ps, .cons h t => by
    obtain ⟨tt, e1, e2, e3⟩ := pair_at h
    obtain ⟨i1, i2⟩ := pairs_at t
    refine ⟨by rw [List.map_cons, e3, i1], fun v hv => ?_⟩
    rcases List.mem_cons.mp hv with z | z
    · subst z; exact ⟨tt, e1, by rw [e3]; exact e2⟩
    · exact i2 v z
theorem pairs_dv {H : Hp} {av rg : List Addr} : ∀ {vs : List V}, (∀ v ∈ vs, ∃ t, v = .ref t ∧ H t = some (.tup [.int (pairV H v).1, .int (pairV H v).2])) → DvL H av rg vs ((vs.map (pairV H)).map pairD)
  | [], _ => .nil
  | v :: vs, h => by
    obtain ⟨t, e1, e2⟩ := h v List.mem_cons_self
    refine .cons ?_ (pairs_dv fun u hu => h u (List.mem_cons_of_mem _ hu))
    rw [e1] at e2 ⊢
    exact .tup e2 (.cons (.int _) (.cons (.int _) .nil))

section
variable {X : Hp → Prop} {te ta tb to td ty tv : TE} {tt : TT} {t tr : TA} {δ : Sl} {μ : List MO} {Φ : DK} {P : DE} {x y d : Dt} {K : PySem.W.Frag} {Pr : Program} {w : World}
theorem wC_sortedP {ps : List (Int × Int)} (hx : lstOf μ x = some (ps.map pairD)) (k : ∀ qs : List (Int × Int), qs.Perm ps → qs.Pairwise (fun a b => SrtO.lexB b a = false) → Φ (.lst (qs.map pairD)) μ) : wC (rSortedPO K) [x] μ Φ := fun H α vs Q R D q => by
  cases D with
  | cons D1 D2 =>
    cases D2
    obtain ⟨a, xs, rfl, ea, kx⟩ := lst_at R D1 hx
    obtain ⟨e1, e2⟩ := pairs_at kx
    refine ⟨a, xs, pairV H, rfl, .inl (.inl ea), e2, fun ys p hs hst hp => ?_⟩
    have hm : ∀ v ∈ ys, ∃ t, v = .ref t ∧ H t = some (.tup [.int (pairV H v).1, .int (pairV H v).2]) := fun v hv => e2 v (hst.perm.mem_iff.mp hv)
    refine q _ _ α _ μ (.new hp) (R.new hp) (Dv.lst_new R hp (pairs_dv hm)) (k _ ?_ ?_)
    · rw [← e1]; exact hst.perm.map _
    · rw [List.pairwise_map]; exact hs
theorem refs_of {H : Hp} : ∀ {vs : List V}, (∀ v ∈ vs, ∃ t, v = .ref t ∧ H t = some (.tup [.int (pairV H v).1, .int (pairV H v).2])) → ∃ ks : List (Addr × List Int), vs = ks.map (fun p => V.ref p.1) ∧ (∀ p ∈ ks, H p.1 = some (.tup (p.2.map V.int))) ∧ ks.map (·.2) = (vs.map (pairV H)).map fun p => [p.1, p.2]
  | [], _ => ⟨[], rfl, (fun _ h => by cases h), rfl⟩
  | v :: vs, h => by
    obtain ⟨t, e1, e2⟩ := h v List.mem_cons_self
    obtain ⟨ks, i1, i2, i3⟩ := refs_of fun u hu => h u (List.mem_cons_of_mem _ hu)
    refine ⟨(t, [(pairV H v).1, (pairV H v).2]) :: ks, by rw [e1, i1]; rfl, fun p hp => ?_, by rw [List.map_cons, List.map_cons, List.map_cons, i3]⟩
    rcases List.mem_cons.mp hp with z | z
    · subst z; exact e2
    · exact i2 p z
theorem nodup_ls {ps : List (Int × Int)} (h : ps.Nodup) : (ps.map fun p => [p.1, p.2]).Nodup := by
  refine List.Pairwise.map _ (fun a b hab e => hab ?_) h
  simp only [List.cons.injEq, and_true] at e
  exact Prod.ext e.1 e.2
/-- len(set(t)), t a tuple of unlike pairs -/
theorem wE_lenSet (h : wE te δ μ fun x μ1 => ∃ ps : List (Int × Int), x = .tup (ps.map pairD) ∧ ps.length < 64 ∧ ps.Nodup ∧ Φ (.int (ps.length : Nat)) μ1) : wE (tCB (SeT.rLenSet K Pr w) (tCons (tCB (SeT.rSetT K Pr w) (tCons te tNil)) tNil)) δ μ Φ := fun σ H α Q R q =>
  h σ H α _ R fun v H1 α1 x μ1 n1 R1 D1 ⟨ps, e, hl, hn, k⟩ => by
    subst e
    cases D1 with
    | @tup a xs _ ea kx =>
      obtain ⟨e1, e2⟩ := pairs_at kx
      obtain ⟨ks, i1, i2, i3⟩ := refs_of e2
      rw [e1] at i3
      have hkl : ks.length = ps.length := by have := congrArg List.length i3; simpa using this
      refine ⟨a, ks, rfl, by rw [← i1]; exact .inl (.inl ea), fun p hp => .inl (.inl (i2 p hp)), by rw [hkl]; exact hl, fun b M hb hMn hM1 hM2 => ?_⟩
      have n2 : Nx α1 H1 α1 (upd H1 b (SetTO Pr w b M)) := .new hb
      refine ⟨b, M, rfl, upd_same, fun p hp => .inl (.inl (n2.tups R1 _ _ (i2 p (hM1 p hp)))), ?_⟩
      have hperm : (M.map (·.2)).Perm (ks.map (·.2)) := by
        refine (List.perm_ext_iff_of_nodup hMn (by rw [i3]; exact nodup_ls hn)).mpr fun z => ⟨fun hz => ?_, fun hz => ?_⟩
        · obtain ⟨p, hp, ep⟩ := List.mem_map.mp hz
          exact List.mem_map.mpr ⟨p, hM1 p hp, ep⟩
        · obtain ⟨p, hp, ep⟩ := List.mem_map.mp hz
          rw [← ep]; exact hM2 p hp
      have hlen : M.length = ps.length := by have := hperm.length_eq; simpa [hkl] using this
      rw [hlen]
      exact q _ _ α1 _ μ1 (n1.trans n2) (R1.new hb) (.int _) k
/-- sorted(set(l)), l a list of unlike pairs of small numbers -/
theorem wE_sortedSet (h : wE te δ μ fun x μ1 => ∃ ps : List (Int × Int), lstOf μ1 x = some (ps.map pairD) ∧ ps.length < 64 ∧ ps.Nodup ∧ (∀ p ∈ ps, (0 ≤ p.1 ∧ p.1 < 64) ∧ 0 ≤ p.2 ∧ p.2 < 64) ∧ ∀ qs : List (Int × Int), qs.Perm ps → Φ (.lst (qs.map pairD)) μ1) :
    wE (tCB (rSortedT K Pr w) (tCons (tCB (rSetOfT K Pr w) (tCons te tNil)) tNil)) δ μ Φ := fun σ H α Q R q =>
  h σ H α _ R fun v H1 α1 x μ1 n1 R1 D1 ⟨ps, hx, hl, hn, hb, k⟩ => by
    obtain ⟨a, xs, rfl, ea, kx⟩ := lst_at R1 D1 hx
    obtain ⟨e1, e2⟩ := pairs_at kx
    obtain ⟨ks, i1, i2, i3⟩ := refs_of e2
    rw [e1] at i3
    have hkl : ks.length = ps.length := by have := congrArg List.length i3; simpa using this
    refine ⟨a, ks, rfl, by rw [← i1]; exact .inl (.inl ea), fun p hp => .inl (.inl (i2 p hp)), by rw [hkl]; exact hl, fun b L hbn hL1 hL2 => ?_⟩
    have n2 : Nx α1 H1 α1 (upd H1 b (SetTO Pr w b L)) := .new hbn
    have two : ∀ p ∈ ks, ∃ z : Int × Int, z ∈ ps ∧ p.2 = [z.1, z.2] := fun p hp => by
      have : p.2 ∈ ks.map (·.2) := List.mem_map.mpr ⟨p, hp, rfl⟩
      rw [i3] at this
      obtain ⟨z, hz, ez⟩ := List.mem_map.mp this
      exact ⟨z, hz, ez.symm⟩
    refine ⟨b, L, 2, 64, rfl, upd_same, fun p hp => .inl (.inl (n2.tups R1 _ _ (i2 p (hL1 p hp)))), by decide, fun p hp => ?_, fun L' p hLp hLn hLl _ hp => ?_⟩
    · obtain ⟨z, hz, ez⟩ := two p (hL1 p hp)
      obtain ⟨⟨b1, b2⟩, b3, b4⟩ := hb z hz
      rw [ez]
      refine ⟨rfl, fun m hm => ?_⟩
      rcases List.mem_cons.mp hm with e | hm
      · rw [e]; exact ⟨b1, b2⟩
      · rw [List.mem_singleton.mp hm]; exact ⟨b3, b4⟩
    · have R2 : RM (upd H1 b (SetTO Pr w b L)) α1 μ1 := R1.new hbn
      have hmem : ∀ p ∈ L', p ∈ ks := fun p hp => hL1 p (hLp.mem_iff.mp hp)
      have n3 : Nx α1 H1 α1 (upd (upd H1 b (SetTO Pr w b L)) p (.lst (L'.map fun q => V.ref q.1))) := n2.trans (.new hp)
      have hperm : (L'.map (·.2)).Perm (ks.map (·.2)) := by
        refine (List.perm_ext_iff_of_nodup hLn (by rw [i3]; exact nodup_ls hn)).mpr fun z => ⟨fun hz => ?_, fun hz => ?_⟩
        · obtain ⟨p, hp, ep⟩ := List.mem_map.mp hz
          exact List.mem_map.mpr ⟨p, hmem p hp, ep⟩
        · obtain ⟨p, hp, ep⟩ := List.mem_map.mp hz
          rw [← ep]
          obtain ⟨p2, hp2, ep2⟩ := List.mem_map.mp (hL2 p hp)
          exact List.mem_map.mpr ⟨p2, hLp.mem_iff.mpr hp2, ep2⟩
      have key : ∀ (l : List (Addr × List Int)), (∀ p ∈ l, p ∈ ks) → ∃ qs : List (Int × Int), l.map (·.2) = qs.map (fun p => [p.1, p.2]) ∧ DvL H1 α1 α1 (l.map fun q => V.ref q.1) (qs.map pairD) := fun l => by
        induction l with
        | nil => intro _; exact ⟨[], rfl, .nil⟩
        | cons p l ih =>
          intro hl2
          obtain ⟨qs, j1, j2⟩ := ih fun u hu => hl2 u (List.mem_cons_of_mem _ hu)
          obtain ⟨z, hz, ez⟩ := two p (hl2 p List.mem_cons_self)
          refine ⟨z :: qs, by rw [List.map_cons, List.map_cons, j1, ez], .cons (.tup (i2 p (hl2 p List.mem_cons_self)) ?_) j2⟩
          rw [ez]; exact .cons (.int _) (.cons (.int _) .nil)
      obtain ⟨qs, j1, j2⟩ := key L' hmem
      have hq : qs.Perm ps := by
        have := hperm
        rw [j1, i3] at this
        have h2 := this.map (fun l : List Int => (l.headD 0, (l.tail).headD 0))
        rw [List.map_map, List.map_map] at h2
        have id1 : ((fun l : List Int => (l.headD 0, (l.tail).headD 0)) ∘ fun p : Int × Int => [p.1, p.2]) = id := by funext p; rfl
        rw [id1, List.map_id, List.map_id] at h2
        exact h2
      exact q _ _ α1 _ μ1 (n1.trans n3) (R2.new hp) (.lst upd_same (R2.fresh hp) (n3.dvL R1 j2)) (k qs hq)
/-- list(d), len(d) -/
theorem dct_keys {H : Hp} {av rg : List Addr} : ∀ {ws : List (List Key × V)} {kvs : List (List Key × Dt)} {bs : List Addr}, KvL H av ws kvs → IsKeys H ws bs → DvL H av rg (bs.map V.ref) (kvs.map fun kv => Dt.tup (kv.1.map kD))
  | _, _, _, .nil, .nil => .nil
  | _, _, _, .cons (k := k) h t, .cons e r => by
    refine .cons (.tup e ?_) (dct_keys t r)
    clear e r h t
    induction k with
    | nil => exact .nil
    | cons a k ih =>
      refine .cons ?_ ih
      cases a with
      | inl i => exact .int i
      | inr s => exact .str s
theorem wC_listD {kvs : List (List Key × Dt)} (hx : dctOf μ x = some kvs) (k : Φ (.lst (kvs.map fun kv => .tup (kv.1.map kD))) μ) : wC (fun xs H Q => ∃ d kvs, xs = [V.ref d] ∧ L2.Rd H d (.dT kvs) ∧ ∀ p bs, H p = none → IsKeys H kvs bs → Q (.ref p) (upd H p (.lst (bs.map V.ref)))) [x] μ Φ := fun H α vs Q R D q => by
  cases D with
  | cons D1 D2 =>
    cases D2
    obtain ⟨a, ws, rfl, rd, kw⟩ := dct_at R D1 hx
    exact ⟨a, ws, rfl, rd, fun p bs hp hk => q _ _ α _ μ (.new hp) (R.new hp) (Dv.lst_new R hp (dct_keys kw hk)) k⟩
theorem wC_lenD {j : Nat} {kvs : List (List Key × Dt)} (hm : μ[j]? = some (.dct kvs)) (k : Φ (.int (kvs.length : Nat)) μ) : wC rLenT [.reg j] μ Φ := fun H α vs Q R D q => by
  cases D with
  | cons D1 D2 =>
    cases D2
    cases D1 with
    | @reg a _ ea =>
      obtain ⟨ws, ew, kw⟩ := R.ok j a _ ea hm
      exact ⟨a, ws, rfl, ew, by rw [kw.length]; exact q _ H α _ μ .refl R (.int _) k⟩
end
end DL
/-! D7: a def of the text as its callers see it; a list or a tuple walked; contracts -/
namespace DL
open PySem PySem.Spec PyProof.Rows L2

/-- what the top has left of a def -/
structure HasFn (K : PySem.W.Frag) (mg : Str → Option Value) (x : Str) (st : Stmt) (ps : List Str) : Prop where
  ex : ∃ f fd, Fun K x x st f fd ∧ mg x = some (.ref f) ∧ Binds K fd ps []
/-- a def, by its promise -/
structure Cal (P : Program) (w : World) (K : PySem.W.Frag) (mg : Str → Option Value) (base : Heap) (k : Nat) (x : Str) (ps : List Str) (sp : Sp) : Prop where
  ex : ∃ f fd, FnOk P w K mg base CX0 k f fd ps sp ∧ mg x = some (.ref f) ∧ PySem.W.keepIn K (.ref f) = true ∧ Binds K fd ps [] ∧ ∃ oc od osl, K.lookup f = some ⟨oc, od, .func fd, osl⟩
section
variable {X : Cx} {k : Nat} {x : Str} {ps : List Str} {sp : Sp} {p pos : Pos} {e : Expr} {es : List Expr} {t : TA}
theorem pe_cal (c : Cal X.prog X.w X.K X.mg X.base k x ps sp) (hr : Room k X.A) (hg : Gl X x) (ha : PA X (e :: es) t) (hdb : (x == ("__debug__" : Str)) = false := by decide)
    (he : starEach (e :: es) X.env = (false, eval e X.env) :: starEach es X.env := by rfl) (hpl : (backTo pos (starEach es X.env)).any (·.1) = false := by rfl) : PE X (.Call (.Name x p) (e :: es) [] pos) (tCall sp [] E0 t) := by
  obtain ⟨f, fd, F, hm, hk, hb, _⟩ := c.ex
  exact pe_call F hr hg hm hk hb .nil pass0 ha hdb he hpl
theorem pe_cal0 (c : Cal X.prog X.w X.K X.mg X.base k x ps sp) (hr : Room k X.A) (hg : Gl X x) (hdb : (x == ("__debug__" : Str)) = false := by decide) : PE X (.Call (.Name x p) [] [] pos) (tCall sp [] E0 tNil) := by
  obtain ⟨f, fd, F, hm, hk, hb, _⟩ := c.ex
  exact pe_call0 F hr hg hm hk hb .nil pass0 hdb
end
section
variable {P : Program} {w : World} {K : PySem.W.Frag} {mg : Str → Option Value} {base : Heap} {cU : Addr}
theorem fnC {x : Str} {st : Stmt} {N ps : List Str} (k : Nat) {C : Con} (hx : HasFn K mg x st ps) (S : FnScope N ps (defScope st)) (hl : ∀ ds μ Φ Ψ, C ds μ Φ Ψ → ds.length = ps.length)
    (hb : ∀ (f : Addr) (cdv : Value) (A : Around) (outer : List Env) (s : Shared) (H : Hp) (E : XK), Room k (A.deeper (envOfC x (defScope st) s.heap.objs.size f cdv)) → ∃ t, PSs (cxOf CX0 P w K mg base N x (defScope st) f cdv A outer s H E).nox (defBody st) t ∧
      ∀ ds μ Φ Ψ, C ds μ Φ Ψ → wS (fun _ => False) t (startD N.length ds) μ { nx := fun _ μ' => Ret μ.length Φ .non μ', rt := Ret μ.length Φ }) : Cal P w K mg base (k + 1) x ps (spD cU C) := by
  obtain ⟨f, fd, F, hm, hbd⟩ := hx.ex
  refine ⟨f, fd, fnD F S hl (hb f), hm, F.kp, hbd, ?_⟩
  obtain ⟨oc, od, _, _, _, _, _, _, osl, _, lk, _⟩ := F.ex
  exact ⟨oc, od, osl, lk⟩
theorem Cal.mono {j k : Nat} {x : Str} {ps : List Str} {sp : Sp} (c : Cal P w K mg base j x ps sp) (h : j ≤ k) : Cal P w K mg base k x ps sp := by
  obtain ⟨f, fd, F, r⟩ := c.ex
  exact ⟨f, fd, F.mono h, r⟩
end
/-- contracts that touch nothing: the answer by the arguments -/
def PC (R : List Dt → Dt → Prop) : Con := fun ds μ Φ _ => ∃ r, R ds r ∧ Φ r μ
theorem Ret.same {n : Nat} {Φ : DK} {d : Dt} {μ : List MO} (k : Φ d μ) : Ret n Φ d μ := .inl k
theorem Ret.cut {n : Nat} {Φ : DK} {d : Dt} {μ : List MO} (p : Pu d) (k : Φ d (μ.take n)) : Ret n Φ d μ := .inr (.inl ⟨p, k⟩)
theorem Ret.frz {n j : Nat} {ds : List Dt} {Φ : DK} {μ : List MO} (h : n ≤ j) (m : μ[j]? = some (.lst ds)) (k : Φ (.lst ds) (μ.take n)) : Ret n Φ (.reg j) μ := .inr (.inr ⟨j, ds, rfl, h, m, k⟩)

/-! ### a list or a tuple walked -/
section
variable {X : Cx} {tg : Expr} {te : TE} {δ : Sl} {μ : List MO} {K : PySem.W.Frag}
def iSeq (K : PySem.W.Frag) (tl : TE) : TI := fun σ H R => tl σ H fun x H1 => ∃ a, x = .ref a ∧ (((∃ xs, SqT K H1 a xs) ∧ R (Itt K a) H1) ∨ ((∃ xs, SqL K H1 a xs) ∧ R (Itl K a) H1))
theorem pi_seq {l : Expr} {tl : TE} (hl : PE X l tl) : PI X tg l (iSeq X.K tl) := by
  refine ⟨fun pins s σ H R I h => ?_⟩
  refine thn (hl.run pins s σ H _ I h) fun v s1 ⟨x, H1, I1, r1, q1⟩ => ?_
  obtain ⟨a, e, q⟩ := q1
  subst e
  cases r1
  rcases q with ⟨⟨xs, hq⟩, q⟩ | ⟨⟨xs, hq⟩, q⟩
  · obtain ⟨its, rv, p, hz⟩ := I1.tuple hq
    refine wpAny_pyIter_tuple (show s1.heap.IsTuple a its.toArray from p) ?_
    refine ⟨s1.heap.objs.size, [s1.heap.objs.size], _, _, H1, rfl, I1.kept (t' := s1.toks) fun b o e => Heap.get?_push_of_some _ e, turn_tuple a _, ⟨_, Heap.get?_push_size _ rfl, rfl, rfl⟩, fun b hb => ?_, q⟩
    rw [List.mem_singleton.mp hb]
    exact I1.fpOk (Nat.le_refl _) (I1.hok.fresh (Nat.le_refl _))
  · obtain ⟨its, rv, p, hz⟩ := I1.list hq
    refine wpAny_pyIter_list p.isList ?_
    refine ⟨s1.heap.objs.size, [s1.heap.objs.size], _, _, H1, rfl, I1.kept (t' := s1.toks) fun b o e => Heap.get?_push_of_some _ e, turn_list a _, ⟨_, Heap.get?_push_size _ rfl, rfl, rfl⟩, fun b hb => ?_, q⟩
    rw [List.mem_singleton.mp hb]
    exact I1.fpOk (Nat.le_refl _) (I1.hok.fresh (Nat.le_refl _))
theorem wI_seq {Ψ : List Dt → List MO → Prop} (h : wE te δ μ fun d μ1 => ∃ ds, (d = .tup ds ∨ d = .lst ds) ∧ Ψ ds μ1) : wI (iSeq K te) δ μ Ψ := fun σ H α R Rl q =>
  h σ H α _ Rl fun v H1 α1 d μ1 n1 R1 D1 ⟨ds, e, k⟩ => by
    rcases e with e | e <;> subst e
    · cases D1 with
      | tup e D => exact ⟨_, rfl, .inl ⟨⟨_, .inl (.inl e)⟩, q _ H1 α1 μ1 ds n1 R1 (itm_tup R1 e D) k⟩⟩
    · cases D1 with
      | lst e na D => exact ⟨_, rfl, .inr ⟨⟨_, .inl (.inl e)⟩, q _ H1 α1 μ1 ds n1 R1 (itm_lst R1 e na D) k⟩⟩
end

/-! ### the rules with the written part named -/
section
variable {X : Cx} {K : PySem.W.Frag} {Pr : Program} {w : World}
theorem ix_listK (h : X.K = K := by rfl) : IxR X (rIxL K) := by cases h; exact ix_list
theorem ix_tupK (h : X.K = K := by rfl) : IxR X (rIxT K) := by cases h; exact ix_tup
theorem sl_listK (h : X.K = K := by rfl) : SlR X (rSlL K) := by cases h; exact sl_list
theorem sl_tupK (h : X.K = K := by rfl) : SlR X (rSlA K) := by cases h; exact sl_tupA
theorem lenK (h : X.K = K := by rfl) : CallR X (.builtin "len") (fun xs H Q => ∃ p ys, xs = [.ref p] ∧ (SqL K H p ys ∨ SqT K H p ys) ∧ Q (.int ys.length) H) := by cases h; exact call_len_seq
theorem tupleK (h : X.K = K := by rfl) : CallR X (.type "tuple") (fun xs H Q => ∃ p ys, xs = [.ref p] ∧ ((SqL K H p ys ∧ ∀ l, H l = none → Q (.ref l) (upd H l (.tup ys))) ∨ (SqT K H p ys ∧ Q (.ref p) H))) := by cases h; exact call_tuple_of
theorem listK (h : X.K = K := by rfl) : CallR X (.type "list") (fun xs H Q => ∃ p ys, xs = [.ref p] ∧ (SqL K H p ys ∨ SqT K H p ys) ∧ ∀ l, H l = none → Q (.ref l) (upd H l (.lst ys))) := by cases h; exact call_list_of
theorem sumK (hc : X.calm = true) (h : X.K = K := by rfl) : CallR X (.builtin "sum") (rSum K) := by cases h; exact cr_sum hc
theorem allK (hc : X.calm = true) (h : X.K = K := by rfl) : CallR X (.builtin "all") (rAll K) := by cases h; exact cr_all hc
theorem isiK (h : X.K = K := by rfl) : CallR X (.builtin "isinstance") (rIsi K) := by cases h; exact call_isi
theorem isi2K (h : X.K = K := by rfl) : CallR X (.builtin "isinstance") (rIsiT K) := by cases h; exact call_isiT
theorem lenSetK (h : X.K = K := by rfl) (h1 : X.prog = Pr := by rfl) (h2 : X.w = w := by rfl) : CallR X (.builtin "len") (SeT.rLenSet K Pr w) := by cases h; cases h1; cases h2; exact SeT.cr_lenSet
theorem setTK (hc : X.calm = true) (hu : X.A.units + 64 < cLine) (h : X.K = K := by rfl) (h1 : X.prog = Pr := by rfl) (h2 : X.w = w := by rfl) : CallR X (.type "set") (SeT.rSetT K Pr w) := by cases h; cases h1; cases h2; exact SeT.cr_setT hc hu
theorem setLK (hc : X.calm = true) (hu : X.A.units + 64 < cLine) (h : X.K = K := by rfl) (h1 : X.prog = Pr := by rfl) (h2 : X.w = w := by rfl) : CallR X (.type "set") (rSetOfT K Pr w) := by cases h; cases h1; cases h2; exact cr_setOfT hc hu
theorem sortSetK (hc : X.calm = true) (h : X.K = K := by rfl) (h1 : X.prog = Pr := by rfl) (h2 : X.w = w := by rfl) : CallR X (.builtin "sorted") (rSortedT K Pr w) := by cases h; cases h1; cases h2; exact cr_sortedT hc
theorem sortPK (h : X.K = K := by rfl) : CallR X (.builtin "sorted") (rSortedPO K) := by cases h; exact cr_sortedPO
theorem catTK (h : X.K = K := by rfl) : OpR X (binaryOp .Add) (rCatA K) := by cases h; exact op_catA
theorem ltTK (hu : X.A.units < cLine) (h : X.K = K := by rfl) : OpR X (compareOp .Lt) (rLtT K) := by cases h; exact op_ltT hu
theorem eqDK (hu : X.A.units + 64 < cLine) (h : X.K = K := by rfl) : OpR X (compareOp .Eq) (rEqD K) := by cases h; exact op_eqD hu
theorem neDK (hu : X.A.units + 64 < cLine) (h : X.K = K := by rfl) : OpR X (compareOp .NotEq) (rNeD K) := by cases h; exact op_neD hu
theorem ninK (h : X.K = K := by rfl) : OpR X (compareOp .NotIn) (rIn K true) := by cases h; exact op_notIn_seq
variable {tg e : Expr} {es : List Expr} {te to : TE} {t tr : TA} {x1 p pos tpos apos cpos : Pos} {elts : List Expr} {kk n : Nat} {gs : TGs} {name : Str} {T id : String} {r : V → List V → Hp → VK → Prop}
theorem pi_tupK (he : PE X e te) (h : X.K = K := by rfl) : PI X tg e (iTup K te) := by cases h; exact pi_tup he
theorem pi_listK (he : PE X e te) (h : X.K = K := by rfl) : PI X tg e (iList K te) := by cases h; exact pi_list he
theorem pi_seqK (he : PE X e te) (h : X.K = K := by rfl) : PI X tg e (iSeq K te) := by cases h; exact pi_seq he
theorem pi_enumK (hg : Gl X "enumerate") (hm : X.mg "enumerate" = none) (ha : PA X [e] tr) (hs : starEach [e] X.env = [(false, eval e X.env)] := by rfl) (h : X.K = K := by rfl) : PI X (.Tuple elts kk tpos) (.Call (.Name "enumerate" p) [e] [] pos) (iEnum K tr) := by cases h; exact pi_enum hg hm ha hs
theorem pi_enumTK (hg : Gl X "enumerate") (hm : X.mg "enumerate" = none) (ha : PA X [e] tr) (hs : starEach [e] X.env = [(false, eval e X.env)] := by rfl) (h : X.K = K := by rfl) : PI X (.Tuple elts kk tpos) (.Call (.Name "enumerate" p) [e] [] pos) (EnT.iEnumT K tr) := by cases h; exact EnT.pi_enumT hg hm ha hs
theorem pi_zipK {e2 : Expr} (hg : Gl X "zip") (hm : X.mg "zip" = none) (ha : PA X [e, e2] tr) (hs : starEach [e, e2] X.env = (false, eval e X.env) :: starEach [e2] X.env := by rfl) (hpl : (backTo pos (starEach [e2] X.env)).any (·.1) = false := by rfl) (h : X.K = K := by rfl) :
    PI X (.Tuple elts kk tpos) (.Call (.Name "zip" p) [e, e2] [] pos) (RZ.iZipA K tr) := by cases h; exact RZ.pi_zipA hg hm ha hs hpl
theorem pg_tupK {k : Nat} (hc : X.calm = true) (hs : PGs X es gs) (hn : (assignEach es X.env).length = n := by rfl) (hst : (assignEach es X.env).findIdx? (·.1) = none := by rfl) (h : X.K = K := by rfl) : PG X (.Tuple es k pos) (gTup K n gs) := by cases h; exact pg_tup hc hs hn hst
theorem pe_bmK (pa : PlainAttrs T) (slot : Slot T name id) (hty : typeOf (.builtin id) = pure (.type "method_descriptor")) (hm : MtR X id r) (ho : PE X e to) {e2 : Expr} (ha : PA X (e2 :: es) t)
    (hbase : attributeBase e name X.env (eval e X.env) = eval e X.env := by rfl)
    (hfew : ((backTo cpos (starEach (e2 :: es) X.env)).all (fun x => !x.1) && (backToKw cpos (keywordEach [] X.env)).all (fun x => x.1.isSome)
      && decide ((e2 :: es).length + ([] : List Keyword).length + (if ([] : List Keyword).isEmpty then 0 else 1) < 30)) = true := by rfl)
    (hline : (apos.endLine == cpos.line) = true := by rfl) (hs : starEach (e2 :: es) X.env = (false, eval e2 X.env) :: starEach es X.env := by rfl) (hpl : (backTo cpos (starEach es X.env)).any (·.1) = false := by rfl) (h : X.K = K := by rfl) :
    PE X (.Call (.Attribute e name apos) (e2 :: es) [] cpos) (tBM K T r to t) := by cases h; exact pe_bm pa slot hty hm ho ha hbase hfew hline hs hpl
theorem pe_bm0K (pa : PlainAttrs T) (slot : Slot T name id) (hty : typeOf (.builtin id) = pure (.type "method_descriptor")) (hm : MtR X id r) (ho : PE X e to)
    (hbase : attributeBase e name X.env (eval e X.env) = eval e X.env := by rfl) (hline : (apos.endLine == cpos.line) = true := by rfl) (h : X.K = K := by rfl) : PE X (.Call (.Attribute e name apos) [] [] cpos) (tBM0 K T r to) := by cases h; exact pe_bm0 pa slot hty hm ho hbase hline
theorem pe_orTK {a b : Expr} {rest : List Expr} {ta tb : TE} (ha : PE X a ta) (hb : PE X (.BoolOp .Or (b :: rest) pos) tb) (h : X.K = K := by rfl) : PE X (.BoolOp .Or (a :: b :: rest) pos) (tOrT K ta tb) := by cases h; exact pe_orT ha hb
theorem pe_revK {k : Nat} {p1 p2 p3 : Pos} (he : PE X e te) (h : X.K = K := by rfl) : PE X (.Subscript e (.Slice none none (some (.UnaryOp .USub (.Constant (.int 1) k p1) p2)) p3) pos) (tRevL K te) := by cases h; exact pe_revL he
end
/-- built-ins that the text does not hide -/
structure Bt (mg : Str → Option Value) : Prop where
  isinstance_ : mg "isinstance" = none
  int_ : mg "int" = none
  bool_ : mg "bool" = none
  tuple_ : mg "tuple" = none
  list_ : mg "list" = none
  str_ : mg "str" = none
  all_ : mg "all" = none
  len_ : mg "len" = none
  range_ : mg "range" = none
  sorted_ : mg "sorted" = none
  set_ : mg "set" = none
  zip_ : mg "zip" = none
  enumerate_ : mg "enumerate" = none
  sum_ : mg "sum" = none
  abs_ : mg "abs" = none
  min_ : mg "min" = none
end DL
namespace PB
open PySem PySem.Spec PyProof.Rows L2 DL
def topS (i : Nat) : Stmt := PySem.Challenge.pw_paidbyheirs_k09_whole_waits_done_at_once.main.body.getD i (.Pass ⟨0, 0, 0, 0⟩)
/-! the text by places: printed by gen.py -/
abbrev s_is_number : Stmt := topS 1
theorem sc_is_number : FnScope ["thing"] ["thing"] (defScope s_is_number) := ⟨rfl, rfl, rfl, by decide +kernel, rfl, by decide +kernel, by decide +kernel⟩
abbrev s_is_from : Stmt := topS 2
theorem sc_is_from : FnScope ["thing", "least"] ["thing", "least"] (defScope s_is_from) := ⟨rfl, rfl, rfl, by decide +kernel, rfl, by decide +kernel, by decide +kernel⟩
abbrev s_is_within : Stmt := topS 3
theorem sc_is_within : FnScope ["thing", "least", "most"] ["thing", "least", "most"] (defScope s_is_within) := ⟨rfl, rfl, rfl, by decide +kernel, rfl, by decide +kernel, by decide +kernel⟩
abbrev s_is_long : Stmt := topS 4
theorem sc_is_long : FnScope ["thing", "length"] ["thing", "length"] (defScope s_is_long) := ⟨rfl, rfl, rfl, by decide +kernel, rfl, by decide +kernel, by decide +kernel⟩
abbrev s_tupled : Stmt := topS 5
theorem sc_tupled : FnScope ["value", "own"] ["value"] (defScope s_tupled) := ⟨rfl, rfl, rfl, by decide +kernel, rfl, by decide +kernel, by decide +kernel⟩
abbrev s_ascends : Stmt := topS 6
theorem sc_ascends : FnScope ["row", "k"] ["row"] (defScope s_ascends) := ⟨rfl, rfl, rfl, by decide +kernel, rfl, by decide +kernel, by decide +kernel⟩
abbrev s_set_of : Stmt := topS 7
theorem sc_set_of : FnScope ["row"] ["row"] (defScope s_set_of) := ⟨rfl, rfl, rfl, by decide +kernel, rfl, by decide +kernel, by decide +kernel⟩
abbrev s_is_spot : Stmt := topS 11
theorem sc_is_spot : FnScope ["sizes", "elders", "thing"] ["sizes", "elders", "thing"] (defScope s_is_spot) := ⟨rfl, rfl, rfl, by decide +kernel, rfl, by decide +kernel, by decide +kernel⟩
abbrev s_are_spots : Stmt := topS 12
theorem sc_are_spots : FnScope ["sizes", "elders", "thing", "own"] ["sizes", "elders", "thing"] (defScope s_are_spots) := ⟨rfl, rfl, rfl, by decide +kernel, rfl, by decide +kernel, by decide +kernel⟩
abbrev s_is_filling : Stmt := topS 13
theorem sc_is_filling : FnScope ["sizes", "elders", "thing"] ["sizes", "elders", "thing"] (defScope s_is_filling) := ⟨rfl, rfl, rfl, by decide +kernel, rfl, by decide +kernel, by decide +kernel⟩
abbrev s_is_row : Stmt := topS 14
theorem sc_is_row : FnScope ["sizes", "thing", "elders", "looks", "cost", "shape", "slots", "own"] ["sizes", "thing"] (defScope s_is_row) := ⟨rfl, rfl, rfl, by decide +kernel, rfl, by decide +kernel, by decide +kernel⟩
abbrev s_is_craft : Stmt := topS 15
theorem sc_is_craft : FnScope ["thing", "sizes", "rows", "own"] ["thing"] (defScope s_is_craft) := ⟨rfl, rfl, rfl, by decide +kernel, rfl, by decide +kernel, by decide +kernel⟩
abbrev s_sure_craft : Stmt := topS 16
theorem sc_sure_craft : FnScope ["craft", "own"] ["craft"] (defScope s_sure_craft) := ⟨rfl, rfl, rfl, by decide +kernel, rfl, by decide +kernel, by decide +kernel⟩
abbrev s_shape_by : Stmt := topS 20
theorem sc_shape_by : FnScope ["craft", "web", "version"] ["craft", "web", "version"] (defScope s_shape_by) := ⟨rfl, rfl, rfl, by decide +kernel, rfl, by decide +kernel, by decide +kernel⟩
abbrev s_may_come : Stmt := topS 21
theorem sc_may_come : FnScope ["craft", "web", "thing", "shapes", "own", "shape"] ["craft", "web", "thing"] (defScope s_may_come) := ⟨rfl, rfl, rfl, by decide +kernel, rfl, by decide +kernel, by decide +kernel⟩
abbrev s_fits : Stmt := topS 22
theorem sc_fits : FnScope ["craft", "thing", "number", "own"] ["craft", "thing"] (defScope s_fits) := ⟨rfl, rfl, rfl, by decide +kernel, rfl, by decide +kernel, by decide +kernel⟩
abbrev s_sure_web : Stmt := topS 23
theorem sc_sure_web : FnScope ["craft", "web", "own", "there"] ["craft", "web"] (defScope s_sure_web) := ⟨rfl, rfl, rfl, by decide +kernel, rfl, by decide +kernel, by decide +kernel⟩
abbrev s_slots_by : Stmt := topS 24
theorem sc_slots_by : FnScope ["craft", "there", "version", "found", "row", "elders", "holds", "slot", "own"] ["craft", "there", "version", "found"] (defScope s_slots_by) := ⟨rfl, rfl, rfl, by decide +kernel, rfl, by decide +kernel, by decide +kernel⟩
abbrev s_held_by : Stmt := topS 25
theorem sc_held_by : FnScope ["craft", "web", "found", "version"] ["craft", "web"] (defScope s_held_by) := ⟨rfl, rfl, rfl, by decide +kernel, rfl, by decide +kernel, by decide +kernel⟩
abbrev s_paid_at_once : Stmt := topS 27
theorem sc_paid_at_once : FnScope ["craft", "web", "own", "told", "found", "row", "_", "cost", "slots", "filling"] ["craft", "web"] (defScope s_paid_at_once) := ⟨rfl, rfl, rfl, by decide +kernel, rfl, by decide +kernel, by decide +kernel⟩
abbrev s_cost_at_once : Stmt := topS 28
theorem sc_cost_at_once : FnScope ["craft", "web"] ["craft", "web"] (defScope s_cost_at_once) := ⟨rfl, rfl, rfl, by decide +kernel, rfl, by decide +kernel, by decide +kernel⟩
abbrev s_news_of : Stmt := topS 30
theorem sc_news_of : FnScope ["craft", "web", "holds", "found", "number", "own", "elders", "spot", "what", "asked", "place", "near", "one"] ["craft", "web", "holds"] (defScope s_news_of) := ⟨rfl, rfl, rfl, by decide +kernel, rfl, by decide +kernel, by decide +kernel⟩
abbrev s_do_wait : Stmt := topS 31
theorem sc_do_wait : FnScope ["news", "done", "first", "way", "line", "now", "how", "count", "wants"] ["news", "done", "first", "way"] (defScope s_do_wait) := ⟨rfl, rfl, rfl, by decide +kernel, rfl, by decide +kernel, by decide +kernel⟩
abbrev s_played : Stmt := topS 32
theorem sc_played : FnScope ["craft", "web", "holds", "done", "found", "news", "number", "own", "elders", "before", "place", "spot", "there"] ["craft", "web"] (defScope s_played) := ⟨rfl, rfl, rfl, by decide +kernel, rfl, by decide +kernel, by decide +kernel⟩
abbrev s_unforced : Stmt := topS 33
theorem sc_unforced : FnScope ["craft", "web", "own", "line", "_", "done", "news", "one"] ["craft", "web"] (defScope s_unforced) := ⟨rfl, rfl, rfl, by decide +kernel, rfl, by decide +kernel, by decide +kernel⟩
abbrev s__law_box : Stmt := topS 35
theorem sc__law_box : FnScope ["_law_script", "_law_k", "_law_bit_so"] ["_law_script", "_law_k"] (defScope s__law_box) := ⟨rfl, rfl, rfl, by decide +kernel, rfl, by decide +kernel, by decide +kernel⟩
abbrev s__law_take : Stmt := topS 36
theorem sc__law_take : FnScope ["_law_tin", "_law_below_so", "_law_drawn", "_law_once_so", "_law_wide_so", "_law_twice_so"] ["_law_tin", "_law_below_so"] (defScope s__law_take) := ⟨rfl, rfl, rfl, by decide +kernel, rfl, by decide +kernel, by decide +kernel⟩
abbrev s__law_cells : Stmt := topS 37
theorem sc__law_cells : FnScope ["_law_script", "_law_most_so", "_law_cells_so", "_law_k", "_law_bit_so", "_law_at_so"] ["_law_script", "_law_most_so"] (defScope s__law_cells) := ⟨rfl, rfl, rfl, by decide +kernel, rfl, by decide +kernel, by decide +kernel⟩
abbrev s__law_of : Stmt := topS 38
theorem sc__law_of : FnScope ["_law_tin", "_law_goods_so"] ["_law_tin", "_law_goods_so"] (defScope s__law_of) := ⟨rfl, rfl, rfl, by decide +kernel, rfl, by decide +kernel, by decide +kernel⟩
abbrev s__law_pick : Stmt := topS 39
theorem sc__law_pick : FnScope ["_law_tin", "_law_goods_so", "_law_count_so", "_law_pool_so", "_law_found", "_law_lap"] ["_law_tin", "_law_goods_so", "_law_count_so"] (defScope s__law_pick) := ⟨rfl, rfl, rfl, by decide +kernel, rfl, by decide +kernel, by decide +kernel⟩
abbrev s__law_lists : Stmt := topS 40
theorem sc__law_lists : FnScope ["_law_matter", "_law_bit"] ["_law_matter"] (defScope s__law_lists) := ⟨rfl, rfl, rfl, by decide +kernel, rfl, by decide +kernel, by decide +kernel⟩
abbrev s__law_same : Stmt := topS 41
theorem sc__law_same : FnScope ["_law_got", "_law_due", "_law_mine", "_law_its"] ["_law_got", "_law_due"] (defScope s__law_same) := ⟨rfl, rfl, rfl, by decide +kernel, rfl, by decide +kernel, by decide +kernel⟩
abbrev s__law_chain : Stmt := topS 42
theorem sc__law_chain : FnScope [] [] (defScope s__law_chain) := ⟨rfl, rfl, rfl, by decide +kernel, rfl, by decide +kernel, by decide +kernel⟩
abbrev s__law_twins : Stmt := topS 43
theorem sc__law_twins : FnScope [] [] (defScope s__law_twins) := ⟨rfl, rfl, rfl, by decide +kernel, rfl, by decide +kernel, by decide +kernel⟩
abbrev s__law_melds : Stmt := topS 44
theorem sc__law_melds : FnScope [] [] (defScope s__law_melds) := ⟨rfl, rfl, rfl, by decide +kernel, rfl, by decide +kernel, by decide +kernel⟩
abbrev s__law_kept : Stmt := topS 45
theorem sc__law_kept : FnScope [] [] (defScope s__law_kept) := ⟨rfl, rfl, rfl, by decide +kernel, rfl, by decide +kernel, by decide +kernel⟩
abbrev s__law_double : Stmt := topS 46
theorem sc__law_double : FnScope [] [] (defScope s__law_double) := ⟨rfl, rfl, rfl, by decide +kernel, rfl, by decide +kernel, by decide +kernel⟩
abbrev s__law_filling : Stmt := topS 47
theorem sc__law_filling : FnScope ["_law_tin", "_law_goods_so", "_law_way_so", "_law_wants_so"] ["_law_tin", "_law_goods_so"] (defScope s__law_filling) := ⟨rfl, rfl, rfl, by decide +kernel, rfl, by decide +kernel, by decide +kernel⟩
abbrev s__law_house_one : Stmt := topS 48
theorem sc__law_house_one : FnScope ["_law_tin", "_law_wide_so", "_law_sizes_so", "_law_first_so", "_law_lines_so", "_law_goods_so", "_law_lap", "_law_looks_so", "_law_made_so", "_law_slots_so", "_law_k"] ["_law_tin"] (defScope s__law_house_one) := ⟨rfl, rfl, rfl, by decide +kernel, rfl, by decide +kernel, by decide +kernel⟩
abbrev s__law_house_two : Stmt := topS 49
theorem sc__law_house_two : FnScope ["_law_tin", "_law_lines_so", "_law_goods_so", "_law_looks_so"] ["_law_tin"] (defScope s__law_house_two) := ⟨rfl, rfl, rfl, by decide +kernel, rfl, by decide +kernel, by decide +kernel⟩
abbrev s__law_comes : Stmt := topS 50
theorem sc__law_comes : FnScope ["_law_house_so", "_law_tale_so", "_law_found", "_law_kinds_so", "_law_own", "_law_r", "_law_line_so", "_law_elders_so", "_law_longer_so", "_law_its", "_law_k"] ["_law_house_so", "_law_tale_so"] (defScope s__law_comes) := ⟨rfl, rfl, rfl, by decide +kernel, rfl, by decide +kernel, by decide +kernel⟩
abbrev s__law_tale : Stmt := topS 51
theorem sc__law_tale : FnScope ["_law_tin", "_law_house_so", "_law_count_so", "_law_found", "_law_lap", "_law_goods_so", "_law_late_so", "_law_own"] ["_law_tin", "_law_house_so", "_law_count_so"] (defScope s__law_tale) := ⟨rfl, rfl, rfl, by decide +kernel, rfl, by decide +kernel, by decide +kernel⟩
abbrev s__law_held : Stmt := topS 52
theorem sc__law_held : FnScope ["_law_house_so", "_law_tale_so", "_law_found", "_law_k", "_law_step_so", "_law_holds_so", "_law_at_so", "_law_own"] ["_law_house_so", "_law_tale_so"] (defScope s__law_held) := ⟨rfl, rfl, rfl, by decide +kernel, rfl, by decide +kernel, by decide +kernel⟩
abbrev s__law_force : Stmt := topS 53
theorem sc__law_force : FnScope ["_law_house_so", "_law_tale_so", "_law_holds_so", "_law_wait_so", "_law_why_so", "_law_anew_so", "_law_done_so", "_law_row_so", "_law_step_so", "_law_at_so", "_law_slot_so", "_law_next_so"] ["_law_house_so", "_law_tale_so", "_law_holds_so", "_law_wait_so", "_law_why_so", "_law_anew_so", "_law_done_so", "_law_row_so"] (defScope s__law_force) := ⟨rfl, rfl, rfl, by decide +kernel, rfl, by decide +kernel, by decide +kernel⟩
abbrev s__law_play : Stmt := topS 54
theorem sc__law_play : FnScope ["_law_house_so", "_law_tale_so", "_law_anew_so", "_law_holds_so", "_law_done_so", "_law_found", "_law_k", "_law_step_so", "_law_row_so", "_law_at_so", "_law_slot_so", "_law_wait_so"] ["_law_house_so", "_law_tale_so", "_law_anew_so"] (defScope s__law_play) := ⟨rfl, rfl, rfl, by decide +kernel, rfl, by decide +kernel, by decide +kernel⟩
abbrev s__law_paid : Stmt := topS 55
theorem sc__law_paid : FnScope ["_law_house_so", "_law_tale_so", "_law_ledger_so", "_law_found", "_law_step_so", "_law_row_so", "_law_now_so", "_law_own"] ["_law_house_so", "_law_tale_so", "_law_ledger_so"] (defScope s__law_paid) := ⟨rfl, rfl, rfl, by decide +kernel, rfl, by decide +kernel, by decide +kernel⟩
abbrev s__law_cost : Stmt := topS 56
theorem sc__law_cost : FnScope ["_law_house_so", "_law_tale_so"] ["_law_house_so", "_law_tale_so"] (defScope s__law_cost) := ⟨rfl, rfl, rfl, by decide +kernel, rfl, by decide +kernel, by decide +kernel⟩
abbrev s__law_at_once_so : Stmt := topS 57
theorem sc__law_at_once_so : FnScope ["_law_house_so", "_law_tale_so", "_law_holds_so", "_law_done_so", "_law_rows_so", "_law_k", "_law_step_so", "_law_row_so", "_law_at_so", "_law_slot_so", "_law_wait_so", "_law_own"] ["_law_house_so", "_law_tale_so"] (defScope s__law_at_once_so) := ⟨rfl, rfl, rfl, by decide +kernel, rfl, by decide +kernel, by decide +kernel⟩
abbrev s__law_tower : Stmt := topS 58
theorem sc__law_tower : FnScope [] [] (defScope s__law_tower) := ⟨rfl, rfl, rfl, by decide +kernel, rfl, by decide +kernel, by decide +kernel⟩
abbrev s__law_refused : Stmt := topS 59
theorem sc__law_refused : FnScope ["_law_door", "_law_house_so", "_law_tale_so"] ["_law_door", "_law_house_so", "_law_tale_so"] (defScope s__law_refused) := ⟨rfl, rfl, rfl, by decide +kernel, rfl, by decide +kernel, by decide +kernel⟩
abbrev s__law_hand_right : Stmt := topS 60
theorem sc__law_hand_right : FnScope ["_law_double_so", "_law_tower_so", "_law_twins_so", "_law_tale_so", "_law_got", "_law_due", "_law_door"] [] (defScope s__law_hand_right) := ⟨rfl, rfl, rfl, by decide +kernel, rfl, by decide +kernel, by decide +kernel⟩
abbrev s__law_right : Stmt := topS 61
theorem sc__law_right : FnScope ["_law_tin", "_law_house_so", "_law_tale_so", "_law_due", "_law_got", "_law_k", "_law_left_so", "_law_own"] ["_law_tin"] (defScope s__law_right) := ⟨rfl, rfl, rfl, by decide +kernel, rfl, by decide +kernel, by decide +kernel⟩
abbrev s_law : Stmt := topS 62
theorem sc_law : FnScope ["_law_script"] ["_law_script"] (defScope s_law) := ⟨rfl, rfl, rfl, by decide +kernel, rfl, by decide +kernel, by decide +kernel⟩
end PB
/-! P1: crafts and webs as plain data -/
namespace PB
open PySem PySem.Spec PyProof.Rows L2 DL

abbrev natD (n : Nat) : Dt := .int (n : Int)
abbrev Spot := Nat × Nat
abbrev spotD (p : Spot) : Dt := .tup [natD p.1, natD p.2]
inductive Fil where
  | none | kept (p s : Nat) | new (c : Int) (ws : List Spot)
def filD : Fil → Dt
  | .none => .tup [.str "none"]
  | .kept p s => .tup [.str "kept", natD p, natD s]
  | .new c ws => .tup [.str "new", .int c, .tup (ws.map spotD)]
structure Row where
  el : List Nat
  looks : List Spot
  cost : Int
  shape : Nat
  slots : List Fil
def rowD (r : Row) : Dt := .tup [.tup (r.el.map natD), .tup (r.looks.map spotD), .int r.cost, natD r.shape, .tup (r.slots.map filD)]
structure Craft where
  sizes : List Nat
  rows : List Row
def craftD (c : Craft) : Dt := .tup [.tup (c.sizes.map natD), .tup (c.rows.map rowD)]
abbrev Ver := Nat × List Nat
def verD (v : Ver) : Dt := .tup [natD v.1, .tup (v.2.map natD)]
abbrev Web := List Ver
def webD (w : Web) : Dt := .tup (w.map verD)

theorem pu_nat (n : Nat) : Pu (natD n) := .int _
theorem pu_spot (p : Spot) : Pu (spotD p) := .tup (.cons (.int _) (.cons (.int _) .nil))
theorem pu_fil (f : Fil) : Pu (filD f) := by
  cases f with
  | none => exact .tup (.cons (.str _) .nil)
  | kept p s => exact .tup (.cons (.str _) (.cons (.int _) (.cons (.int _) .nil)))
  | new c ws => exact .tup (.cons (.str _) (.cons (.int _) (.cons (.tup (PuL.map _ pu_spot ws)) .nil)))
theorem pu_row (r : Row) : Pu (rowD r) := .tup (.cons (.tup (PuL.map _ pu_nat _)) (.cons (.tup (PuL.map _ pu_spot _)) (.cons (.int _) (.cons (.int _) (.cons (.tup (PuL.map _ pu_fil _)) .nil)))))
theorem pu_craft (c : Craft) : Pu (craftD c) := .tup (.cons (.tup (PuL.map _ pu_nat _)) (.cons (.tup (PuL.map _ pu_row _)) .nil))
theorem pu_ver (v : Ver) : Pu (verD v) := .tup (.cons (.int _) (.cons (.tup (PuL.map _ pu_nat _)) .nil))
theorem pu_web (w : Web) : Pu (webD w) := .tup (PuL.map _ pu_ver _)

/-! ### what a craft is -/
def okSpot (sizes els : List Nat) (p : Spot) : Prop := ∃ e z, els[p.1]? = some e ∧ sizes[e]? = some z ∧ p.2 < z
/-- strictly ascending by the tuples' order -/
def Asc (ws : List Spot) : Prop := ws.Pairwise fun a b => a.1 < b.1 ∨ (a.1 = b.1 ∧ a.2 < b.2)
structure okSpots (sizes els : List Nat) (ws : List Spot) : Prop where
  each : ∀ p ∈ ws, okSpot sizes els p
  nd : ws.Nodup
  few : ws.length ≤ 10
def okFil (sizes els : List Nat) : Fil → Prop
  | .none => True
  | .kept p s => okSpot sizes els (p, s)
  | .new c ws => 0 ≤ c ∧ okSpots sizes els ws ∧ Asc ws
structure okRow (sizes : List Nat) (r : Row) : Prop where
  few : r.el.length ≤ 2
  els : ∀ e ∈ r.el, e < sizes.length
  looks : okSpots sizes r.el r.looks
  cost : 0 ≤ r.cost
  shape : sizes[r.shape]? = some r.slots.length
  slots : ∀ f ∈ r.slots, okFil sizes r.el f
structure okCraft (c : Craft) : Prop where
  sizes : 0 < c.sizes.length
  rows : 0 < c.rows.length
  each : ∀ r ∈ c.rows, okRow c.sizes r
  small : c.rows.length ≤ 10 ∧ c.sizes.length ≤ 10 ∧ ∀ r ∈ c.rows, r.slots.length ≤ 10

/-! ### lookups -/
theorem at_nat {ds : List Dt} {n : Nat} {d : Dt} (h : ds[n]? = some d) : atI ds (n : Int) = some d := atI_nat h
theorem at_map {α : Type} {f : α → Dt} {l : List α} {n : Nat} {x : α} (h : l[n]? = some x) : atI (l.map f) (n : Int) = some (f x) := atI_nat (by rw [List.getElem?_map, h]; rfl)
end PB
namespace PB
open PySem PySem.Spec PyProof.Rows L2 DL
section
variable {te : TE} {ts : TS} {ta : TA} {tt : TT} {r : R2} {f : List V → Hp → VK → Prop} {g : TG} {X : Hp → Prop} {δ : Sl} {μ : List MO} {Φ : DK} {Ψ : List Dt → List MO → Prop} {Θ : Bool → List MO → Prop} {Ξ : Sl → List MO → Prop} {P : DE} {x y : Dt} {xs : List Dt}
theorem isE (h : wE te δ μ Φ) : wE te δ μ Φ := h
theorem isS (h : wS X ts δ μ P) : wS X ts δ μ P := h
theorem isA (h : wA ta δ μ Ψ) : wA ta δ μ Ψ := h
theorem isT (h : wT tt δ μ Θ) : wT tt δ μ Θ := h
theorem isO (h : wO r x y μ Φ) : wO r x y μ Φ := h
theorem isC (h : wC f xs μ Φ) : wC f xs μ Φ := h
theorem isG (h : wG g x δ μ Ξ) : wG g x δ μ Ξ := h
end
theorem ft {p : Prop} (h : false = true) : p := Bool.noConfusion h
theorem tf {p : Prop} (h : true = false) : p := Bool.noConfusion h
theorem win {i lo hi : Int} (h1 : lo ≤ i) (h2 : i ≤ hi) : (decide (lo ≤ i) && decide (i ≤ hi)) = true := by rw [decide_eq_true h1, decide_eq_true h2]; rfl
/-- a comprehension whose every turn gives True -/
theorem all_true {g : TG} {te : TE} {δ : Sl} {Φ : List Dt → List MO → Prop} {μ : List MO} : ∀ {items acc : List Dt} (h : ∀ d ∈ items, ∀ acc, wG g d δ (μ ++ [.lst acc]) fun δ1 μ1 => wE te δ1 μ1 fun e μ2 => e = .bl true ∧ μ2 = μ ++ [.lst acc]) (k : Φ (acc ++ List.replicate items.length (.bl true)) μ), CompL g tYes te δ Φ items acc μ
  | [], acc, _, k => by
    rw [List.length_nil, List.replicate_zero, List.append_nil] at k
    exact k
  | d :: ds, acc, h, k => by
    intro σ H α v Q R D q
    refine h d List.mem_cons_self acc σ H α v Q R D fun σ' H' α' δ' μ' n R' w => q σ' H' α' δ' μ' n R' ?_
    intro σ2 H2 α2 Q2 R2 q2
    refine q2 true H2 α2 μ' .refl R2.rm ⟨fun _ => wE_mono w ?_, fun z => tf z⟩
    rintro e μ2 ⟨rfl, rfl⟩
    refine ⟨μ, rfl, rfl, .bl true, all_true (fun d hd => h d (List.mem_cons_of_mem _ hd)) ?_⟩
    rw [List.length_cons, List.replicate_succ] at k
    rw [List.append_assoc]; exact k
/-- a comprehension whose every turn is told by p, f -/
theorem comp_fm {g : TG} {tt : TT} {te : TE} {δ : Sl} {Φ : List Dt → List MO → Prop} {μ : List MO} {p : Dt → Bool} {f : Dt → Dt} : ∀ {items acc : List Dt}
    (h : ∀ d ∈ items, ∀ acc, wG g d δ (μ ++ [.lst acc]) fun δ1 μ1 => wT tt δ1 μ1 fun c μ2 => c = p d ∧ μ2 = μ ++ [.lst acc] ∧ (p d = true → wE te δ1 μ2 fun e μ3 => e = f d ∧ μ3 = μ ++ [.lst acc])) (pu : ∀ d ∈ items, p d = true → Pu (f d))
    (k : Φ (acc ++ (items.filter p).map f) μ), CompL g tt te δ Φ items acc μ
  | [], acc, _, _, k => by
    rw [List.filter_nil, List.map_nil, List.append_nil] at k
    exact k
  | d :: ds, acc, h, pu, k => by
    intro σ H α v Q R D q
    refine h d List.mem_cons_self acc σ H α v Q R D fun σ' H' α' δ' μ' n R' w => q σ' H' α' δ' μ' n R' ?_
    intro σ2 H2 α2 Q2 R2 q2
    refine w σ2 H2 α2 Q2 R2 fun c H3 α3 μ3 n3 R3 ⟨hc, hm, he⟩ => q2 c H3 α3 μ3 n3 R3 ?_
    subst hc hm
    have h2 := fun e he => h e (List.mem_cons_of_mem _ he)
    have p2 := fun e he => pu e (List.mem_cons_of_mem _ he)
    refine ⟨fun hp => wE_mono (he hp) ?_, fun hp => ⟨μ, rfl, rfl, comp_fm h2 p2 ?_⟩⟩
    · rintro e μ4 ⟨rfl, rfl⟩
      refine ⟨μ, rfl, rfl, pu d List.mem_cons_self hp, comp_fm h2 p2 ?_⟩
      rw [List.filter_cons, if_pos hp, List.map_cons] at k
      rw [List.append_assoc]; exact k
    · rw [List.filter_cons, if_neg (by rw [hp]; exact Bool.false_ne_true)] at k
      exact k
theorem wT_yes {δ : Sl} {μ : List MO} {Φ : Bool → List MO → Prop} (k : Φ true μ) : wT tYes δ μ Φ := fun σ H α Q R q => q true H α μ .refl R.rm k
theorem comp_map {g : TG} {te : TE} {δ : Sl} {Φ : List Dt → List MO → Prop} {μ : List MO} {f : Dt → Dt} : ∀ {items acc : List Dt}
    (h : ∀ d ∈ items, ∀ acc, wG g d δ (μ ++ [.lst acc]) fun δ1 μ1 => wE te δ1 μ1 fun e μ3 => e = f d ∧ μ3 = μ ++ [.lst acc]) (pu : ∀ d ∈ items, Pu (f d)) (k : Φ (acc ++ items.map f) μ), CompL g tYes te δ Φ items acc μ
  | [], acc, _, _, k => by
    rw [List.map_nil, List.append_nil] at k
    exact k
  | d :: ds, acc, h, pu, k => by
    intro σ H α v Q R D q
    refine h d List.mem_cons_self acc σ H α v Q R D fun σ' H' α' δ' μ' n R' w => q σ' H' α' δ' μ' n R' (wT_yes ⟨fun _ => wE_mono w ?_, fun z => tf z⟩)
    rintro e μ2 ⟨rfl, rfl⟩
    refine ⟨μ, rfl, rfl, pu d List.mem_cons_self, comp_map (fun e he => h e (List.mem_cons_of_mem _ he)) (fun e he => pu e (List.mem_cons_of_mem _ he)) ?_⟩
    rw [List.map_cons] at k
    rw [List.append_assoc]; exact k
theorem pt {c : Bool} {A B : Prop} (h : c = true) (k : A) : (c = true → A) ∧ (c = false → B) := ⟨fun _ => k, fun z => by rw [h] at z; cases z⟩
theorem pf {c : Bool} {A B : Prop} (h : c = false) (k : B) : (c = true → A) ∧ (c = false → B) := ⟨(fun z => by rw [h] at z; cases z), fun _ => k⟩
theorem dt {p : Prop} [Decidable p] (h : p) : decide p = true := decide_eq_true h
theorem df {p : Prop} [Decidable p] (h : ¬ p) : decide p = false := decide_eq_false h
theorem nt {p : Prop} [Decidable p] (h : p) : (!decide p) = false := by rw [decide_eq_true h]; rfl
theorem nf {p : Prop} [Decidable p] (h : ¬ p) : (!decide p) = true := by rw [decide_eq_false h]; rfl
theorem forL_nil {X : Hp → Prop} {g : TG} {tb : TS} {P : DE} {δ : Sl} {μ : List MO} (k : P.nx δ μ) : ForL X g tb P [] δ μ := k
theorem forL_cons {X : Hp → Prop} {g : TG} {tb : TS} {P : DE} {d : Dt} {ds : List Dt} {δ : Sl} {μ : List MO} (k : wG g d δ μ fun δ1 μ1 => wS X tb δ1 μ1 { nx := ForL X g tb P ds, ct := ForL X g tb P ds, bk := P.nx, rt := P.rt, ex := P.ex }) : ForL X g tb P (d :: ds) δ μ := k
theorem wS_mono {X : Hp → Prop} {t : TS} {δ : Sl} {μ : List MO} {P P' : DE} (h : wS X t δ μ P) (n : ∀ δ μ, P.nx δ μ → P'.nx δ μ) (r : ∀ d μ, P.rt d μ → P'.rt d μ) (b : ∀ δ μ, P.bk δ μ → P'.bk δ μ) (c : ∀ δ μ, P.ct δ μ → P'.ct δ μ) (e : ∀ μ, P.ex μ → P'.ex μ) : wS X t δ μ P' := fun σ H α D R f =>
  h σ H α D R ⟨fun σ' H' α' δ' μ' nx R' k => f.nx σ' H' α' δ' μ' nx R' (n _ _ k), fun v H' α' d μ' nx R' D' k => f.rt v H' α' d μ' nx R' D' (r _ _ k), fun σ' H' α' δ' μ' nx R' k => f.bk σ' H' α' δ' μ' nx R' (b _ _ k), fun σ' H' α' δ' μ' nx R' k => f.ct σ' H' α' δ' μ' nx R' (c _ _ k), fun H' α' μ' nx R' k => f.ex H' α' μ' nx R' (e _ k)⟩
/-- a for by its invariant -/
theorem forL_inv {X : Hp → Prop} {g : TG} {tb : TS} {P : DE} (I : Nat → Sl → List MO → Prop) : ∀ {items : List Dt} (n : Nat) {δ : Sl} {μ : List MO} (h0 : I n δ μ)
    (step : ∀ (i : Nat) (d : Dt) δ μ, items[i]? = some d → I (n + i) δ μ → wG g d δ μ fun δ1 μ1 => wS X tb δ1 μ1 { nx := I (n + i + 1), ct := I (n + i + 1), bk := P.nx, rt := P.rt, ex := P.ex }) (hd : ∀ δ μ, I (n + items.length) δ μ → P.nx δ μ), ForL X g tb P items δ μ
  | [], n, _, _, h0, _, hd => hd _ _ h0
  | d :: ds, n, δ, μ, h0, step, hd => by
    intro σ H α v Q R D q
    refine step 0 d δ μ rfl h0 σ H α v Q R D fun σ' H' α' δ' μ' nx R' w => q σ' H' α' δ' μ' nx R' ?_
    have nxt : ∀ δ1 μ1, I (n + 0 + 1) δ1 μ1 → ForL X g tb P ds δ1 μ1 := fun δ1 μ1 h1 => forL_inv I (n + 1) h1 (fun i e δ2 μ2 hi h2 => by
      have e1 : n + 1 + i = n + (i + 1) := by omega
      rw [e1] at h2 ⊢
      exact step (i + 1) e δ2 μ2 hi h2) (fun δ2 μ2 h2 => hd δ2 μ2 (by rw [List.length_cons]; rw [show n + (ds.length + 1) = n + 1 + ds.length by omega]; exact h2))
    exact wS_mono w nxt (fun _ _ k => k) (fun _ _ k => k) nxt fun _ k => k
theorem cut_take (ds : List Dt) (n : Nat) : DL.cutD ds none (some (n : Int)) = ds.take n := by
  unfold DL.cutD
  rw [HT.sIx_none, HT.sIx_nat, List.drop_zero, Nat.sub_zero, List.take_eq_take_iff]
  omega
theorem cut_drop (ds : List Dt) (n : Nat) : DL.cutD ds (some (n : Int)) none = ds.drop n := by
  unfold DL.cutD
  rw [HT.sIx_none, HT.sIx_nat]
  by_cases h : n ≤ ds.length
  · rw [Nat.min_eq_left h, List.take_of_length_le (by rw [List.length_drop]; omega)]
  · rw [Nat.min_eq_right (by omega), List.drop_eq_nil_of_le (Nat.le_refl _), List.drop_eq_nil_of_le (by omega), List.take_nil]
theorem Cal.zero {P : Program} {w : World} {K : PySem.W.Frag} {mg : Str → Option Value} {base : Heap} {cU : Addr} {x : Str} {st : Stmt} {ps : List Str} {C : Con} (hx : HasFn K mg x st ps) (h : ∀ ds μ Φ Ψ, ¬ C ds μ Φ Ψ) : Cal P w K mg base 0 x ps (spD cU C) := by
  obtain ⟨f, fd, F, hm, hb⟩ := hx.ex
  refine ⟨f, fd, ⟨fun vs H Q E hs => ?_, fun A outer s H args us vs Q E _ _ _ _ hs => ?_⟩, hm, F.kp, hb, ?_⟩
  · obtain ⟨_, _, _, _, _, _, _, c, _⟩ := hs
    exact (h _ _ _ _ c).elim
  · obtain ⟨_, _, _, _, _, _, _, c, _⟩ := hs
    exact (h _ _ _ _ c).elim
  · obtain ⟨oc, od, _, _, _, _, _, _, osl, _, lk, _⟩ := F.ex
    exact ⟨oc, od, osl, lk⟩
theorem rep_bl (n : Nat) : List.replicate n (Dt.bl true) = (List.replicate n true).map Dt.bl := by rw [List.map_replicate]
theorem rep_all (n : Nat) : (List.replicate n true).all id = true := by simp
theorem at0 {a : Dt} {r : List Dt} : atI (a :: r) 0 = some a := at_nat (n := 0) rfl
theorem at1 {a b : Dt} {r : List Dt} : atI (a :: b :: r) 1 = some b := at_nat (n := 1) rfl
theorem at2 {a b c : Dt} {r : List Dt} : atI (a :: b :: c :: r) 2 = some c := at_nat (n := 2) rfl
theorem at3 {a b c d : Dt} {r : List Dt} : atI (a :: b :: c :: d :: r) 3 = some d := at_nat (n := 3) rfl
theorem at4 {a b c d e : Dt} {r : List Dt} : atI (a :: b :: c :: d :: e :: r) 4 = some e := at_nat (n := 4) rfl
theorem k_ii : kitB "int" "int" = some true := by decide +kernel
theorem k_ib : kitB "int" "bool" = some false := by decide +kernel
theorem k_is : kitB "int" "str" = some false := by decide +kernel
theorem k_it : kitB "int" "tuple" = some false := by decide +kernel
theorem k_il : kitB "int" "list" = some false := by decide +kernel
theorem k_tt : kitB "tuple" "tuple" = some true := by decide +kernel
theorem k_tl : kitB "tuple" "list" = some false := by decide +kernel
theorem k_ll : kitB "list" "list" = some true := by decide +kernel
theorem k_lt : kitB "list" "tuple" = some false := by decide +kernel
theorem k_ss : kitB "str" "str" = some true := by decide +kernel
theorem k_sb : kitB "str" "bool" = some false := by decide +kernel
theorem k_si : kitB "str" "int" = some false := by decide +kernel
theorem k_st : kitB "str" "tuple" = some false := by decide +kernel
theorem k_sl : kitB "str" "list" = some false := by decide +kernel
theorem k_bb : kitB "bool" "bool" = some true := by decide +kernel
theorem k_bi : kitB "bool" "int" = some true := by decide +kernel
end PB
namespace PB
open PySem PySem.Spec PyProof.Rows L2 DL
local macro_rules | `(tactic| walk_at "ix") => `(tactic| first
  | with_reducible exact at0 | with_reducible exact at1 | with_reducible exact at2 | with_reducible exact at3 | with_reducible exact at4 | with_reducible exact at_map (by assumption) | with_reducible exact at_nat (by assumption)
  | exact at0 | exact at1 | exact at2 | exact at3 | exact at4 | exact at_nat (by assumption) | exact at_map (by assumption) | rfl)
local macro_rules | `(tactic| walk_at "b") => `(tactic| first
  | refine ⟨true, rfl, fun _ => ?_, fun hx => tf hx⟩
  | refine ⟨false, rfl, fun hx => ft hx, fun _ => ?_⟩
  | refine ⟨true, rfl, fun hx => ft hx, fun _ => ?_⟩
  | refine ⟨false, rfl, fun _ => ?_, fun hx => tf hx⟩
  | refine ⟨_, rfl, ?_⟩)
local macro_rules | `(tactic| walk_at "t") => `(tactic| first
  | refine ⟨Nat.le_of_ble_eq_true rfl, ?_⟩
  | refine ⟨fun _ => ?_, fun hx => tf hx⟩
  | refine ⟨fun hx => ft hx, fun _ => ?_⟩)
local macro_rules | `(tactic| walk_at "isi") => `(tactic| first
  | refine wC_isi rfl k_ii ?_ | refine wC_isi rfl k_ib ?_ | refine wC_isi rfl k_tt ?_ | refine wC_isi rfl k_tl ?_ | refine wC_isi rfl k_ll ?_ | refine wC_isi rfl k_lt ?_ | refine wC_isi rfl k_sb ?_ | refine wC_isi rfl k_si ?_
  | refine wC_isi rfl k_bb ?_ | refine wC_isi rfl k_bi ?_ | refine wC_isi rfl k_st ?_ | refine wC_isi rfl k_sl ?_ | refine wC_isi rfl k_il ?_ | refine wC_isi rfl k_it ?_
  | refine wC_isi2 rfl k_tl k_tt ?_ | refine wC_isi2 rfl k_ll k_lt ?_ | refine wC_isi2 rfl k_il k_it ?_ | refine wC_isi2 rfl k_sl k_st ?_ | refine wC_isi2 rfl k_ib k_is ?_ | refine wC_isi2 rfl k_sb k_ss ?_)
local macro_rules | `(tactic| walk_at "dE") => `(tactic| first
  | with_reducible refine wE_var rfl ?_ | with_reducible refine wE_op ?_ | with_reducible refine wE_int ?_ | with_reducible refine wE_call ?_ | with_reducible refine wE_str ?_
  | with_reducible refine wE_lenSet ?_ | with_reducible refine wE_sortedSet ?_ | with_reducible refine wE_cb ?_ | with_reducible refine wE_and ?_ | with_reducible refine wE_or ?_ | with_reducible refine wE_not ?_ | with_reducible refine wE_if ?_
  | with_reducible refine wE_tup ?_ | with_reducible refine wE_ty ?_ | with_reducible refine wE_bl ?_ | with_reducible refine wE_non ?_ | with_reducible refine wE_chain ?_ | with_reducible refine wE_un ?_ | with_reducible refine wE_slice ?_)
local macro_rules | `(tactic| walk_at "dS") => `(tactic| first
  | with_reducible refine wS_seq ?_ | with_reducible refine wS_set ?_ | with_reducible refine wS_if ?_ | with_reducible refine wS_drop ?_ | with_reducible refine wS_next ?_ | with_reducible refine wS_ret ?_ | with_reducible refine wS_asg ?_
  | with_reducible refine wS_cont ?_ | with_reducible refine wS_par ?_ | with_reducible refine wS_for ?_)
local macro_rules | `(tactic| walk_at "dT") => `(tactic| first
  | with_reducible refine wT_test ?_ | with_reducible refine wT_B ?_ | with_reducible refine wT_and ?_ | with_reducible refine wT_or ?_ | with_reducible refine wT_not ?_)
local macro_rules | `(tactic| walk_at "dO") => `(tactic| first
  | with_reducible refine wO_int ?_ | with_reducible refine wO_intB ?_ | with_reducible refine wO_eqI ?_ | with_reducible refine wO_eqS ?_ | with_reducible refine wO_neI ?_ | with_reducible refine wO_eqB ?_ | with_reducible refine wO_neB ?_
  | with_reducible refine wO_isN ?_ | with_reducible refine wO_notN ?_ | (refine wO_ixT (by walk_at "ix") ?_))
local macro_rules | `(tactic| walk_at "dC") => `(tactic| first
  | walk_at "isi" | (refine wC_len (.inl rfl) ?_) | with_reducible refine wC_intI ?_ | with_reducible refine wC_intB ?_ | with_reducible refine wC_abs ?_ | with_reducible refine wC_min ?_)
local macro_rules | `(tactic| walk_at "d") => `(tactic| first
  | ((with_reducible refine isE ?_); walk_at "dE")
  | ((with_reducible refine isA ?_); first | with_reducible refine wA_cons ?_ | with_reducible refine wA_nil ?_)
  | ((with_reducible refine isO ?_); walk_at "dO")
  | ((with_reducible refine isS ?_); walk_at "dS")
  | ((with_reducible refine isT ?_); walk_at "dT")
  | ((with_reducible refine isC ?_); walk_at "dC")
  | with_reducible refine wG_name ?_ | ((with_reducible refine isG ?_); refine wG_tup rfl ?_) | with_reducible refine wGs_cons ?_ | with_reducible refine wGs_nil ?_
  | with_reducible refine forL_cons ?_ | with_reducible refine forL_nil ?_
  | with_reducible refine wP_none ?_ | with_reducible refine wP_some ?_)
local macro_rules | `(tactic| walk_at "D") => `(tactic| repeat (first | walk_at "d" | walk_at "t" | walk_at "b"))

section
variable {P : Program} {w : World} {K : PySem.W.Frag} {mg : Str → Option Value} {base : Heap} {cU : Addr}
def RNum (ds : List Dt) (r : Dt) : Prop := ∃ i : Int, ds = [.int i] ∧ r = .bl true
theorem c_is_number (T_is_number : HasFn K mg "is_number" s_is_number ["thing"]) (B : Bt mg) : Cal P w K mg base (0 + 1) "is_number" ["thing"] (spD cU (PC RNum)) := by
  refine fnC (0) T_is_number sc_is_number (fun ds μ Φ Ψ h => ?_) (fun f cdv A outer s H E hr => ⟨_,
    (pss_one (ps_ret (pe_and (pe_callB (isiK (K := K)) (by rfl) B.isinstance_ (by decide +kernel) (pa_cons (pv 0) (pa_cons (pe_bltn (v := .ty "int") (by rfl) B.int_ (by decide +kernel) rfl) pa_nil))) (pe_one (pe_not (pe_callB (isiK (K := K)) (by rfl) B.isinstance_ (by decide +kernel) (pa_cons (pv 0) (pa_cons (pe_bltn (v := .ty "bool") (by rfl) B.bool_ (by decide +kernel) rfl) pa_nil)))))))), fun ds μ Φ Ψ h => ?_⟩)
  · obtain ⟨r, ⟨i, rfl, _⟩, _⟩ := h; rfl
  · obtain ⟨r, ⟨i, rfl, rfl⟩, k⟩ := h
    repeat walk_at "d"
    walk_at "b"
    repeat walk_at "d"
    walk_at "b"
    exact .same k
def RFrom (ds : List Dt) (r : Dt) : Prop := ∃ i j : Int, ds = [.int i, .int j] ∧ r = .bl (decide (j ≤ i))
theorem c_is_from (T_is_from : HasFn K mg "is_from" s_is_from ["thing", "least"]) (B : Bt mg) (c_is_number : Cal P w K mg base 1 "is_number" ["thing"] (spD cU (PC RNum))) : Cal P w K mg base (1 + 1) "is_from" ["thing", "least"] (spD cU (PC RFrom)) := by
  refine fnC (1) T_is_from sc_is_from (fun ds μ Φ Ψ h => ?_) (fun f cdv A outer s H E hr => ⟨_,
    (pss_one (ps_ret (pe_and (pe_cal c_is_number (hr.mono (by omega)) (by rfl) (pa_cons (pv 0) pa_nil)) (pe_one (pe_cmpR op_ge (pv 0) (pv 1) (nomark _)))))), fun ds μ Φ Ψ h => ?_⟩)
  · obtain ⟨r, ⟨i, j, rfl, _⟩, _⟩ := h; rfl
  · obtain ⟨r, ⟨i, j, rfl, rfl⟩, k⟩ := h
    repeat walk_at "d"
    refine ⟨_, ⟨i, rfl, rfl⟩, ?_⟩
    walk_at "b"
    repeat walk_at "d"
    exact .same k
def RWithin (ds : List Dt) (r : Dt) : Prop := ∃ i lo hi : Int, ds = [.int i, .int lo, .int hi] ∧ r = .bl (decide (lo ≤ i) && decide (i ≤ hi))
theorem c_is_within (T_is_within : HasFn K mg "is_within" s_is_within ["thing", "least", "most"]) (B : Bt mg) (c_is_number : Cal P w K mg base 1 "is_number" ["thing"] (spD cU (PC RNum))) : Cal P w K mg base (1 + 1) "is_within" ["thing", "least", "most"] (spD cU (PC RWithin)) := by
  refine fnC (1) T_is_within sc_is_within (fun ds μ Φ Ψ h => ?_) (fun f cdv A outer s H E hr => ⟨_,
    (pss_one (ps_ret (pe_and (pe_cal c_is_number (hr.mono (by omega)) (by rfl) (pa_cons (pv 0) pa_nil)) (pe_one (pe_chain op_le op_le (pv 1) (pv 0) (pv 2)))))), fun ds μ Φ Ψ h => ?_⟩)
  · obtain ⟨r, ⟨i, lo, hi, rfl, _⟩, _⟩ := h; rfl
  · obtain ⟨r, ⟨i, lo, hi, rfl, rfl⟩, k⟩ := h
    repeat walk_at "d"
    refine ⟨_, ⟨i, rfl, rfl⟩, ?_⟩
    walk_at "b"
    repeat walk_at "d"
    refine ⟨decide (lo ≤ i), rfl, fun e => ?_, fun e => ?_⟩
    · rw [e, Bool.true_and] at k
      repeat walk_at "d"
      exact .same k
    · rw [e, Bool.false_and] at k
      exact .same k
def RLong (ds : List Dt) (r : Dt) : Prop := ∃ (es : List Dt) (n : Int), ds = [.tup es, .int n] ∧ r = .bl (decide ((es.length : Int) = n))
theorem c_is_long (T_is_long : HasFn K mg "is_long" s_is_long ["thing", "length"]) (B : Bt mg) : Cal P w K mg base (0 + 1) "is_long" ["thing", "length"] (spD cU (PC RLong)) := by
  refine fnC (0) T_is_long sc_is_long (fun ds μ Φ Ψ h => ?_) (fun f cdv A outer s H E hr => ⟨_,
    (pss_one (ps_ret (pe_and (pe_callB (isiK (K := K)) (by rfl) B.isinstance_ (by decide +kernel) (pa_cons (pv 0) (pa_cons (pe_bltn (v := .ty "tuple") (by rfl) B.tuple_ (by decide +kernel) rfl) pa_nil))) (pe_one (pe_cmpR op_eq (pe_callB (lenK (K := K)) (by rfl) B.len_ (by decide +kernel) (pa_cons (pv 0) pa_nil)) (pv 1) (nomark _)))))), fun ds μ Φ Ψ h => ?_⟩)
  · obtain ⟨r, ⟨i, j, rfl, _⟩, _⟩ := h; rfl
  · obtain ⟨r, ⟨i, j, rfl, rfl⟩, k⟩ := h
    repeat walk_at "d"
    walk_at "b"
    repeat walk_at "d"
    exact .same k
/-- a spot of an elder -/
def RSpot (ds : List Dt) (r : Dt) : Prop := ∃ (sizes els : List Nat) (p : Spot), ds = [.tup (sizes.map natD), .tup (els.map natD), spotD p] ∧ okSpot sizes els p ∧ r = .bl true
theorem c_is_spot (T_is_spot : HasFn K mg "is_spot" s_is_spot ["sizes", "elders", "thing"]) (B : Bt mg) (c_is_within : Cal P w K mg base 2 "is_within" ["thing", "least", "most"] (spD cU (PC RWithin))) : Cal P w K mg base (2 + 1) "is_spot" ["sizes", "elders", "thing"] (spD cU (PC RSpot)) := by
  refine fnC (2) T_is_spot sc_is_spot (fun ds μ Φ Ψ h => ?_) (fun f cdv A outer s H E hr => ⟨_,
    (pss_cons (ps_if (PW.pt (pw_or (pt_not (pt_val (pe_callB (isiK (K := K)) (by rfl) B.isinstance_ (by decide +kernel) (pa_cons (pv 2) (pa_cons (pe_bltn (v := .ty "tuple") (by rfl) B.tuple_ (by decide +kernel) rfl) pa_nil))))) (pw_or (pt_cmpR op_ne (pe_callB (lenK (K := K)) (by rfl) B.len_ (by decide +kernel) (pa_cons (pv 2) pa_nil)) pe_int (nomark _)) (pw_or1 (pt_not (pt_val (pe_cal c_is_within (hr.mono (by omega)) (by rfl) (pa_cons (pe_ix (ix_tupK (K := K)) (pv 2) pe_int (fun _ _ => rfl)) (pa_cons pe_int (pa_cons (pe_op op_sub (pe_callB (lenK (K := K)) (by rfl) B.len_ (by decide +kernel) (pa_cons (pv 1) pa_nil)) pe_int) pa_nil)))))))))) (pss_one (ps_ret pe_bl)) pss_nil)
    (pss_one (ps_ret (pe_cal c_is_within (hr.mono (by omega)) (by rfl) (pa_cons (pe_ix (ix_tupK (K := K)) (pv 2) pe_int (fun _ _ => rfl)) (pa_cons pe_int (pa_cons (pe_op op_sub (pe_ix (ix_tupK (K := K)) (pv 0) (pe_ix (ix_tupK (K := K)) (pv 1) (pe_ix (ix_tupK (K := K)) (pv 2) pe_int (fun _ _ => rfl)) (fun _ _ => rfl)) (fun _ _ => rfl)) pe_int) pa_nil))))))), fun ds μ Φ Ψ h => ?_⟩)
  · obtain ⟨r, ⟨sizes, els, p, rfl, _⟩, _⟩ := h; rfl
  · obtain ⟨r, ⟨sizes, els, p, rfl, ⟨e, z, he, hz, hp⟩, rfl⟩, k⟩ := h
    have hl : p.1 < els.length := (List.getElem?_eq_some_iff.mp he).1
    walk_at "D"
    refine ⟨_, ⟨_, _, _, rfl, rfl⟩, ?_⟩
    rw [win (by omega) (by rw [List.length_map]; omega)]
    walk_at "D"
    refine ⟨_, ⟨_, _, _, rfl, rfl⟩, ?_⟩
    rw [win (by omega) (by omega)]
    exact .same k
end
end PB
namespace PB
open PySem PySem.Spec PyProof.Rows L2 DL
local macro_rules | `(tactic| walk_at "ix") => `(tactic| first
  | with_reducible exact at0 | with_reducible exact at1 | with_reducible exact at2 | with_reducible exact at3 | with_reducible exact at4 | with_reducible exact at_map (by assumption) | with_reducible exact at_nat (by assumption)
  | exact at0 | exact at1 | exact at2 | exact at3 | exact at4 | exact at_nat (by assumption) | exact at_map (by assumption) | rfl)
local macro_rules | `(tactic| walk_at "b") => `(tactic| first
  | refine ⟨true, rfl, fun _ => ?_, fun hx => tf hx⟩
  | refine ⟨false, rfl, fun hx => ft hx, fun _ => ?_⟩
  | refine ⟨true, rfl, fun hx => ft hx, fun _ => ?_⟩
  | refine ⟨false, rfl, fun _ => ?_, fun hx => tf hx⟩
  | refine ⟨_, rfl, ?_⟩)
local macro_rules | `(tactic| walk_at "t") => `(tactic| first
  | refine ⟨Nat.le_of_ble_eq_true rfl, ?_⟩
  | refine ⟨fun _ => ?_, fun hx => tf hx⟩
  | refine ⟨fun hx => ft hx, fun _ => ?_⟩)
local macro_rules | `(tactic| walk_at "isi") => `(tactic| first
  | refine wC_isi rfl k_ii ?_ | refine wC_isi rfl k_ib ?_ | refine wC_isi rfl k_tt ?_ | refine wC_isi rfl k_tl ?_ | refine wC_isi rfl k_ll ?_ | refine wC_isi rfl k_lt ?_ | refine wC_isi rfl k_sb ?_ | refine wC_isi rfl k_si ?_
  | refine wC_isi rfl k_bb ?_ | refine wC_isi rfl k_bi ?_ | refine wC_isi rfl k_st ?_ | refine wC_isi rfl k_sl ?_ | refine wC_isi rfl k_il ?_ | refine wC_isi rfl k_it ?_
  | refine wC_isi2 rfl k_tl k_tt ?_ | refine wC_isi2 rfl k_ll k_lt ?_ | refine wC_isi2 rfl k_il k_it ?_ | refine wC_isi2 rfl k_sl k_st ?_ | refine wC_isi2 rfl k_ib k_is ?_ | refine wC_isi2 rfl k_sb k_ss ?_)
local macro_rules | `(tactic| walk_at "dE") => `(tactic| first
  | with_reducible refine wE_var rfl ?_ | with_reducible refine wE_op ?_ | with_reducible refine wE_int ?_ | with_reducible refine wE_call ?_ | with_reducible refine wE_str ?_
  | with_reducible refine wE_lenSet ?_ | with_reducible refine wE_sortedSet ?_ | with_reducible refine wE_cb ?_ | with_reducible refine wE_and ?_ | with_reducible refine wE_or ?_ | with_reducible refine wE_not ?_ | with_reducible refine wE_if ?_
  | with_reducible refine wE_tup ?_ | with_reducible refine wE_ty ?_ | with_reducible refine wE_bl ?_ | with_reducible refine wE_non ?_ | with_reducible refine wE_chain ?_ | with_reducible refine wE_un ?_ | with_reducible refine wE_slice ?_)
local macro_rules | `(tactic| walk_at "dS") => `(tactic| first
  | with_reducible refine wS_seq ?_ | with_reducible refine wS_set ?_ | with_reducible refine wS_if ?_ | with_reducible refine wS_drop ?_ | with_reducible refine wS_next ?_ | with_reducible refine wS_ret ?_ | with_reducible refine wS_asg ?_
  | with_reducible refine wS_cont ?_ | with_reducible refine wS_par ?_ | with_reducible refine wS_for ?_)
local macro_rules | `(tactic| walk_at "dT") => `(tactic| first
  | with_reducible refine wT_test ?_ | with_reducible refine wT_B ?_ | with_reducible refine wT_and ?_ | with_reducible refine wT_or ?_ | with_reducible refine wT_not ?_)
local macro_rules | `(tactic| walk_at "dO") => `(tactic| first
  | with_reducible refine wO_int ?_ | with_reducible refine wO_intB ?_ | with_reducible refine wO_eqI ?_ | with_reducible refine wO_eqS ?_ | with_reducible refine wO_neI ?_ | with_reducible refine wO_eqB ?_ | with_reducible refine wO_neB ?_
  | with_reducible refine wO_isN ?_ | with_reducible refine wO_notN ?_ | (refine wO_ixT (by walk_at "ix") ?_))
local macro_rules | `(tactic| walk_at "dC") => `(tactic| first
  | walk_at "isi" | (refine wC_len (.inl rfl) ?_) | with_reducible refine wC_intI ?_ | with_reducible refine wC_intB ?_ | with_reducible refine wC_abs ?_ | with_reducible refine wC_min ?_)
local macro_rules | `(tactic| walk_at "d") => `(tactic| first
  | ((with_reducible refine isE ?_); walk_at "dE")
  | ((with_reducible refine isA ?_); first | with_reducible refine wA_cons ?_ | with_reducible refine wA_nil ?_)
  | ((with_reducible refine isO ?_); walk_at "dO")
  | ((with_reducible refine isS ?_); walk_at "dS")
  | ((with_reducible refine isT ?_); walk_at "dT")
  | ((with_reducible refine isC ?_); walk_at "dC")
  | with_reducible refine wG_name ?_ | ((with_reducible refine isG ?_); refine wG_tup rfl ?_) | with_reducible refine wGs_cons ?_ | with_reducible refine wGs_nil ?_
  | with_reducible refine forL_cons ?_ | with_reducible refine forL_nil ?_
  | with_reducible refine wP_none ?_ | with_reducible refine wP_some ?_)
local macro_rules | `(tactic| walk_at "D") => `(tactic| repeat (first | walk_at "d" | walk_at "t" | walk_at "b"))

section
variable {P : Program} {w : World} {K : PySem.W.Frag} {mg : Str → Option Value} {base : Heap} {cU : Addr}
/-- spots of some elders -/
def RSpots (ds : List Dt) (r : Dt) : Prop := ∃ (sizes els : List Nat) (ps : List Spot), ds = [.tup (sizes.map natD), .tup (els.map natD), .tup (ps.map spotD)] ∧ okSpots sizes els ps ∧ r = .bl true
def natP (p : Spot) : Int × Int := ((p.1 : Int), (p.2 : Int))
theorem spot_pair (ps : List Spot) : ps.map spotD = (ps.map natP).map DL.pairD := by rw [List.map_map]; rfl
theorem natP_nd {ps : List Spot} (h : ps.Nodup) : (ps.map natP).Nodup := by
  refine List.Pairwise.map _ (fun a b hab e => hab ?_) h
  have e1 : (a.1 : Int) = (b.1 : Int) := congrArg Prod.fst e
  have e2 : (a.2 : Int) = (b.2 : Int) := congrArg Prod.snd e
  exact Prod.ext (by omega) (by omega)
theorem c_are_spots (T_are_spots : HasFn K mg "are_spots" s_are_spots ["sizes", "elders", "thing"]) (B : Bt mg) (c_is_spot : Cal P w K mg base 3 "is_spot" ["sizes", "elders", "thing"] (spD cU (PC RSpot))) : Cal P w K mg base (3 + 1) "are_spots" ["sizes", "elders", "thing"] (spD cU (PC RSpots)) := by
  refine fnC (3) T_are_spots sc_are_spots (fun ds μ Φ Ψ h => ?_) (fun f cdv A outer s H E hr => ⟨_,
    (pss_cons (ps_if (PW.pt (pw_or (pt_not (pt_val (pe_callB (isiK (K := K)) (by rfl) B.isinstance_ (by decide +kernel) (pa_cons (pv 2) (pa_cons (pe_bltn (v := .ty "tuple") (by rfl) B.tuple_ (by decide +kernel) rfl) pa_nil))))) (pw_or1 (pt_not (pt_val (pe_callB (allK (K := K) rfl) (by rfl) B.all_ (by decide +kernel) (pa_cons (pe_lc (own := [("own", 3)]) (g := (gName 3)) rfl sc_are_spots.nd (pi_tupK (K := K) (pv 2)) (blkOk_by (own := [("own", 3)]) (N := ["sizes", "elders", "thing", "own"]) (sc := defScope s_are_spots) (by decide +kernel)) (fun _ _ _ _ _ => (pg_name (i := 3) sc_are_spots.nd rfl (by first | exact Or.inl rfl | exact Or.inr rfl))) (fun _ _ _ _ _ => pts_nil) (fun _ _ _ _ _ => (pe_cal c_is_spot (hr.mono (by omega)) (by rfl) (pa_cons (pv 0) (pa_cons (pv 1) (pa_cons (pv 3) pa_nil)))))) pa_nil))))))) (pss_one (ps_ret pe_bl)) pss_nil)
    (pss_one (ps_ret (pe_cmpR op_eq (pe_callB (lenSetK (K := K) (Pr := P) (w := w)) (by rfl) B.len_ (by decide +kernel) (pa_cons (pe_callTy (setTK (K := K) (Pr := P) (w := w) rfl hr.units) (by rfl) B.set_ (by decide +kernel) (pa_cons (pv 2) pa_nil)) pa_nil)) (pe_callB (lenK (K := K)) (by rfl) B.len_ (by decide +kernel) (pa_cons (pv 2) pa_nil)) (nomark _))))), fun ds μ Φ Ψ h => ?_⟩)
  · obtain ⟨r, ⟨sizes, els, p, rfl, _⟩, _⟩ := h; rfl
  · obtain ⟨r, ⟨sizes, els, ps, rfl, ok, rfl⟩, k⟩ := h
    walk_at "D"
    refine wE_lc mono_name (only_name (by decide)) (wI_tup ?_)
    walk_at "D"
    refine ⟨by rw [List.length_map]; have := ok.few; omega, ?_⟩
    refine all_true (fun d hd acc => ?_) ?_
    · obtain ⟨p, hp, rfl⟩ := List.mem_map.mp hd
      walk_at "D"
      exact ⟨_, ⟨sizes, els, p, rfl, ok.each p hp, rfl⟩, rfl, rfl⟩
    · walk_at "D"
      refine wC_all rfl (rep_bl _) ?_
      rw [rep_all]
      walk_at "D"
      refine ⟨ps.map natP, by rw [spot_pair], by rw [List.length_map]; have := ok.few; omega, natP_nd ok.nd, ?_⟩
      walk_at "D"
      refine .same ?_
      rw [List.length_map, List.length_map, decide_eq_true rfl]
      exact k
def RAsc (ds : List Dt) (r : Dt) : Prop := ∃ ps : List Spot, ds = [.tup (ps.map spotD)] ∧ ps.length ≤ 10 ∧ Asc ps ∧ r = .bl true
theorem rng_mem {n : Nat} {d : Dt} (h : d ∈ rngD n) : ∃ i, i < n ∧ d = .int (i : Int) := by
  obtain ⟨i, hi, rfl⟩ := List.mem_map.mp h
  exact ⟨i, List.mem_range.mp hi, rfl⟩
theorem rng_len (n : Nat) : (rngD n).length = n := by unfold rngD; rw [List.length_map, List.length_range]
theorem lex2 {a b : Spot} (h : a.1 < b.1 ∨ (a.1 = b.1 ∧ a.2 < b.2)) : HT.lexLt [(a.1 : Int), (a.2 : Int)] [(b.1 : Int), (b.2 : Int)] = true := by
  unfold HT.lexLt
  rcases h with h | ⟨h1, h2⟩
  · rw [if_neg (by omega)]
    exact decide_eq_true (by omega)
  · rw [if_pos (by omega)]
    unfold HT.lexLt
    rw [if_neg (by omega)]
    exact decide_eq_true (by omega)
theorem c_ascends (T_ascends : HasFn K mg "ascends" s_ascends ["row"]) (B : Bt mg) : Cal P w K mg base (0 + 1) "ascends" ["row"] (spD cU (PC RAsc)) := by
  refine fnC (0) T_ascends sc_ascends (fun ds μ Φ Ψ h => ?_) (fun f cdv A outer s H E hr => ⟨_,
    (pss_one (ps_ret (pe_callB (allK (K := K) rfl) (by rfl) B.all_ (by decide +kernel) (pa_cons (pe_lc (own := [("k", 1)]) (g := (gName 1)) rfl sc_ascends.nd (pi_range1 (by rfl) B.range_ (pa_cons (pe_op op_sub (pe_callB (lenK (K := K)) (by rfl) B.len_ (by decide +kernel) (pa_cons (pv 0) pa_nil)) pe_int) pa_nil)) (blkOk_by (own := [("k", 1)]) (N := ["row", "k"]) (sc := defScope s_ascends) (by decide +kernel)) (fun _ _ _ _ _ => (pg_name (i := 1) sc_ascends.nd rfl (by first | exact Or.inl rfl | exact Or.inr rfl))) (fun _ _ _ _ _ => pts_nil) (fun _ _ _ _ _ => (pe_cmpR (ltTK (K := K) hr.units0) (pe_ix (ix_tupK (K := K)) (pv 0) (pv 1) (fun _ _ => rfl)) (pe_ix (ix_tupK (K := K)) (pv 0) (pe_op op_add (pv 1) pe_int) (fun _ _ => rfl)) (nomark _)))) pa_nil)))), fun ds μ Φ Ψ h => ?_⟩)
  · obtain ⟨r, ⟨p, rfl, _⟩, _⟩ := h; rfl
  · obtain ⟨r, ⟨ps, rfl, few, ok, rfl⟩, k⟩ := h
    walk_at "D"
    refine wE_lc mono_name (only_name (by decide)) (wI_rng ?_)
    walk_at "D"
    refine ⟨by omega, by rw [List.length_map]; omega, ?_⟩
    have e0 : (((ps.map spotD).length : Int) - 1).toNat = ps.length - 1 := by rw [List.length_map]; omega
    rw [e0]
    refine ⟨by rw [rng_len]; omega, ?_⟩
    refine all_true (fun d hd acc => ?_) ?_
    · obtain ⟨i, hi, rfl⟩ := rng_mem hd
      have h1 : i < ps.length := by omega
      have h2 : i + 1 < ps.length := by omega
      have g1 : ps[i]? = some ps[i] := List.getElem?_eq_getElem h1
      have g2 : ps[i + 1]? = some ps[i + 1] := List.getElem?_eq_getElem h2
      walk_at "D"
      refine wO_ltT (ns := [(ps[i].1 : Int), (ps[i].2 : Int)]) (ms := [(ps[i + 1].1 : Int), (ps[i + 1].2 : Int)]) rfl rfl ?_
      exact ⟨by rw [lex2 (List.pairwise_iff_getElem.mp ok i (i + 1) h1 h2 (by omega))], rfl⟩
    · walk_at "D"
      refine wC_all rfl (rep_bl _) (.same ?_)
      rw [rep_all]
      exact k
def RFil (ds : List Dt) (r : Dt) : Prop := ∃ (sizes els : List Nat) (f : Fil), ds = [.tup (sizes.map natD), .tup (els.map natD), filD f] ∧ okFil sizes els f ∧ r = .bl true
theorem c_is_filling (T_is_filling : HasFn K mg "is_filling" s_is_filling ["sizes", "elders", "thing"]) (B : Bt mg) (c_is_spot : Cal P w K mg base 3 "is_spot" ["sizes", "elders", "thing"] (spD cU (PC RSpot))) (c_is_from : Cal P w K mg base 2 "is_from" ["thing", "least"] (spD cU (PC RFrom))) (c_are_spots : Cal P w K mg base 4 "are_spots" ["sizes", "elders", "thing"] (spD cU (PC RSpots))) (c_ascends : Cal P w K mg base 1 "ascends" ["row"] (spD cU (PC RAsc))) : Cal P w K mg base (4 + 1) "is_filling" ["sizes", "elders", "thing"] (spD cU (PC RFil)) := by
  refine fnC (4) T_is_filling sc_is_filling (fun ds μ Φ Ψ h => ?_) (fun f cdv A outer s H E hr => ⟨_,
    (pss_cons (ps_if (PW.pt (pw_or (pt_not (pt_val (pe_callB (isiK (K := K)) (by rfl) B.isinstance_ (by decide +kernel) (pa_cons (pv 2) (pa_cons (pe_bltn (v := .ty "tuple") (by rfl) B.tuple_ (by decide +kernel) rfl) pa_nil))))) (pw_or1 (pt_cmpR (ninK (K := K)) (pe_callB (lenK (K := K)) (by rfl) B.len_ (by decide +kernel) (pa_cons (pv 2) pa_nil)) (pe_tup (pa_cons pe_int (pa_cons pe_int pa_nil))) (by rfl))))) (pss_one (ps_ret pe_bl)) pss_nil)
    (pss_cons (ps_if (pt_cmpR op_eq (pe_callB (lenK (K := K)) (by rfl) B.len_ (by decide +kernel) (pa_cons (pv 2) pa_nil)) pe_int (nomark _)) (pss_one (ps_ret (pe_cmpR op_eq (pe_ix (ix_tupK (K := K)) (pv 2) pe_int (fun _ _ => rfl)) pe_str (nomark _)))) pss_nil)
    (pss_cons (ps_if (pt_cmpR op_eq (pe_ix (ix_tupK (K := K)) (pv 2) pe_int (fun _ _ => rfl)) pe_str (nomark _)) (pss_one (ps_ret (pe_cal c_is_spot (hr.mono (by omega)) (by rfl) (pa_cons (pv 0) (pa_cons (pv 1) (pa_cons (pe_slice (sl_tupK (K := K)) (pv 2) (po_some pe_int) po_none) pa_nil)))))) pss_nil)
    (pss_one (ps_ret (pe_and (pe_cmpR op_eq (pe_ix (ix_tupK (K := K)) (pv 2) pe_int (fun _ _ => rfl)) pe_str (nomark _)) (pe_and (pe_cal c_is_from (hr.mono (by omega)) (by rfl) (pa_cons (pe_ix (ix_tupK (K := K)) (pv 2) pe_int (fun _ _ => rfl)) (pa_cons pe_int pa_nil))) (pe_and (pe_cal c_are_spots (hr.mono (by omega)) (by rfl) (pa_cons (pv 0) (pa_cons (pv 1) (pa_cons (pe_ix (ix_tupK (K := K)) (pv 2) pe_int (fun _ _ => rfl)) pa_nil)))) (pe_one (pe_cal c_ascends (hr.mono (by omega)) (by rfl) (pa_cons (pe_ix (ix_tupK (K := K)) (pv 2) pe_int (fun _ _ => rfl)) pa_nil))))))))))), fun ds μ Φ Ψ h => ?_⟩)
  · obtain ⟨r, ⟨sizes, els, p, rfl, _⟩, _⟩ := h; rfl
  · obtain ⟨r, ⟨sizes, els, fl, rfl, ok, rfl⟩, k⟩ := h
    cases fl with
    | none =>
      simp only [filD]
      walk_at "D"
      refine wO_ninI (ns := [1, 3]) ?_
      walk_at "D"
      exact .same k
    | kept p q =>
      simp only [filD]
      walk_at "D"
      refine wO_ninI (ns := [1, 3]) ?_
      walk_at "D"
      refine wSl_tup ?_
      walk_at "D"
      exact ⟨_, ⟨sizes, els, (p, q), rfl, ok, rfl⟩, .same k⟩
    | new c ws =>
      obtain ⟨o1, o2, o3⟩ := ok
      simp only [filD]
      walk_at "D"
      refine wO_ninI (ns := [1, 3]) ?_
      walk_at "D"
      refine ⟨_, ⟨_, _, rfl, rfl⟩, ?_⟩
      rw [decide_eq_true o1]
      walk_at "D"
      refine ⟨_, ⟨sizes, els, ws, rfl, o2, rfl⟩, ?_⟩
      walk_at "D"
      exact ⟨_, ⟨ws, rfl, o2.few, o3, rfl⟩, .same k⟩
end
end PB
namespace PB
open PySem PySem.Spec PyProof.Rows L2 DL
local macro_rules | `(tactic| walk_at "ix") => `(tactic| first
  | with_reducible exact at0 | with_reducible exact at1 | with_reducible exact at2 | with_reducible exact at3 | with_reducible exact at4 | with_reducible exact at_map (by assumption) | with_reducible exact at_nat (by assumption)
  | exact at0 | exact at1 | exact at2 | exact at3 | exact at4 | exact at_nat (by assumption) | exact at_map (by assumption) | rfl)
local macro_rules | `(tactic| walk_at "b") => `(tactic| first
  | refine ⟨true, rfl, fun _ => ?_, fun hx => tf hx⟩
  | refine ⟨false, rfl, fun hx => ft hx, fun _ => ?_⟩
  | refine ⟨true, rfl, fun hx => ft hx, fun _ => ?_⟩
  | refine ⟨false, rfl, fun _ => ?_, fun hx => tf hx⟩
  | refine ⟨_, rfl, ?_⟩)
local macro_rules | `(tactic| walk_at "t") => `(tactic| first
  | refine ⟨Nat.le_of_ble_eq_true rfl, ?_⟩
  | refine ⟨fun _ => ?_, fun hx => tf hx⟩
  | refine ⟨fun hx => ft hx, fun _ => ?_⟩)
local macro_rules | `(tactic| walk_at "isi") => `(tactic| first
  | refine wC_isi rfl k_ii ?_ | refine wC_isi rfl k_ib ?_ | refine wC_isi rfl k_tt ?_ | refine wC_isi rfl k_tl ?_ | refine wC_isi rfl k_ll ?_ | refine wC_isi rfl k_lt ?_ | refine wC_isi rfl k_sb ?_ | refine wC_isi rfl k_si ?_
  | refine wC_isi rfl k_bb ?_ | refine wC_isi rfl k_bi ?_ | refine wC_isi rfl k_st ?_ | refine wC_isi rfl k_sl ?_ | refine wC_isi rfl k_il ?_ | refine wC_isi rfl k_it ?_
  | refine wC_isi2 rfl k_tl k_tt ?_ | refine wC_isi2 rfl k_ll k_lt ?_ | refine wC_isi2 rfl k_il k_it ?_ | refine wC_isi2 rfl k_sl k_st ?_ | refine wC_isi2 rfl k_ib k_is ?_ | refine wC_isi2 rfl k_sb k_ss ?_)
local macro_rules | `(tactic| walk_at "dE") => `(tactic| first
  | with_reducible refine wE_var rfl ?_ | with_reducible refine wE_op ?_ | with_reducible refine wE_int ?_ | with_reducible refine wE_call ?_ | with_reducible refine wE_str ?_
  | with_reducible refine wE_lenSet ?_ | with_reducible refine wE_sortedSet ?_ | with_reducible refine wE_cb ?_ | with_reducible refine wE_and ?_ | with_reducible refine wE_or ?_ | with_reducible refine wE_not ?_ | with_reducible refine wE_if ?_
  | with_reducible refine wE_tup ?_ | with_reducible refine wE_ty ?_ | with_reducible refine wE_bl ?_ | with_reducible refine wE_non ?_ | with_reducible refine wE_chain ?_ | with_reducible refine wE_un ?_ | with_reducible refine wE_slice ?_)
local macro_rules | `(tactic| walk_at "dS") => `(tactic| first
  | with_reducible refine wS_seq ?_ | with_reducible refine wS_set ?_ | with_reducible refine wS_if ?_ | with_reducible refine wS_drop ?_ | with_reducible refine wS_next ?_ | with_reducible refine wS_ret ?_ | with_reducible refine wS_asg ?_
  | with_reducible refine wS_cont ?_ | with_reducible refine wS_par ?_ | with_reducible refine wS_for ?_)
local macro_rules | `(tactic| walk_at "dT") => `(tactic| first
  | with_reducible refine wT_test ?_ | with_reducible refine wT_B ?_ | with_reducible refine wT_and ?_ | with_reducible refine wT_or ?_ | with_reducible refine wT_not ?_)
local macro_rules | `(tactic| walk_at "dO") => `(tactic| first
  | with_reducible refine wO_int ?_ | with_reducible refine wO_intB ?_ | with_reducible refine wO_eqI ?_ | with_reducible refine wO_eqS ?_ | with_reducible refine wO_neI ?_ | with_reducible refine wO_eqB ?_ | with_reducible refine wO_neB ?_
  | with_reducible refine wO_isN ?_ | with_reducible refine wO_notN ?_ | (refine wO_ixT (by walk_at "ix") ?_))
local macro_rules | `(tactic| walk_at "dC") => `(tactic| first
  | walk_at "isi" | (refine wC_len (.inl rfl) ?_) | with_reducible refine wC_intI ?_ | with_reducible refine wC_intB ?_ | with_reducible refine wC_abs ?_ | with_reducible refine wC_min ?_)
local macro_rules | `(tactic| walk_at "d") => `(tactic| first
  | ((with_reducible refine isE ?_); walk_at "dE")
  | ((with_reducible refine isA ?_); first | with_reducible refine wA_cons ?_ | with_reducible refine wA_nil ?_)
  | ((with_reducible refine isO ?_); walk_at "dO")
  | ((with_reducible refine isS ?_); walk_at "dS")
  | ((with_reducible refine isT ?_); walk_at "dT")
  | ((with_reducible refine isC ?_); walk_at "dC")
  | with_reducible refine wG_name ?_ | ((with_reducible refine isG ?_); refine wG_tup rfl ?_) | with_reducible refine wGs_cons ?_ | with_reducible refine wGs_nil ?_
  | with_reducible refine forL_cons ?_ | with_reducible refine forL_nil ?_
  | with_reducible refine wP_none ?_ | with_reducible refine wP_some ?_)
local macro_rules | `(tactic| walk_at "D") => `(tactic| repeat (first | walk_at "d" | walk_at "t" | walk_at "b"))

section
variable {P : Program} {w : World} {K : PySem.W.Frag} {mg : Str → Option Value} {base : Heap} {cU : Addr}
def RRow (ds : List Dt) (r : Dt) : Prop := ∃ (sizes : List Nat) (o : Row), ds = [.tup (sizes.map natD), rowD o] ∧ okRow sizes o ∧ o.slots.length ≤ 10 ∧ r = .bl true
theorem c_is_row (T_is_row : HasFn K mg "is_row" s_is_row ["sizes", "thing"]) (B : Bt mg) (c_is_within : Cal P w K mg base 2 "is_within" ["thing", "least", "most"] (spD cU (PC RWithin))) (c_is_from : Cal P w K mg base 2 "is_from" ["thing", "least"] (spD cU (PC RFrom))) (c_are_spots : Cal P w K mg base 4 "are_spots" ["sizes", "elders", "thing"] (spD cU (PC RSpots))) (c_is_filling : Cal P w K mg base 5 "is_filling" ["sizes", "elders", "thing"] (spD cU (PC RFil))) : Cal P w K mg base (5 + 1) "is_row" ["sizes", "thing"] (spD cU (PC RRow)) := by
  refine fnC (5) T_is_row sc_is_row (fun ds μ Φ Ψ h => ?_) (fun f cdv A outer s H E hr => ⟨_,
    (pss_cons (ps_if (PW.pt (pw_or (pt_not (pt_val (pe_callB (isiK (K := K)) (by rfl) B.isinstance_ (by decide +kernel) (pa_cons (pv 1) (pa_cons (pe_bltn (v := .ty "tuple") (by rfl) B.tuple_ (by decide +kernel) rfl) pa_nil))))) (pw_or1 (pt_cmpR op_ne (pe_callB (lenK (K := K)) (by rfl) B.len_ (by decide +kernel) (pa_cons (pv 1) pa_nil)) pe_int (nomark _))))) (pss_one (ps_ret pe_bl)) pss_nil)
    (pss_cons (ps_asg (pv 1) (pg_tupK (K := K) (n := 5) rfl (pgs_cons (pg_name (i := 2) sc_is_row.nd rfl (by first | exact Or.inl rfl | exact Or.inr rfl)) (pgs_cons (pg_name (i := 3) sc_is_row.nd rfl (by first | exact Or.inl rfl | exact Or.inr rfl)) (pgs_cons (pg_name (i := 4) sc_is_row.nd rfl (by first | exact Or.inl rfl | exact Or.inr rfl)) (pgs_cons (pg_name (i := 5) sc_is_row.nd rfl (by first | exact Or.inl rfl | exact Or.inr rfl)) (pgs_cons (pg_name (i := 6) sc_is_row.nd rfl (by first | exact Or.inl rfl | exact Or.inr rfl)) pgs_nil)))))))
    (pss_cons (ps_if (PW.pt (pw_or (pt_not (pt_val (pe_callB (isiK (K := K)) (by rfl) B.isinstance_ (by decide +kernel) (pa_cons (pv 2) (pa_cons (pe_bltn (v := .ty "tuple") (by rfl) B.tuple_ (by decide +kernel) rfl) pa_nil))))) (pw_or1 (pt_cmpR op_gt (pe_callB (lenK (K := K)) (by rfl) B.len_ (by decide +kernel) (pa_cons (pv 2) pa_nil)) pe_int (nomark _))))) (pss_one (ps_ret pe_bl)) pss_nil)
    (pss_cons (ps_if (PW.pt (pw_or (pt_not (pt_val (pe_callB (allK (K := K) rfl) (by rfl) B.all_ (by decide +kernel) (pa_cons (pe_lc (own := [("own", 7)]) (g := (gName 7)) rfl sc_is_row.nd (pi_tupK (K := K) (pv 2)) (blkOk_by (own := [("own", 7)]) (N := ["sizes", "thing", "elders", "looks", "cost", "shape", "slots", "own"]) (sc := defScope s_is_row) (by decide +kernel)) (fun _ _ _ _ _ => (pg_name (i := 7) sc_is_row.nd rfl (by first | exact Or.inl rfl | exact Or.inr rfl))) (fun _ _ _ _ _ => pts_nil) (fun _ _ _ _ _ => (pe_cal c_is_within (hr.mono (by omega)) (by rfl) (pa_cons (pv 7) (pa_cons pe_int (pa_cons (pe_op op_sub (pe_callB (lenK (K := K)) (by rfl) B.len_ (by decide +kernel) (pa_cons (pv 0) pa_nil)) pe_int) pa_nil)))))) pa_nil)))) (pw_or1 (pt_not (pt_val (pe_cal c_are_spots (hr.mono (by omega)) (by rfl) (pa_cons (pv 0) (pa_cons (pv 2) (pa_cons (pv 3) pa_nil))))))))) (pss_one (ps_ret pe_bl)) pss_nil)
    (pss_cons (ps_if (PW.pt (pw_or (pt_not (pt_val (pe_cal c_is_from (hr.mono (by omega)) (by rfl) (pa_cons (pv 4) (pa_cons pe_int pa_nil))))) (pw_or1 (pt_not (pt_val (pe_cal c_is_within (hr.mono (by omega)) (by rfl) (pa_cons (pv 5) (pa_cons pe_int (pa_cons (pe_op op_sub (pe_callB (lenK (K := K)) (by rfl) B.len_ (by decide +kernel) (pa_cons (pv 0) pa_nil)) pe_int) pa_nil))))))))) (pss_one (ps_ret pe_bl)) pss_nil)
    (pss_cons (ps_if (PW.pt (pw_or (pt_not (pt_val (pe_callB (isiK (K := K)) (by rfl) B.isinstance_ (by decide +kernel) (pa_cons (pv 6) (pa_cons (pe_bltn (v := .ty "tuple") (by rfl) B.tuple_ (by decide +kernel) rfl) pa_nil))))) (pw_or1 (pt_cmpR op_ne (pe_callB (lenK (K := K)) (by rfl) B.len_ (by decide +kernel) (pa_cons (pv 6) pa_nil)) (pe_ix (ix_tupK (K := K)) (pv 0) (pv 5) (fun _ _ => rfl)) (nomark _))))) (pss_one (ps_ret pe_bl)) pss_nil)
    (pss_one (ps_ret (pe_callB (allK (K := K) rfl) (by rfl) B.all_ (by decide +kernel) (pa_cons (pe_lc (own := [("own", 7)]) (g := (gName 7)) rfl sc_is_row.nd (pi_tupK (K := K) (pv 6)) (blkOk_by (own := [("own", 7)]) (N := ["sizes", "thing", "elders", "looks", "cost", "shape", "slots", "own"]) (sc := defScope s_is_row) (by decide +kernel)) (fun _ _ _ _ _ => (pg_name (i := 7) sc_is_row.nd rfl (by first | exact Or.inl rfl | exact Or.inr rfl))) (fun _ _ _ _ _ => pts_nil) (fun _ _ _ _ _ => (pe_cal c_is_filling (hr.mono (by omega)) (by rfl) (pa_cons (pv 0) (pa_cons (pv 2) (pa_cons (pv 7) pa_nil)))))) pa_nil)))))))))), fun ds μ Φ Ψ h => ?_⟩)
  · obtain ⟨r, ⟨sizes, els, rfl, _⟩, _⟩ := h; rfl
  · obtain ⟨r, ⟨sizes, o, rfl, ok, few, rfl⟩, k⟩ := h
    simp only [rowD]
    walk_at "D"
    refine pf (df (by rw [List.length_map]; have := ok.few; omega)) ?_
    walk_at "D"
    refine wE_lc mono_name (only_name (by decide)) (wI_tup ?_)
    walk_at "D"
    refine ⟨by rw [List.length_map]; have := ok.few; omega, ?_⟩
    refine all_true (fun d hd acc => ?_) ?_
    · obtain ⟨e, he, rfl⟩ := List.mem_map.mp hd
      have hl := ok.els e he
      walk_at "D"
      refine ⟨_, ⟨_, _, _, rfl, rfl⟩, ?_⟩
      rw [win (by omega) (by rw [List.length_map]; omega)]
      exact ⟨rfl, rfl⟩
    walk_at "D"
    refine wC_all rfl (rep_bl _) ?_
    rw [rep_all]
    walk_at "D"
    refine ⟨_, ⟨sizes, _, _, rfl, ok.looks, rfl⟩, ?_⟩
    walk_at "D"
    refine ⟨_, ⟨_, _, rfl, rfl⟩, ?_⟩
    rw [decide_eq_true ok.cost]
    walk_at "D"
    refine ⟨_, ⟨_, _, _, rfl, rfl⟩, ?_⟩
    have hs : o.shape < sizes.length := (List.getElem?_eq_some_iff.mp ok.shape).1
    rw [win (by omega) (by rw [List.length_map]; omega)]
    walk_at "D"
    refine wO_ixT (at_map ok.shape) ?_
    walk_at "D"
    refine pf (nt (by rw [List.length_map])) ?_
    walk_at "D"
    refine wE_lc mono_name (only_name (by decide)) (wI_tup ?_)
    walk_at "D"
    refine ⟨by rw [List.length_map]; omega, ?_⟩
    refine all_true (fun d hd acc => ?_) ?_
    · obtain ⟨fl, hf, rfl⟩ := List.mem_map.mp hd
      walk_at "D"
      exact ⟨_, ⟨sizes, o.el, fl, rfl, ok.slots fl hf, rfl⟩, rfl, rfl⟩
    walk_at "D"
    refine wC_all rfl (rep_bl _) (.same ?_)
    rw [rep_all]
    exact k
def RCraft (ds : List Dt) (r : Dt) : Prop := (∃ c : Craft, ds = [craftD c] ∧ okCraft c ∧ r = .bl true) ∨ (∃ sizes : List Nat, ds = [.tup [.tup (sizes.map natD), .tup []]] ∧ 0 < sizes.length ∧ sizes.length ≤ 10 ∧ r = .bl false)
theorem c_is_craft (T_is_craft : HasFn K mg "is_craft" s_is_craft ["thing"]) (B : Bt mg) (c_is_from : Cal P w K mg base 2 "is_from" ["thing", "least"] (spD cU (PC RFrom))) (c_is_row : Cal P w K mg base 6 "is_row" ["sizes", "thing"] (spD cU (PC RRow))) : Cal P w K mg base (6 + 1) "is_craft" ["thing"] (spD cU (PC RCraft)) := by
  refine fnC (6) T_is_craft sc_is_craft (fun ds μ Φ Ψ h => ?_) (fun f cdv A outer s H E hr => ⟨_,
    (pss_cons (ps_if (PW.pt (pw_or (pt_not (pt_val (pe_callB (isiK (K := K)) (by rfl) B.isinstance_ (by decide +kernel) (pa_cons (pv 0) (pa_cons (pe_bltn (v := .ty "tuple") (by rfl) B.tuple_ (by decide +kernel) rfl) pa_nil))))) (pw_or1 (pt_cmpR op_ne (pe_callB (lenK (K := K)) (by rfl) B.len_ (by decide +kernel) (pa_cons (pv 0) pa_nil)) pe_int (nomark _))))) (pss_one (ps_ret pe_bl)) pss_nil)
    (pss_cons (ps_asg (pv 0) (pg_tupK (K := K) (n := 2) rfl (pgs_cons (pg_name (i := 1) sc_is_craft.nd rfl (by first | exact Or.inl rfl | exact Or.inr rfl)) (pgs_cons (pg_name (i := 2) sc_is_craft.nd rfl (by first | exact Or.inl rfl | exact Or.inr rfl)) pgs_nil))))
    (pss_cons (ps_if (PW.pt (pw_or (pt_not (pt_val (pe_callB (isiK (K := K)) (by rfl) B.isinstance_ (by decide +kernel) (pa_cons (pv 1) (pa_cons (pe_bltn (v := .ty "tuple") (by rfl) B.tuple_ (by decide +kernel) rfl) pa_nil))))) (pw_or (pt_cmpR op_eq (pe_callB (lenK (K := K)) (by rfl) B.len_ (by decide +kernel) (pa_cons (pv 1) pa_nil)) pe_int (nomark _)) (pw_or1 (pt_not (pt_val (pe_callB (allK (K := K) rfl) (by rfl) B.all_ (by decide +kernel) (pa_cons (pe_lc (own := [("own", 3)]) (g := (gName 3)) rfl sc_is_craft.nd (pi_tupK (K := K) (pv 1)) (blkOk_by (own := [("own", 3)]) (N := ["thing", "sizes", "rows", "own"]) (sc := defScope s_is_craft) (by decide +kernel)) (fun _ _ _ _ _ => (pg_name (i := 3) sc_is_craft.nd rfl (by first | exact Or.inl rfl | exact Or.inr rfl))) (fun _ _ _ _ _ => pts_nil) (fun _ _ _ _ _ => (pe_cal c_is_from (hr.mono (by omega)) (by rfl) (pa_cons (pv 3) (pa_cons pe_int pa_nil))))) pa_nil)))))))) (pss_one (ps_ret pe_bl)) pss_nil)
    (pss_one (ps_ret (pe_and (pe_callB (isiK (K := K)) (by rfl) B.isinstance_ (by decide +kernel) (pa_cons (pv 2) (pa_cons (pe_bltn (v := .ty "tuple") (by rfl) B.tuple_ (by decide +kernel) rfl) pa_nil))) (pe_and (pe_cmpR op_gt (pe_callB (lenK (K := K)) (by rfl) B.len_ (by decide +kernel) (pa_cons (pv 2) pa_nil)) pe_int (nomark _)) (pe_one (pe_callB (allK (K := K) rfl) (by rfl) B.all_ (by decide +kernel) (pa_cons (pe_lc (own := [("own", 3)]) (g := (gName 3)) rfl sc_is_craft.nd (pi_tupK (K := K) (pv 2)) (blkOk_by (own := [("own", 3)]) (N := ["thing", "sizes", "rows", "own"]) (sc := defScope s_is_craft) (by decide +kernel)) (fun _ _ _ _ _ => (pg_name (i := 3) sc_is_craft.nd rfl (by first | exact Or.inl rfl | exact Or.inr rfl))) (fun _ _ _ _ _ => pts_nil) (fun _ _ _ _ _ => (pe_cal c_is_row (hr.mono (by omega)) (by rfl) (pa_cons (pv 1) (pa_cons (pv 3) pa_nil))))) pa_nil)))))))))), fun ds μ Φ Ψ h => ?_⟩)
  · obtain ⟨r, h, _⟩ := h
    rcases h with ⟨c, rfl, _⟩ | ⟨s, rfl, _⟩ <;> rfl
  · have key : ∀ (sizes : List Nat) (rows : List Dt), 0 < sizes.length → sizes.length ≤ 10 → ds = [.tup [.tup (sizes.map natD), .tup rows]] → True := fun _ _ _ _ _ => trivial
    obtain ⟨r, h, k⟩ := h
    rcases h with ⟨c, rfl, ok, rfl⟩ | ⟨sizes, rfl, h1, h2, rfl⟩
    · simp only [craftD]
      walk_at "D"
      have hs := ok.sizes
      refine pf (df (by rw [List.length_map]; omega)) ?_
      walk_at "D"
      refine wE_lc mono_name (only_name (by decide)) (wI_tup ?_)
      walk_at "D"
      refine ⟨by rw [List.length_map]; have := ok.small.2.1; omega, ?_⟩
      refine all_true (fun d hd acc => ?_) ?_
      · obtain ⟨e, he, rfl⟩ := List.mem_map.mp hd
        walk_at "D"
        refine ⟨_, ⟨_, _, rfl, rfl⟩, ?_⟩
        rw [decide_eq_true (by omega)]
        exact ⟨rfl, rfl⟩
      walk_at "D"
      refine wC_all rfl (rep_bl _) ?_
      rw [rep_all]
      walk_at "D"
      have hr' := ok.rows
      refine pt (dt (by rw [List.length_map]; omega)) ?_
      walk_at "D"
      refine wE_lc mono_name (only_name (by decide)) (wI_tup ?_)
      walk_at "D"
      refine ⟨by rw [List.length_map]; have := ok.small.1; omega, ?_⟩
      refine all_true (fun d hd acc => ?_) ?_
      · obtain ⟨o, ho, rfl⟩ := List.mem_map.mp hd
        walk_at "D"
        exact ⟨_, ⟨c.sizes, o, rfl, ok.each o ho, ok.small.2.2 o ho, rfl⟩, rfl, rfl⟩
      walk_at "D"
      refine wC_all rfl (rep_bl _) (.same ?_)
      rw [rep_all]
      exact k
    · walk_at "D"
      refine pf (df (by rw [List.length_map]; omega)) ?_
      walk_at "D"
      refine wE_lc mono_name (only_name (by decide)) (wI_tup ?_)
      walk_at "D"
      refine ⟨by rw [List.length_map]; omega, ?_⟩
      refine all_true (fun d hd acc => ?_) ?_
      · obtain ⟨e, he, rfl⟩ := List.mem_map.mp hd
        walk_at "D"
        refine ⟨_, ⟨_, _, rfl, rfl⟩, ?_⟩
        rw [decide_eq_true (by omega)]
        exact ⟨rfl, rfl⟩
      walk_at "D"
      refine wC_all rfl (rep_bl _) ?_
      rw [rep_all]
      walk_at "D"
      exact .same k
end
end PB
namespace PB
open PySem PySem.Spec PyProof.Rows L2 DL
/-! tuples in the place of lists -/
mutual
def tupd : Dt → Dt
  | .tup ds => .tup (tupdL ds)
  | .lst ds => .tup (tupdL ds)
  | .non => .non
  | .bl b => .bl b
  | .int i => .int i
  | .str s => .str s
  | .ty n => .ty n
  | .reg j => .reg j
def tupdL : List Dt → List Dt
  | [] => []
  | d :: ds => tupd d :: tupdL ds
end
theorem tupdL_map : ∀ ds : List Dt, tupdL ds = ds.map tupd
  | [] => rfl
  | d :: ds => by rw [tupdL, tupdL_map ds]; rfl
inductive TD : Nat → Dt → Prop
  | int {n : Nat} (i : Int) : TD n (.int i)
  | str {n : Nat} (x : Str) : TD n (.str x)
  | tup {n : Nat} {ds : List Dt} (h : ∀ d ∈ ds, TD n d) (l : ds.length ≤ 1000) : TD (n + 1) (.tup ds)
  | lst {n : Nat} {ds : List Dt} (h : ∀ d ∈ ds, TD n d) (l : ds.length ≤ 1000) : TD (n + 1) (.lst ds)
theorem TD.pu : ∀ {n : Nat} {d : Dt}, TD n d → Pu (tupd d)
  | _, _, .int i => .int i
  | _, _, .str x => .str x
  | _, _, .tup (ds := ds) h _ => by
    rw [tupd, tupdL_map]
    exact .tup (PuL.of fun d hd => by obtain ⟨e, he, rfl⟩ := List.mem_map.mp hd; exact (h e he).pu)
  | _, _, .lst (ds := ds) h _ => by
    rw [tupd, tupdL_map]
    exact .tup (PuL.of fun d hd => by obtain ⟨e, he, rfl⟩ := List.mem_map.mp hd; exact (h e he).pu)
def RT : Nat → List Dt → Dt → Prop
  | 0 => fun _ _ => False
  | n + 1 => fun ds r => ∃ d, ds = [d] ∧ TD n d ∧ r = tupd d
local macro_rules | `(tactic| walk_at "ix") => `(tactic| first
  | with_reducible exact at0 | with_reducible exact at1 | with_reducible exact at2 | with_reducible exact at3 | with_reducible exact at4 | with_reducible exact at_map (by assumption) | with_reducible exact at_nat (by assumption)
  | exact at0 | exact at1 | exact at2 | exact at3 | exact at4 | exact at_nat (by assumption) | exact at_map (by assumption) | rfl)
local macro_rules | `(tactic| walk_at "b") => `(tactic| first
  | refine ⟨true, rfl, fun _ => ?_, fun hx => tf hx⟩
  | refine ⟨false, rfl, fun hx => ft hx, fun _ => ?_⟩
  | refine ⟨true, rfl, fun hx => ft hx, fun _ => ?_⟩
  | refine ⟨false, rfl, fun _ => ?_, fun hx => tf hx⟩
  | refine ⟨_, rfl, ?_⟩)
local macro_rules | `(tactic| walk_at "t") => `(tactic| first
  | refine ⟨Nat.le_of_ble_eq_true rfl, ?_⟩
  | refine ⟨fun _ => ?_, fun hx => tf hx⟩
  | refine ⟨fun hx => ft hx, fun _ => ?_⟩)
local macro_rules | `(tactic| walk_at "isi") => `(tactic| first
  | refine wC_isi rfl k_ii ?_ | refine wC_isi rfl k_ib ?_ | refine wC_isi rfl k_tt ?_ | refine wC_isi rfl k_tl ?_ | refine wC_isi rfl k_ll ?_ | refine wC_isi rfl k_lt ?_ | refine wC_isi rfl k_sb ?_ | refine wC_isi rfl k_si ?_
  | refine wC_isi rfl k_bb ?_ | refine wC_isi rfl k_bi ?_ | refine wC_isi rfl k_st ?_ | refine wC_isi rfl k_sl ?_ | refine wC_isi rfl k_il ?_ | refine wC_isi rfl k_it ?_
  | refine wC_isi2 rfl k_tl k_tt ?_ | refine wC_isi2 rfl k_ll k_lt ?_ | refine wC_isi2 rfl k_il k_it ?_ | refine wC_isi2 rfl k_sl k_st ?_ | refine wC_isi2 rfl k_ib k_is ?_ | refine wC_isi2 rfl k_sb k_ss ?_)
local macro_rules | `(tactic| walk_at "dE") => `(tactic| first
  | with_reducible refine wE_var rfl ?_ | with_reducible refine wE_op ?_ | with_reducible refine wE_int ?_ | with_reducible refine wE_call ?_ | with_reducible refine wE_str ?_
  | with_reducible refine wE_lenSet ?_ | with_reducible refine wE_sortedSet ?_ | with_reducible refine wE_cb ?_ | with_reducible refine wE_and ?_ | with_reducible refine wE_or ?_ | with_reducible refine wE_not ?_ | with_reducible refine wE_if ?_
  | with_reducible refine wE_tup ?_ | with_reducible refine wE_ty ?_ | with_reducible refine wE_bl ?_ | with_reducible refine wE_non ?_ | with_reducible refine wE_chain ?_ | with_reducible refine wE_un ?_ | with_reducible refine wE_slice ?_)
local macro_rules | `(tactic| walk_at "dS") => `(tactic| first
  | with_reducible refine wS_seq ?_ | with_reducible refine wS_set ?_ | with_reducible refine wS_if ?_ | with_reducible refine wS_drop ?_ | with_reducible refine wS_next ?_ | with_reducible refine wS_ret ?_ | with_reducible refine wS_asg ?_
  | with_reducible refine wS_cont ?_ | with_reducible refine wS_par ?_ | with_reducible refine wS_for ?_)
local macro_rules | `(tactic| walk_at "dT") => `(tactic| first
  | with_reducible refine wT_test ?_ | with_reducible refine wT_B ?_ | with_reducible refine wT_and ?_ | with_reducible refine wT_or ?_ | with_reducible refine wT_not ?_)
local macro_rules | `(tactic| walk_at "dO") => `(tactic| first
  | with_reducible refine wO_int ?_ | with_reducible refine wO_intB ?_ | with_reducible refine wO_eqI ?_ | with_reducible refine wO_eqS ?_ | with_reducible refine wO_neI ?_ | with_reducible refine wO_eqB ?_ | with_reducible refine wO_neB ?_
  | with_reducible refine wO_isN ?_ | with_reducible refine wO_notN ?_ | (refine wO_ixT (by walk_at "ix") ?_))
local macro_rules | `(tactic| walk_at "dC") => `(tactic| first
  | walk_at "isi" | (refine wC_len (.inl rfl) ?_) | with_reducible refine wC_intI ?_ | with_reducible refine wC_intB ?_ | with_reducible refine wC_abs ?_ | with_reducible refine wC_min ?_)
local macro_rules | `(tactic| walk_at "d") => `(tactic| first
  | ((with_reducible refine isE ?_); walk_at "dE")
  | ((with_reducible refine isA ?_); first | with_reducible refine wA_cons ?_ | with_reducible refine wA_nil ?_)
  | ((with_reducible refine isO ?_); walk_at "dO")
  | ((with_reducible refine isS ?_); walk_at "dS")
  | ((with_reducible refine isT ?_); walk_at "dT")
  | ((with_reducible refine isC ?_); walk_at "dC")
  | with_reducible refine wG_name ?_ | ((with_reducible refine isG ?_); refine wG_tup rfl ?_) | with_reducible refine wGs_cons ?_ | with_reducible refine wGs_nil ?_
  | with_reducible refine forL_cons ?_ | with_reducible refine forL_nil ?_
  | with_reducible refine wP_none ?_ | with_reducible refine wP_some ?_)
local macro_rules | `(tactic| walk_at "D") => `(tactic| repeat (first | walk_at "d" | walk_at "t" | walk_at "b"))

section
variable {P : Program} {w : World} {K : PySem.W.Frag} {mg : Str → Option Value} {base : Heap} {cU : Addr}
theorem c_tupled (T_tupled : HasFn K mg "tupled" s_tupled ["value"]) (B : Bt mg) {n : Nat} (c_tupled : Cal P w K mg base n "tupled" ["value"] (spD cU (PC (RT n)))) : Cal P w K mg base (n + 1) "tupled" ["value"] (spD cU (PC (RT (n + 1)))) := by
  refine fnC (n) T_tupled sc_tupled (fun ds μ Φ Ψ h => ?_) (fun f cdv A outer s H E hr => ⟨_,
    (pss_one (ps_ret (pe_ifExp (pt_val (pe_callB (isi2K (K := K)) (by rfl) B.isinstance_ (by decide +kernel) (pa_cons (pv 0) (pa_cons (pe_tup (pa_cons (pe_bltn (v := .ty "list") (by rfl) B.list_ (by decide +kernel) rfl) (pa_cons (pe_bltn (v := .ty "tuple") (by rfl) B.tuple_ (by decide +kernel) rfl) pa_nil))) pa_nil)))) (pe_callTy (tupleK (K := K)) (by rfl) B.tuple_ (by decide +kernel) (pa_cons (pe_lc (own := [("own", 1)]) (g := (gName 1)) rfl sc_tupled.nd (pi_seqK (K := K) (pv 0)) (blkOk_by (own := [("own", 1)]) (N := ["value", "own"]) (sc := defScope s_tupled) (by decide +kernel)) (fun _ _ _ _ _ => (pg_name (i := 1) sc_tupled.nd rfl (by first | exact Or.inl rfl | exact Or.inr rfl))) (fun _ _ _ _ _ => pts_nil) (fun _ _ _ _ _ => (pe_cal c_tupled (hr.mono (by omega)) (by rfl) (pa_cons (pv 1) pa_nil)))) pa_nil)) (pv 0)))), fun ds μ Φ Ψ h => ?_⟩)
  · obtain ⟨r, ⟨d, rfl, _⟩, _⟩ := h; rfl
  · obtain ⟨r, ⟨d, rfl, td, rfl⟩, k⟩ := h
    cases td with
    | int i =>
      walk_at "D"
      exact .same k
    | str x =>
      walk_at "D"
      exact .same k
    | @tup n es he hl =>
      walk_at "D"
      refine wE_lc mono_name (only_name (by decide)) (wI_seq ?_)
      walk_at "D"
      refine ⟨es, .inl rfl, by omega, comp_map (f := tupd) (fun d hd acc => ?_) (fun d hd => (he d hd).pu) ?_⟩
      · walk_at "D"
        exact ⟨_, ⟨d, rfl, he d hd, rfl⟩, rfl, rfl⟩
      walk_at "D"
      refine wC_tuple rfl (.same ?_)
      rw [List.nil_append, ← tupdL_map]
      exact k
    | @lst n es he hl =>
      walk_at "D"
      refine wE_lc mono_name (only_name (by decide)) (wI_seq ?_)
      walk_at "D"
      refine ⟨es, .inr rfl, by omega, comp_map (f := tupd) (fun d hd acc => ?_) (fun d hd => (he d hd).pu) ?_⟩
      · walk_at "D"
        exact ⟨_, ⟨d, rfl, he d hd, rfl⟩, rfl, rfl⟩
      walk_at "D"
      refine wC_tuple rfl (.same ?_)
      rw [List.nil_append, ← tupdL_map]
      exact k
theorem c_tupledN (T_tupled : HasFn K mg "tupled" s_tupled ["value"]) (B : Bt mg) : ∀ n : Nat, Cal P w K mg base n "tupled" ["value"] (spD cU (PC (RT n)))
  | 0 => Cal.zero T_tupled fun ds μ Φ Ψ h => by obtain ⟨r, h, _⟩ := h; exact h
  | n + 1 => c_tupled T_tupled B (c_tupledN T_tupled B n)
def RSureC (ds : List Dt) (r : Dt) : Prop := ∃ (d : Dt) (c : Craft), ds = [d] ∧ TD 7 d ∧ tupd d = craftD c ∧ okCraft c ∧ r = craftD c
theorem c_sure_craft (T_sure_craft : HasFn K mg "sure_craft" s_sure_craft ["craft"]) (B : Bt mg) (c_tupled : Cal P w K mg base 8 "tupled" ["value"] (spD cU (PC (RT 8)))) (c_is_craft : Cal P w K mg base 7 "is_craft" ["thing"] (spD cU (PC RCraft))) : Cal P w K mg base (8 + 1) "sure_craft" ["craft"] (spD cU (PC RSureC)) := by
  refine fnC (8) T_sure_craft sc_sure_craft (fun ds μ Φ Ψ h => ?_) (fun f cdv A outer s H E hr => ⟨_,
    (pss_cons (ps_set (i := 1) sc_sure_craft.nd rfl (by first | exact Or.inl rfl | exact Or.inr rfl) (pe_cal c_tupled (hr.mono (by omega)) (by rfl) (pa_cons (pv 0) pa_nil)))
    (pss_cons (ps_if (pt_not (pt_val (pe_cal c_is_craft (hr.mono (by omega)) (by rfl) (pa_cons (pv 1) pa_nil)))) (pss_one ps_never) pss_nil)
    (pss_one (ps_ret (pv 1))))), fun ds μ Φ Ψ h => ?_⟩)
  · obtain ⟨r, ⟨d, c, rfl, _⟩, _⟩ := h; rfl
  · obtain ⟨r, ⟨d, c, rfl, td, e, ok, rfl⟩, k⟩ := h
    walk_at "D"
    refine ⟨_, ⟨d, rfl, td, rfl⟩, ?_⟩
    rw [e]
    walk_at "D"
    refine ⟨_, .inl ⟨c, rfl, ok, rfl⟩, ?_⟩
    walk_at "D"
    exact .same k
end
end PB
namespace PB
open PySem PySem.Spec PyProof.Rows L2 DL
/-! webs of a craft -/
/-- a version behind a web -/
def okVer (c : Craft) (wb : Web) (v : Ver) : Prop := ∃ row, c.rows[v.1]? = some row ∧ v.2.length = row.el.length ∧
  ∀ (i e s : Nat), v.2[i]? = some e → row.el[i]? = some s → ∃ ve re, wb[e]? = some ve ∧ c.rows[ve.1]? = some re ∧ re.shape = s
def okWeb (c : Craft) (wb : Web) : Prop := wb.length ≤ 60 ∧ ∀ (i : Nat) (v : Ver), wb[i]? = some v → okVer c (wb.take i) v
/-- a first version that has elders -/
def badVer (c : Craft) (v : Ver) : Prop := ∃ row, c.rows[v.1]? = some row ∧ v.2.length = row.el.length ∧ v.2 ≠ []
theorem okVer.mono {c : Craft} {wb : Web} {v : Ver} {n : Nat} (h : okVer c (wb.take n) v) : okVer c wb v := by
  obtain ⟨row, h1, h2, h3⟩ := h
  refine ⟨row, h1, h2, fun i e s a b => ?_⟩
  obtain ⟨ve, re, q1, q2, q3⟩ := h3 i e s a b
  have hl := (List.getElem?_eq_some_iff.mp q1).1
  rw [List.length_take] at hl
  rw [List.getElem?_take_of_lt (by omega)] at q1
  exact ⟨ve, re, q1, q2, q3⟩
local macro_rules | `(tactic| walk_at "ix") => `(tactic| first
  | with_reducible exact at0 | with_reducible exact at1 | with_reducible exact at2 | with_reducible exact at3 | with_reducible exact at4 | with_reducible exact at_map (by assumption) | with_reducible exact at_nat (by assumption)
  | exact at0 | exact at1 | exact at2 | exact at3 | exact at4 | exact at_nat (by assumption) | exact at_map (by assumption) | rfl)
local macro_rules | `(tactic| walk_at "b") => `(tactic| first
  | refine ⟨true, rfl, fun _ => ?_, fun hx => tf hx⟩
  | refine ⟨false, rfl, fun hx => ft hx, fun _ => ?_⟩
  | refine ⟨true, rfl, fun hx => ft hx, fun _ => ?_⟩
  | refine ⟨false, rfl, fun _ => ?_, fun hx => tf hx⟩
  | refine ⟨_, rfl, ?_⟩)
local macro_rules | `(tactic| walk_at "t") => `(tactic| first
  | refine ⟨Nat.le_of_ble_eq_true rfl, ?_⟩
  | refine ⟨fun _ => ?_, fun hx => tf hx⟩
  | refine ⟨fun hx => ft hx, fun _ => ?_⟩)
local macro_rules | `(tactic| walk_at "isi") => `(tactic| first
  | refine wC_isi rfl k_ii ?_ | refine wC_isi rfl k_ib ?_ | refine wC_isi rfl k_tt ?_ | refine wC_isi rfl k_tl ?_ | refine wC_isi rfl k_ll ?_ | refine wC_isi rfl k_lt ?_ | refine wC_isi rfl k_sb ?_ | refine wC_isi rfl k_si ?_
  | refine wC_isi rfl k_bb ?_ | refine wC_isi rfl k_bi ?_ | refine wC_isi rfl k_st ?_ | refine wC_isi rfl k_sl ?_ | refine wC_isi rfl k_il ?_ | refine wC_isi rfl k_it ?_
  | refine wC_isi2 rfl k_tl k_tt ?_ | refine wC_isi2 rfl k_ll k_lt ?_ | refine wC_isi2 rfl k_il k_it ?_ | refine wC_isi2 rfl k_sl k_st ?_ | refine wC_isi2 rfl k_ib k_is ?_ | refine wC_isi2 rfl k_sb k_ss ?_)
local macro_rules | `(tactic| walk_at "dE") => `(tactic| first
  | with_reducible refine wE_var rfl ?_ | with_reducible refine wE_op ?_ | with_reducible refine wE_int ?_ | with_reducible refine wE_call ?_ | with_reducible refine wE_str ?_
  | with_reducible refine wE_lenSet ?_ | with_reducible refine wE_sortedSet ?_ | with_reducible refine wE_cb ?_ | with_reducible refine wE_and ?_ | with_reducible refine wE_or ?_ | with_reducible refine wE_not ?_ | with_reducible refine wE_if ?_
  | with_reducible refine wE_tup ?_ | with_reducible refine wE_ty ?_ | with_reducible refine wE_bl ?_ | with_reducible refine wE_non ?_ | with_reducible refine wE_chain ?_ | with_reducible refine wE_un ?_ | with_reducible refine wE_slice ?_)
local macro_rules | `(tactic| walk_at "dS") => `(tactic| first
  | with_reducible refine wS_seq ?_ | with_reducible refine wS_set ?_ | with_reducible refine wS_if ?_ | with_reducible refine wS_drop ?_ | with_reducible refine wS_next ?_ | with_reducible refine wS_ret ?_ | with_reducible refine wS_asg ?_
  | with_reducible refine wS_cont ?_ | with_reducible refine wS_par ?_ | with_reducible refine wS_for ?_)
local macro_rules | `(tactic| walk_at "dT") => `(tactic| first
  | with_reducible refine wT_test ?_ | with_reducible refine wT_B ?_ | with_reducible refine wT_and ?_ | with_reducible refine wT_or ?_ | with_reducible refine wT_not ?_)
local macro_rules | `(tactic| walk_at "dO") => `(tactic| first
  | with_reducible refine wO_int ?_ | with_reducible refine wO_intB ?_ | with_reducible refine wO_eqI ?_ | with_reducible refine wO_eqS ?_ | with_reducible refine wO_neI ?_ | with_reducible refine wO_eqB ?_ | with_reducible refine wO_neB ?_
  | with_reducible refine wO_isN ?_ | with_reducible refine wO_notN ?_ | (refine wO_ixT (by walk_at "ix") ?_))
local macro_rules | `(tactic| walk_at "dC") => `(tactic| first
  | walk_at "isi" | (refine wC_len (.inl rfl) ?_) | with_reducible refine wC_intI ?_ | with_reducible refine wC_intB ?_ | with_reducible refine wC_abs ?_ | with_reducible refine wC_min ?_)
local macro_rules | `(tactic| walk_at "d") => `(tactic| first
  | ((with_reducible refine isE ?_); walk_at "dE")
  | ((with_reducible refine isA ?_); first | with_reducible refine wA_cons ?_ | with_reducible refine wA_nil ?_)
  | ((with_reducible refine isO ?_); walk_at "dO")
  | ((with_reducible refine isS ?_); walk_at "dS")
  | ((with_reducible refine isT ?_); walk_at "dT")
  | ((with_reducible refine isC ?_); walk_at "dC")
  | with_reducible refine wG_name ?_ | ((with_reducible refine isG ?_); refine wG_tup rfl ?_) | with_reducible refine wGs_cons ?_ | with_reducible refine wGs_nil ?_
  | with_reducible refine forL_cons ?_ | with_reducible refine forL_nil ?_
  | with_reducible refine wP_none ?_ | with_reducible refine wP_some ?_)
local macro_rules | `(tactic| walk_at "D") => `(tactic| repeat (first | walk_at "d" | walk_at "t" | walk_at "b"))

section
variable {P : Program} {w : World} {K : PySem.W.Frag} {mg : Str → Option Value} {base : Heap} {cU : Addr}
def RShape (ds : List Dt) (r : Dt) : Prop := ∃ (c : Craft) (wb : Web) (n : Nat) (v : Ver) (row : Row), ds = [craftD c, webD wb, natD n] ∧ wb[n]? = some v ∧ c.rows[v.1]? = some row ∧ r = natD row.shape
theorem c_shape_by (T_shape_by : HasFn K mg "shape_by" s_shape_by ["craft", "web", "version"]) (B : Bt mg) : Cal P w K mg base (0 + 1) "shape_by" ["craft", "web", "version"] (spD cU (PC RShape)) := by
  refine fnC (0) T_shape_by sc_shape_by (fun ds μ Φ Ψ h => ?_) (fun f cdv A outer s H E hr => ⟨_,
    (pss_one (ps_ret (pe_ix (ix_tupK (K := K)) (pe_ix (ix_tupK (K := K)) (pe_ix (ix_tupK (K := K)) (pv 0) pe_int (fun _ _ => rfl)) (pe_ix (ix_tupK (K := K)) (pe_ix (ix_tupK (K := K)) (pv 1) (pv 2) (fun _ _ => rfl)) pe_int (fun _ _ => rfl)) (fun _ _ => rfl)) pe_int (fun _ _ => rfl)))), fun ds μ Φ Ψ h => ?_⟩)
  · obtain ⟨r, ⟨c, wb, n, v, row, rfl, _⟩, _⟩ := h; rfl
  · obtain ⟨r, ⟨c, wb, n, v, row, rfl, h1, h2, rfl⟩, k⟩ := h
    simp only [craftD, webD]
    walk_at "D"
    exact .same k
def RMay (ds : List Dt) (r : Dt) : Prop := ∃ (c : Craft) (wb : Web) (v : Ver), ds = [craftD c, webD wb, verD v] ∧ okCraft c ∧ ((okVer c wb v ∧ r = .bl true) ∨ (wb = [] ∧ badVer c v ∧ r = .bl false))
theorem zip_mem {xs ys : List Dt} {d : Dt} (h : d ∈ zipD xs ys) : ∃ (i : Nat) (a b : Dt), xs[i]? = some a ∧ ys[i]? = some b ∧ d = .tup [a, b] := by
  obtain ⟨i, hi⟩ := List.getElem?_of_mem h
  obtain ⟨a, b, h1, h2, h3⟩ := DL.zip_get hi
  exact ⟨i, a, b, h1, h2, h3⟩
theorem map_get {α : Type} {f : α → Dt} {l : List α} {i : Nat} {d : Dt} (h : (l.map f)[i]? = some d) : ∃ x, l[i]? = some x ∧ d = f x := by
  rw [List.getElem?_map] at h
  cases e : l[i]? with
  | none => rw [e] at h; cases h
  | some x => rw [e] at h; exact ⟨x, rfl, (Option.some.inj h).symm⟩
theorem c_may_come (T_may_come : HasFn K mg "may_come" s_may_come ["craft", "web", "thing"]) (B : Bt mg) (c_is_long : Cal P w K mg base 1 "is_long" ["thing", "length"] (spD cU (PC RLong))) (c_is_within : Cal P w K mg base 2 "is_within" ["thing", "least", "most"] (spD cU (PC RWithin))) (c_shape_by : Cal P w K mg base 1 "shape_by" ["craft", "web", "version"] (spD cU (PC RShape))) : Cal P w K mg base (3 + 1) "may_come" ["craft", "web", "thing"] (spD cU (PC RMay)) := by
  refine fnC (3) T_may_come sc_may_come (fun ds μ Φ Ψ h => ?_) (fun f cdv A outer s H E hr => ⟨_,
    (pss_cons (ps_if (PW.pt (pw_or (pt_not (pt_val (pe_cal c_is_long (hr.mono (by omega)) (by rfl) (pa_cons (pv 2) (pa_cons pe_int pa_nil))))) (pw_or1 (pt_not (pt_val (pe_cal c_is_within (hr.mono (by omega)) (by rfl) (pa_cons (pe_ix (ix_tupK (K := K)) (pv 2) pe_int (fun _ _ => rfl)) (pa_cons pe_int (pa_cons (pe_op op_sub (pe_callB (lenK (K := K)) (by rfl) B.len_ (by decide +kernel) (pa_cons (pe_ix (ix_tupK (K := K)) (pv 0) pe_int (fun _ _ => rfl)) pa_nil)) pe_int) pa_nil))))))))) (pss_one (ps_ret pe_bl)) pss_nil)
    (pss_cons (ps_set (i := 3) sc_may_come.nd rfl (by first | exact Or.inl rfl | exact Or.inr rfl) (pe_ix (ix_tupK (K := K)) (pe_ix (ix_tupK (K := K)) (pe_ix (ix_tupK (K := K)) (pv 0) pe_int (fun _ _ => rfl)) (pe_ix (ix_tupK (K := K)) (pv 2) pe_int (fun _ _ => rfl)) (fun _ _ => rfl)) pe_int (fun _ _ => rfl)))
    (pss_cons (ps_if (PW.pt (pw_or (pt_not (pt_val (pe_cal c_is_long (hr.mono (by omega)) (by rfl) (pa_cons (pe_ix (ix_tupK (K := K)) (pv 2) pe_int (fun _ _ => rfl)) (pa_cons (pe_callB (lenK (K := K)) (by rfl) B.len_ (by decide +kernel) (pa_cons (pv 3) pa_nil)) pa_nil))))) (pw_or1 (pt_not (pt_val (pe_callB (allK (K := K) rfl) (by rfl) B.all_ (by decide +kernel) (pa_cons (pe_lc (own := [("own", 4)]) (g := (gName 4)) rfl sc_may_come.nd (pi_tupK (K := K) (pe_ix (ix_tupK (K := K)) (pv 2) pe_int (fun _ _ => rfl))) (blkOk_by (own := [("own", 4)]) (N := ["craft", "web", "thing", "shapes", "own", "shape"]) (sc := defScope s_may_come) (by decide +kernel)) (fun _ _ _ _ _ => (pg_name (i := 4) sc_may_come.nd rfl (by first | exact Or.inl rfl | exact Or.inr rfl))) (fun _ _ _ _ _ => pts_nil) (fun _ _ _ _ _ => (pe_cal c_is_within (hr.mono (by omega)) (by rfl) (pa_cons (pv 4) (pa_cons pe_int (pa_cons (pe_op op_sub (pe_callB (lenK (K := K)) (by rfl) B.len_ (by decide +kernel) (pa_cons (pv 1) pa_nil)) pe_int) pa_nil)))))) pa_nil))))))) (pss_one (ps_ret pe_bl)) pss_nil)
    (pss_one (ps_ret (pe_callB (allK (K := K) rfl) (by rfl) B.all_ (by decide +kernel) (pa_cons (pe_lc (own := [("own", 4), ("shape", 5)]) (g := (gTup K 2 (gCons (gName 4) (gCons (gName 5) gNil)))) rfl sc_may_come.nd (pi_zipK (K := K) (by rfl) B.zip_ (pa_cons (pe_ix (ix_tupK (K := K)) (pv 2) pe_int (fun _ _ => rfl)) (pa_cons (pv 3) pa_nil))) (blkOk_by (own := [("own", 4), ("shape", 5)]) (N := ["craft", "web", "thing", "shapes", "own", "shape"]) (sc := defScope s_may_come) (by decide +kernel)) (fun _ _ _ _ _ => (pg_tupK (K := K) (n := 2) rfl (pgs_cons (pg_name (i := 4) sc_may_come.nd rfl (by first | exact Or.inl rfl | exact Or.inr rfl)) (pgs_cons (pg_name (i := 5) sc_may_come.nd rfl (by first | exact Or.inl rfl | exact Or.inr rfl)) pgs_nil)))) (fun _ _ _ _ _ => pts_nil) (fun _ _ _ _ _ => (pe_cmpR op_eq (pe_cal c_shape_by (hr.mono (by omega)) (by rfl) (pa_cons (pv 0) (pa_cons (pv 1) (pa_cons (pv 4) pa_nil)))) (pv 5) (nomark _)))) pa_nil))))))), fun ds μ Φ Ψ h => ?_⟩)
  · obtain ⟨r, ⟨c, wb, v, rfl, _⟩, _⟩ := h; rfl
  · obtain ⟨r, ⟨c, wb, v, rfl, okc, h⟩, k⟩ := h
    have hv : ∃ row, c.rows[v.1]? = some row ∧ v.2.length = row.el.length := by
      rcases h with ⟨⟨row, h1, h2, _⟩, _⟩ | ⟨_, ⟨row, h1, h2, _⟩, _⟩ <;> exact ⟨row, h1, h2⟩
    obtain ⟨row, h1, h2⟩ := hv
    have hrow : row ∈ c.rows := List.mem_of_getElem? h1
    have hf := (okc.each row hrow).few
    have hl : v.1 < c.rows.length := (List.getElem?_eq_some_iff.mp h1).1
    walk_at "D"
    refine ⟨_, ⟨_, _, rfl, rfl⟩, ?_⟩
    walk_at "D"
    refine ⟨_, ⟨_, _, _, rfl, rfl⟩, ?_⟩
    rw [win (by omega) (by rw [List.length_map]; omega)]
    walk_at "D"
    refine ⟨_, ⟨_, _, rfl, rfl⟩, ?_⟩
    rw [dt (by rw [List.length_map, List.length_map, h2])]
    walk_at "D"
    refine wE_lc mono_name (only_name (by decide)) (wI_tup ?_)
    walk_at "D"
    refine ⟨by rw [List.length_map]; omega, ?_⟩
    rcases h with ⟨⟨row', g1, g2, g3⟩, rfl⟩ | ⟨rfl, ⟨row', g1, g2, g3⟩, rfl⟩
    · rw [h1] at g1; cases g1
      have low : ∀ e ∈ v.2, e < wb.length := fun e he => by
        obtain ⟨i, hi⟩ := List.getElem?_of_mem he
        have hil := (List.getElem?_eq_some_iff.mp hi).1
        obtain ⟨ve, re, q1, _⟩ := g3 i e row.el[i] hi (List.getElem?_eq_getElem (by omega))
        exact (List.getElem?_eq_some_iff.mp q1).1
      refine all_true (fun d hd acc => ?_) ?_
      · obtain ⟨e, he, rfl⟩ := List.mem_map.mp hd
        have := low e he
        walk_at "D"
        refine ⟨_, ⟨_, _, _, rfl, rfl⟩, ?_⟩
        rw [win (by omega) (by rw [List.length_map]; omega)]
        exact ⟨rfl, rfl⟩
      walk_at "D"
      refine wC_all rfl (rep_bl _) ?_
      rw [rep_all]
      walk_at "D"
      refine wE_lc (mono_tup (mono_cons mono_name (mono_cons mono_name mono_nil))) (only_tup (only_cons mono_name (only_name (by decide)) (mono_cons mono_name mono_nil) (only_cons mono_name (only_name (by decide)) mono_nil only_nil))) (wI_zip ?_)
      walk_at "D"
      refine ⟨_, _, .inl rfl, ?_, ?_⟩
      · rw [zip_len, List.length_map, List.length_map]; omega
      refine all_true (fun d hd acc => ?_) ?_
      · obtain ⟨i, a, b, q1, q2, rfl⟩ := zip_mem hd
        obtain ⟨e, he, rfl⟩ := map_get q1
        obtain ⟨s, hs, rfl⟩ := map_get q2
        obtain ⟨ve, re, p1, p2, p3⟩ := g3 i e s he hs
        walk_at "D"
        refine ⟨_, ⟨c, wb, e, ve, re, rfl, p1, p2, rfl⟩, ?_⟩
        walk_at "D"
        exact ⟨by rw [p3, dt rfl], rfl⟩
      walk_at "D"
      refine wC_all rfl (rep_bl _) (.same ?_)
      rw [rep_all]
      exact k
    · refine comp_map (f := fun _ => .bl false) (fun d hd acc => ?_) (fun d hd => .bl false) ?_
      · obtain ⟨e, he, rfl⟩ := List.mem_map.mp hd
        walk_at "D"
        refine ⟨_, ⟨_, _, _, rfl, rfl⟩, ?_⟩
        rw [df (p := (e : Int) ≤ ((([] : Web).map verD).length : Int) - 1) (by rw [List.map_nil, List.length_nil]; omega), Bool.and_false]
        exact ⟨rfl, rfl⟩
      walk_at "D"
      refine wC_all (ns := v.2.map fun _ => false) rfl (by rw [List.nil_append, List.map_map, List.map_map]; rfl) ?_
      have e0 : (v.2.map fun _ => false).all id = false := by
        cases hv2 : v.2 with
        | nil => exact absurd hv2 g3
        | cons a r => rfl
      rw [e0]
      walk_at "D"
      exact .same k
end
end PB
namespace PB
open PySem PySem.Spec PyProof.Rows L2 DL
local macro_rules | `(tactic| walk_at "ix") => `(tactic| first
  | with_reducible exact at0 | with_reducible exact at1 | with_reducible exact at2 | with_reducible exact at3 | with_reducible exact at4 | with_reducible exact at_map (by assumption) | with_reducible exact at_nat (by assumption)
  | exact at0 | exact at1 | exact at2 | exact at3 | exact at4 | exact at_nat (by assumption) | exact at_map (by assumption) | rfl)
local macro_rules | `(tactic| walk_at "b") => `(tactic| first
  | refine ⟨true, rfl, fun _ => ?_, fun hx => tf hx⟩
  | refine ⟨false, rfl, fun hx => ft hx, fun _ => ?_⟩
  | refine ⟨true, rfl, fun hx => ft hx, fun _ => ?_⟩
  | refine ⟨false, rfl, fun _ => ?_, fun hx => tf hx⟩
  | refine ⟨_, rfl, ?_⟩)
local macro_rules | `(tactic| walk_at "t") => `(tactic| first
  | refine ⟨Nat.le_of_ble_eq_true rfl, ?_⟩
  | refine ⟨fun _ => ?_, fun hx => tf hx⟩
  | refine ⟨fun hx => ft hx, fun _ => ?_⟩)
local macro_rules | `(tactic| walk_at "isi") => `(tactic| first
  | refine wC_isi rfl k_ii ?_ | refine wC_isi rfl k_ib ?_ | refine wC_isi rfl k_tt ?_ | refine wC_isi rfl k_tl ?_ | refine wC_isi rfl k_ll ?_ | refine wC_isi rfl k_lt ?_ | refine wC_isi rfl k_sb ?_ | refine wC_isi rfl k_si ?_
  | refine wC_isi rfl k_bb ?_ | refine wC_isi rfl k_bi ?_ | refine wC_isi rfl k_st ?_ | refine wC_isi rfl k_sl ?_ | refine wC_isi rfl k_il ?_ | refine wC_isi rfl k_it ?_
  | refine wC_isi2 rfl k_tl k_tt ?_ | refine wC_isi2 rfl k_ll k_lt ?_ | refine wC_isi2 rfl k_il k_it ?_ | refine wC_isi2 rfl k_sl k_st ?_ | refine wC_isi2 rfl k_ib k_is ?_ | refine wC_isi2 rfl k_sb k_ss ?_)
local macro_rules | `(tactic| walk_at "dE") => `(tactic| first
  | with_reducible refine wE_var rfl ?_ | with_reducible refine wE_op ?_ | with_reducible refine wE_int ?_ | with_reducible refine wE_call ?_ | with_reducible refine wE_str ?_
  | with_reducible refine wE_lenSet ?_ | with_reducible refine wE_sortedSet ?_ | with_reducible refine wE_cb ?_ | with_reducible refine wE_and ?_ | with_reducible refine wE_or ?_ | with_reducible refine wE_not ?_ | with_reducible refine wE_if ?_
  | with_reducible refine wE_tup ?_ | with_reducible refine wE_ty ?_ | with_reducible refine wE_bl ?_ | with_reducible refine wE_non ?_ | with_reducible refine wE_chain ?_ | with_reducible refine wE_un ?_ | with_reducible refine wE_slice ?_)
local macro_rules | `(tactic| walk_at "dS") => `(tactic| first
  | with_reducible refine wS_seq ?_ | with_reducible refine wS_set ?_ | with_reducible refine wS_if ?_ | with_reducible refine wS_drop ?_ | with_reducible refine wS_next ?_ | with_reducible refine wS_ret ?_ | with_reducible refine wS_asg ?_
  | with_reducible refine wS_cont ?_ | with_reducible refine wS_par ?_ | with_reducible refine wS_for ?_)
local macro_rules | `(tactic| walk_at "dT") => `(tactic| first
  | with_reducible refine wT_test ?_ | with_reducible refine wT_B ?_ | with_reducible refine wT_and ?_ | with_reducible refine wT_or ?_ | with_reducible refine wT_not ?_)
local macro_rules | `(tactic| walk_at "dO") => `(tactic| first
  | with_reducible refine wO_int ?_ | with_reducible refine wO_intB ?_ | with_reducible refine wO_eqI ?_ | with_reducible refine wO_eqS ?_ | with_reducible refine wO_neI ?_ | with_reducible refine wO_eqB ?_ | with_reducible refine wO_neB ?_
  | with_reducible refine wO_isN ?_ | with_reducible refine wO_notN ?_ | (refine wO_ixT (by walk_at "ix") ?_))
local macro_rules | `(tactic| walk_at "dC") => `(tactic| first
  | walk_at "isi" | (refine wC_len (.inl rfl) ?_) | with_reducible refine wC_intI ?_ | with_reducible refine wC_intB ?_ | with_reducible refine wC_abs ?_ | with_reducible refine wC_min ?_)
local macro_rules | `(tactic| walk_at "d") => `(tactic| first
  | ((with_reducible refine isE ?_); walk_at "dE")
  | ((with_reducible refine isA ?_); first | with_reducible refine wA_cons ?_ | with_reducible refine wA_nil ?_)
  | ((with_reducible refine isO ?_); walk_at "dO")
  | ((with_reducible refine isS ?_); walk_at "dS")
  | ((with_reducible refine isT ?_); walk_at "dT")
  | ((with_reducible refine isC ?_); walk_at "dC")
  | with_reducible refine wG_name ?_ | ((with_reducible refine isG ?_); refine wG_tup rfl ?_) | with_reducible refine wGs_cons ?_ | with_reducible refine wGs_nil ?_
  | with_reducible refine forL_cons ?_ | with_reducible refine forL_nil ?_
  | with_reducible refine wP_none ?_ | with_reducible refine wP_some ?_)
local macro_rules | `(tactic| walk_at "D") => `(tactic| repeat (first | walk_at "d" | walk_at "t" | walk_at "b"))

section
variable {P : Program} {w : World} {K : PySem.W.Frag} {mg : Str → Option Value} {base : Heap} {cU : Addr}
def RFits (ds : List Dt) (r : Dt) : Prop := ∃ (c : Craft) (wb : Web), ds = [craftD c, webD wb] ∧ okCraft c ∧ ((okWeb c wb ∧ r = .bl true) ∨ (∃ v, wb = [v] ∧ badVer c v ∧ r = .bl false))
theorem web_take (wb : Web) (n : Nat) : DL.cutD (wb.map verD) none (some (n : Int)) = (wb.take n).map verD := by rw [cut_take, List.map_take]
theorem c_fits (T_fits : HasFn K mg "fits" s_fits ["craft", "thing"]) (B : Bt mg) (c_may_come : Cal P w K mg base 4 "may_come" ["craft", "web", "thing"] (spD cU (PC RMay))) : Cal P w K mg base (4 + 1) "fits" ["craft", "thing"] (spD cU (PC RFits)) := by
  refine fnC (4) T_fits sc_fits (fun ds μ Φ Ψ h => ?_) (fun f cdv A outer s H E hr => ⟨_,
    (pss_cons (ps_if (pt_not (pt_val (pe_callB (isiK (K := K)) (by rfl) B.isinstance_ (by decide +kernel) (pa_cons (pv 1) (pa_cons (pe_bltn (v := .ty "tuple") (by rfl) B.tuple_ (by decide +kernel) rfl) pa_nil))))) (pss_one (ps_ret pe_bl)) pss_nil)
    (pss_cons (ps_for PassesOwn.never rfl (pi_enumTK (K := K) (by rfl) B.enumerate_ (pa_cons (pv 1) pa_nil)) (pg_tupK (K := K) (n := 2) rfl (pgs_cons (pg_name (i := 2) sc_fits.nd rfl (by first | exact Or.inl rfl | exact Or.inr rfl)) (pgs_cons (pg_name (i := 3) sc_fits.nd rfl (by first | exact Or.inl rfl | exact Or.inr rfl)) pgs_nil))) (pss_one (ps_if (pt_not (pt_val (pe_cal c_may_come (hr.mono (by omega)) (by rfl) (pa_cons (pv 0) (pa_cons (pe_slice (sl_tupK (K := K)) (pv 1) po_none (po_some (pv 2))) (pa_cons (pv 3) pa_nil)))))) (pss_one (ps_ret pe_bl)) pss_nil)))
    (pss_one (ps_ret pe_bl)))), fun ds μ Φ Ψ h => ?_⟩)
  · obtain ⟨r, ⟨c, wb, rfl, _⟩, _⟩ := h; rfl
  · obtain ⟨r, ⟨c, wb, rfl, okc, h⟩, k⟩ := h
    simp only [webD]
    walk_at "D"
    refine wI_enumT ?_
    walk_at "D"
    rcases h with ⟨ok, rfl⟩ | ⟨v, rfl, bad, rfl⟩
    · have go : ∀ (rest pre : Web) (a b : Option Dt), wb = pre ++ rest → ForL (fun _ => False) (gTup K 2 (gCons (gName 2) (gCons (gName 3) gNil)))
          (tIfS (tNot (tB (tCall (spD cU (PC RMay)) [] E0 (tCons (tVar 0) (tCons (tSl (rSlA K) (tVar 1) tNoPart (tPart (tVar 2))) (tCons (tVar 3) tNil)))))) (tRet (tC (.bl false))) tNext)
          { nx := fun δ1 μ1 => wS (fun _ => False) (tRet (tC (.bl true))) δ1 μ1 { nx := fun _ μ' => Ret μ.length Φ .non μ', rt := Ret μ.length Φ }, rt := Ret μ.length Φ } (enumD pre.length (rest.map verD)) [some (craftD c), some (.tup (wb.map verD)), a, b] μ := by
        intro rest
        induction rest with
        | nil =>
          intro pre a b e
          refine forL_nil ?_
          walk_at "D"
          exact .same k
        | cons v rest ih =>
          intro pre a b e
          have hv : okVer c pre v := by
            have q := ok.2 pre.length v (by rw [e, List.getElem?_append_right (Nat.le_refl _), Nat.sub_self]; rfl)
            rw [e, List.take_left] at q
            exact q
          refine forL_cons ?_
          walk_at "D"
          refine wSl_tup ?_
          rw [web_take]
          walk_at "D"
          refine ⟨_, ⟨c, wb.take pre.length, v, rfl, okc, .inl ⟨?_, rfl⟩⟩, ?_⟩
          · rw [e, List.take_left]; exact hv
          walk_at "D"
          have q := ih (pre ++ [v]) (some (natD pre.length)) (some (verD v)) (by rw [e, List.append_assoc]; rfl)
          rw [List.length_append] at q
          exact q
      exact go wb [] none none rfl
    · simp only [List.map_cons, List.map_nil, enumD]
      walk_at "D"
      refine wSl_tup ?_
      rw [cut_take]
      walk_at "D"
      refine ⟨_, ⟨c, [], v, rfl, okc, .inr ⟨rfl, bad, rfl⟩⟩, ?_⟩
      walk_at "D"
      exact .same k
def RSureW (ds : List Dt) (r : Dt) : Prop := ∃ (d e : Dt) (c : Craft) (wb : Web), ds = [d, e] ∧ TD 7 d ∧ tupd d = craftD c ∧ okCraft c ∧ TD 7 e ∧ tupd e = webD wb ∧ okWeb c wb ∧ r = .tup [craftD c, webD wb]
theorem c_sure_web (T_sure_web : HasFn K mg "sure_web" s_sure_web ["craft", "web"]) (B : Bt mg) (c_sure_craft : Cal P w K mg base 9 "sure_craft" ["craft"] (spD cU (PC RSureC))) (c_tupled : Cal P w K mg base 8 "tupled" ["value"] (spD cU (PC (RT 8)))) (c_fits : Cal P w K mg base 5 "fits" ["craft", "thing"] (spD cU (PC RFits))) : Cal P w K mg base (9 + 1) "sure_web" ["craft", "web"] (spD cU (PC RSureW)) := by
  refine fnC (9) T_sure_web sc_sure_web (fun ds μ Φ Ψ h => ?_) (fun f cdv A outer s H E hr => ⟨_,
    (pss_cons (ps_par (i := 2) (j := 3) rfl sc_sure_web.nd rfl rfl (by decide) rfl rfl (pa_cons (pe_cal c_sure_craft (hr.mono (by omega)) (by rfl) (pa_cons (pv 0) pa_nil)) (pa_cons (pe_cal c_tupled (hr.mono (by omega)) (by rfl) (pa_cons (pv 1) pa_nil)) pa_nil)) (by rfl))
    (pss_cons (ps_if (pt_not (pt_val (pe_cal c_fits (hr.mono (by omega)) (by rfl) (pa_cons (pv 2) (pa_cons (pv 3) pa_nil))))) (pss_one ps_never) pss_nil)
    (pss_one (ps_ret (pe_tup (pa_cons (pv 2) (pa_cons (pv 3) pa_nil))))))), fun ds μ Φ Ψ h => ?_⟩)
  · obtain ⟨r, ⟨d, e, c, wb, rfl, _⟩, _⟩ := h; rfl
  · obtain ⟨r, ⟨d, e, c, wb, rfl, t1, e1, okc, t2, e2, okw, rfl⟩, k⟩ := h
    walk_at "D"
    refine ⟨_, ⟨d, c, rfl, t1, e1, okc, rfl⟩, ?_⟩
    walk_at "D"
    refine ⟨_, ⟨e, rfl, t2, rfl⟩, ?_⟩
    rw [e2]
    walk_at "D"
    refine ⟨_, _, rfl, ?_⟩
    walk_at "D"
    refine ⟨_, ⟨c, wb, rfl, okc, .inl ⟨okw, rfl⟩⟩, ?_⟩
    walk_at "D"
    exact .same k
end
end PB
/-! P2: what slots hold, plainly -/
namespace PB
open PySem PySem.Spec PyProof.Rows L2 DL

abbrev Hold := Option Spot
def holdD : Hold → Dt
  | none => .non
  | some p => spotD p
abbrev HRow := List Hold
def rowH (h : HRow) : Dt := .tup (h.map holdD)
theorem pu_hold (h : Hold) : Pu (holdD h) := by
  cases h with
  | none => exact .non
  | some p => exact pu_spot p
theorem pu_rowH (h : HRow) : Pu (rowH h) := .tup (PuL.map _ pu_hold h)
def heldAt (found : List HRow) (v : Nat) (els : List Nat) (s : Nat) : Fil → Hold
  | .none => none
  | .new _ _ => some (v, s)
  | .kept p q => (found.getD (els.getD p 0) []).getD q none
def heldGo (found : List HRow) (v : Nat) (els : List Nat) : Nat → List Fil → HRow
  | _, [] => []
  | s, f :: fs => heldAt found v els s f :: heldGo found v els (s + 1) fs
def heldOf (c : Craft) (wb : Web) (v : Nat) (found : List HRow) : HRow :=
  match wb[v]? with
  | none => []
  | some ver => match c.rows[ver.1]? with
    | none => []
    | some row => heldGo found v ver.2 0 row.slots
def heldN (c : Craft) (wb : Web) : Nat → List HRow
  | 0 => []
  | n + 1 => heldN c wb n ++ [heldOf c wb n (heldN c wb n)]
theorem heldGo_len (found : List HRow) (v : Nat) (els : List Nat) : ∀ (s : Nat) (fs : List Fil), (heldGo found v els s fs).length = fs.length
  | _, [] => rfl
  | s, f :: fs => by rw [heldGo, List.length_cons, List.length_cons, heldGo_len]
theorem heldGo_get (found : List HRow) (v : Nat) (els : List Nat) : ∀ (s i : Nat) (fs : List Fil), (heldGo found v els s fs)[i]? = (fs[i]?).map fun f => heldAt found v els (s + i) f
  | _, _, [] => by simp [heldGo]
  | s, 0, f :: fs => rfl
  | s, i + 1, f :: fs => by
    rw [heldGo, List.getElem?_cons_succ, List.getElem?_cons_succ, heldGo_get, Nat.add_right_comm]; rfl
theorem heldN_len (c : Craft) (wb : Web) : ∀ n, (heldN c wb n).length = n
  | 0 => rfl
  | n + 1 => by rw [heldN, List.length_append, heldN_len]; rfl
theorem heldN_get (c : Craft) (wb : Web) : ∀ (n e : Nat), e < n → (heldN c wb n)[e]? = some (heldOf c wb e (heldN c wb e))
  | 0, e, h => by omega
  | n + 1, e, h => by
    rw [heldN]
    by_cases he : e < n
    · rw [List.getElem?_append_left (by rw [heldN_len]; exact he)]
      exact heldN_get c wb n e he
    · have : e = n := by omega
      subst this
      rw [List.getElem?_append_right (by rw [heldN_len]; exact Nat.le_refl _), heldN_len, Nat.sub_self]; rfl
theorem heldN_take (c : Craft) (wb : Web) : ∀ (n m : Nat), m ≤ n → (heldN c wb n).take m = heldN c wb m := fun n m h => by
  refine List.ext_getElem? fun i => ?_
  by_cases hi : i < m
  · rw [List.getElem?_take_of_lt hi, heldN_get c wb n i (by omega), heldN_get c wb m i hi]
  · rw [List.getElem?_eq_none (by rw [List.length_take, heldN_len]; omega), List.getElem?_eq_none (by rw [heldN_len]; omega)]
theorem heldOf_eq {c : Craft} {wb : Web} {v : Nat} {ver : Ver} {row : Row} (h1 : wb[v]? = some ver) (h2 : c.rows[ver.1]? = some row) (found : List HRow) : heldOf c wb v found = heldGo found v ver.2 0 row.slots := by
  unfold heldOf
  rw [h1]; dsimp only; rw [h2]
/-- a spot of an elder is there -/
theorem spot_there {c : Craft} {wb : Web} {i : Nat} {ver : Ver} {row : Row} {p : Spot} (okc : okCraft c) (okw : okWeb c wb) (h1 : wb[i]? = some ver) (h2 : c.rows[ver.1]? = some row) (hp : okSpot c.sizes row.el p) :
    ∃ (e : Nat) (h : HRow) (z : Hold), ver.2[p.1]? = some e ∧ e < i ∧ (heldN c wb i)[e]? = some h ∧ h[p.2]? = some z := by
  obtain ⟨row', g1, g2, g3⟩ := okw.2 i ver h1
  rw [h2] at g1; cases g1
  obtain ⟨s, sz, a1, a2, a3⟩ := hp
  have hl : p.1 < ver.2.length := by rw [g2]; exact (List.getElem?_eq_some_iff.mp a1).1
  obtain ⟨ve, re, b1, b2, b3⟩ := g3 p.1 ver.2[p.1] s (List.getElem?_eq_getElem hl) a1
  have he : ver.2[p.1] < i := by
    have := (List.getElem?_eq_some_iff.mp b1).1
    rw [List.length_take] at this; omega
  have b1' : wb[ver.2[p.1]]? = some ve := by rw [List.getElem?_take_of_lt he] at b1; exact b1
  have hlen : p.2 < (heldOf c wb ver.2[p.1] (heldN c wb ver.2[p.1])).length := by
    rw [heldOf_eq b1' b2, heldGo_len]
    have hre := (okc.each re (List.mem_of_getElem? b2)).shape
    rw [b3, a2] at hre
    have := Option.some.inj hre
    omega
  exact ⟨ver.2[p.1], _, _, List.getElem?_eq_getElem hl, he, heldN_get c wb i _ he, List.getElem?_eq_getElem hlen⟩
end PB
namespace PB
open PySem PySem.Spec PyProof.Rows L2 DL
structure Tx (mg : Str → Option Value) (tN tK : Tok) : Prop where
  NEW : mg "NEW" = some (.str "new" tN)
  KEPT : mg "KEPT" = some (.str "kept" tK)
theorem lstOf_app {μ ν : List MO} {x : Dt} {ds : List Dt} (h : lstOf μ x = some ds) : lstOf (μ ++ ν) x = some ds := by
  cases x with
  | lst es => exact h
  | reg j =>
    cases e : μ[j]? with
    | none => simp [lstOf, e] at h
    | some m =>
      have e2 : (μ ++ ν)[j]? = some m := by rw [List.getElem?_append_left (List.getElem?_eq_some_iff.mp e).1, e]
      simp only [lstOf, e] at h
      simp only [lstOf, e2]
      exact h
  | _ => cases h
theorem set_last {μ : List MO} {m m' : MO} : (μ ++ [m]).set μ.length m' = μ ++ [m'] := by
  rw [List.set_append_right _ _ (Nat.le_refl _), Nat.sub_self]; rfl
/-- append to the last register -/
theorem wE_appL {K : PySem.W.Frag} {to te : TE} {δ : Sl} {μ : List MO} {acc : List Dt} {Φ : DK} (hl : acc.length ≤ 100000)
    (h : wE to δ (μ ++ [.lst acc]) fun x μ1 => x = .reg μ.length ∧ μ1 = μ ++ [.lst acc] ∧ wE te δ (μ ++ [.lst acc]) fun d μ2 => μ2 = μ ++ [.lst acc] ∧ Pu d ∧ Φ .non (μ ++ [.lst (acc ++ [d])])) :
    wE (tBM K "list" rAppend to (tCons te tNil)) δ (μ ++ [.lst acc]) Φ := by
  refine wE_bm (wE_mono h ?_)
  rintro x μ1 ⟨rfl, rfl, k⟩
  refine ⟨⟨acc, lstOf_reg last_of⟩, wA_cons (wE_mono k ?_)⟩
  rintro d μ2 ⟨rfl, p, k⟩
  refine wA_nil (wM_append last_of hl p ?_)
  rw [set_last]; exact k
local macro_rules | `(tactic| walk_at "ix") => `(tactic| first
  | with_reducible exact at0 | with_reducible exact at1 | with_reducible exact at2 | with_reducible exact at3 | with_reducible exact at4 | with_reducible exact at_map (by assumption) | with_reducible exact at_nat (by assumption)
  | exact at0 | exact at1 | exact at2 | exact at3 | exact at4 | exact at_nat (by assumption) | exact at_map (by assumption) | rfl)
local macro_rules | `(tactic| walk_at "b") => `(tactic| first
  | refine ⟨true, rfl, fun _ => ?_, fun hx => tf hx⟩
  | refine ⟨false, rfl, fun hx => ft hx, fun _ => ?_⟩
  | refine ⟨true, rfl, fun hx => ft hx, fun _ => ?_⟩
  | refine ⟨false, rfl, fun _ => ?_, fun hx => tf hx⟩
  | refine ⟨_, rfl, ?_⟩)
local macro_rules | `(tactic| walk_at "t") => `(tactic| first
  | refine ⟨Nat.le_of_ble_eq_true rfl, ?_⟩
  | refine ⟨fun _ => ?_, fun hx => tf hx⟩
  | refine ⟨fun hx => ft hx, fun _ => ?_⟩)
local macro_rules | `(tactic| walk_at "isi") => `(tactic| first
  | refine wC_isi rfl k_ii ?_ | refine wC_isi rfl k_ib ?_ | refine wC_isi rfl k_tt ?_ | refine wC_isi rfl k_tl ?_ | refine wC_isi rfl k_ll ?_ | refine wC_isi rfl k_lt ?_ | refine wC_isi rfl k_sb ?_ | refine wC_isi rfl k_si ?_
  | refine wC_isi rfl k_bb ?_ | refine wC_isi rfl k_bi ?_ | refine wC_isi rfl k_st ?_ | refine wC_isi rfl k_sl ?_ | refine wC_isi rfl k_il ?_ | refine wC_isi rfl k_it ?_
  | refine wC_isi2 rfl k_tl k_tt ?_ | refine wC_isi2 rfl k_ll k_lt ?_ | refine wC_isi2 rfl k_il k_it ?_ | refine wC_isi2 rfl k_sl k_st ?_ | refine wC_isi2 rfl k_ib k_is ?_ | refine wC_isi2 rfl k_sb k_ss ?_)
local macro_rules | `(tactic| walk_at "dE") => `(tactic| first
  | with_reducible refine wE_var rfl ?_ | with_reducible refine wE_op ?_ | with_reducible refine wE_int ?_ | with_reducible refine wE_call ?_ | with_reducible refine wE_str ?_
  | with_reducible refine wE_lenSet ?_ | with_reducible refine wE_sortedSet ?_ | with_reducible refine wE_cb ?_ | with_reducible refine wE_and ?_ | with_reducible refine wE_or ?_ | with_reducible refine wE_not ?_ | with_reducible refine wE_if ?_
  | with_reducible refine wE_tup ?_ | with_reducible refine wE_ty ?_ | with_reducible refine wE_bl ?_ | with_reducible refine wE_non ?_ | with_reducible refine wE_chain ?_ | with_reducible refine wE_un ?_ | with_reducible refine wE_slice ?_)
local macro_rules | `(tactic| walk_at "dS") => `(tactic| first
  | with_reducible refine wS_seq ?_ | with_reducible refine wS_set ?_ | with_reducible refine wS_if ?_ | with_reducible refine wS_drop ?_ | with_reducible refine wS_next ?_ | with_reducible refine wS_ret ?_ | with_reducible refine wS_asg ?_
  | with_reducible refine wS_cont ?_ | with_reducible refine wS_par ?_ | with_reducible refine wS_for ?_)
local macro_rules | `(tactic| walk_at "dT") => `(tactic| first
  | with_reducible refine wT_test ?_ | with_reducible refine wT_B ?_ | with_reducible refine wT_and ?_ | with_reducible refine wT_or ?_ | with_reducible refine wT_not ?_)
local macro_rules | `(tactic| walk_at "dO") => `(tactic| first
  | with_reducible refine wO_int ?_ | with_reducible refine wO_intB ?_ | with_reducible refine wO_eqI ?_ | with_reducible refine wO_eqS ?_ | with_reducible refine wO_neI ?_ | with_reducible refine wO_eqB ?_ | with_reducible refine wO_neB ?_
  | with_reducible refine wO_isN ?_ | with_reducible refine wO_notN ?_ | (refine wO_ixT (by walk_at "ix") ?_))
local macro_rules | `(tactic| walk_at "dC") => `(tactic| first
  | walk_at "isi" | (refine wC_len (.inl rfl) ?_) | with_reducible refine wC_intI ?_ | with_reducible refine wC_intB ?_ | with_reducible refine wC_abs ?_ | with_reducible refine wC_min ?_)
local macro_rules | `(tactic| walk_at "d") => `(tactic| first
  | ((with_reducible refine isE ?_); walk_at "dE")
  | ((with_reducible refine isA ?_); first | with_reducible refine wA_cons ?_ | with_reducible refine wA_nil ?_)
  | ((with_reducible refine isO ?_); walk_at "dO")
  | ((with_reducible refine isS ?_); walk_at "dS")
  | ((with_reducible refine isT ?_); walk_at "dT")
  | ((with_reducible refine isC ?_); walk_at "dC")
  | with_reducible refine wG_name ?_ | ((with_reducible refine isG ?_); refine wG_tup rfl ?_) | with_reducible refine wGs_cons ?_ | with_reducible refine wGs_nil ?_
  | with_reducible refine forL_cons ?_ | with_reducible refine forL_nil ?_
  | with_reducible refine wP_none ?_ | with_reducible refine wP_some ?_)
local macro_rules | `(tactic| walk_at "D") => `(tactic| repeat (first | walk_at "d" | walk_at "t" | walk_at "b"))

section
variable {P : Program} {w : World} {K : PySem.W.Frag} {mg : Str → Option Value} {base : Heap} {cU : Addr}
/-- the slots told so far are there -/
def okHs (hs : List HRow) (els : List Nat) (fs : List Fil) : Prop := ∀ p q, Fil.kept p q ∈ fs → ∃ (e : Nat) (h : HRow) (z : Hold), els[p]? = some e ∧ hs[e]? = some h ∧ h[q]? = some z
def CSlots : Con := fun ds μ Φ _ => ∃ (c : Craft) (wb : Web) (v : Nat) (x : Dt) (hs : List HRow) (ver : Ver) (row : Row), ds = [craftD c, webD wb, natD v, x] ∧ lstOf μ x = some (hs.map rowH) ∧ wb[v]? = some ver ∧ c.rows[ver.1]? = some row ∧ row.slots.length ≤ 10 ∧ okHs hs ver.2 row.slots ∧
  Φ (rowH (heldGo hs v ver.2 0 row.slots)) μ
theorem heldAt_kept {hs : List HRow} {v s p q e : Nat} {els : List Nat} {h : HRow} {z : Hold} (a : els[p]? = some e) (b : hs[e]? = some h) (c : h[q]? = some z) : heldAt hs v els s (.kept p q) = z := by
  show (hs.getD (els.getD p 0) []).getD q none = z
  simp [List.getD_eq_getElem?_getD, a, b, c]
theorem c_slots_by (T_slots_by : HasFn K mg "slots_by" s_slots_by ["craft", "there", "version", "found"]) (B : Bt mg) {tN tK : Tok} (T : Tx mg tN tK) : Cal P w K mg base (0 + 1) "slots_by" ["craft", "there", "version", "found"] (spD cU (CSlots)) := by
  refine fnC (0) T_slots_by sc_slots_by (fun ds μ Φ Ψ h => ?_) (fun f cdv A outer s H E hr => ⟨_,
    (pss_cons (ps_asg (pe_ix (ix_tupK (K := K)) (pv 1) (pv 2) (fun _ _ => rfl)) (pg_tupK (K := K) (n := 2) rfl (pgs_cons (pg_name (i := 4) sc_slots_by.nd rfl (by first | exact Or.inl rfl | exact Or.inr rfl)) (pgs_cons (pg_name (i := 5) sc_slots_by.nd rfl (by first | exact Or.inl rfl | exact Or.inr rfl)) pgs_nil))))
    (pss_cons (ps_set (i := 6) sc_slots_by.nd rfl (by first | exact Or.inl rfl | exact Or.inr rfl) (pe_lst pa_nil))
    (pss_cons (ps_for PassesOwn.never rfl (pi_enumTK (K := K) (by rfl) B.enumerate_ (pa_cons (pe_ix (ix_tupK (K := K)) (pe_ix (ix_tupK (K := K)) (pe_ix (ix_tupK (K := K)) (pv 0) pe_int (fun _ _ => rfl)) (pv 4) (fun _ _ => rfl)) pe_int (fun _ _ => rfl)) pa_nil)) (pg_tupK (K := K) (n := 2) rfl (pgs_cons (pg_name (i := 7) sc_slots_by.nd rfl (by first | exact Or.inl rfl | exact Or.inr rfl)) (pgs_cons (pg_name (i := 8) sc_slots_by.nd rfl (by first | exact Or.inl rfl | exact Or.inr rfl)) pgs_nil))) (pss_one (ps_if (pt_cmpR op_eq (pe_ix (ix_tupK (K := K)) (pv 8) pe_int (fun _ _ => rfl)) (pe_glob (v := .str "new") (by rfl) T.NEW ⟨_, rfl⟩) (nomark _)) (pss_one (ps_expr (pe_bmK (K := K) PySem.F.plainAttrs_list PySem.F.slot_list_append PySem.F.type_list_append mt_append (pv 6) (pa_cons (pe_tup (pa_cons (pv 2) (pa_cons (pv 7) pa_nil))) pa_nil)))) (pss_one (ps_expr (pe_bmK (K := K) PySem.F.plainAttrs_list PySem.F.slot_list_append PySem.F.type_list_append mt_append (pv 6) (pa_cons (pe_ifExp (pt_cmpR op_eq (pe_ix (ix_tupK (K := K)) (pv 8) pe_int (fun _ _ => rfl)) (pe_glob (v := .str "kept") (by rfl) T.KEPT ⟨_, rfl⟩) (nomark _)) (pe_ix (ix_tupK (K := K)) (pe_ix (ix_listK (K := K)) (pv 3) (pe_ix (ix_tupK (K := K)) (pv 5) (pe_ix (ix_tupK (K := K)) (pv 8) pe_int (fun _ _ => rfl)) (fun _ _ => rfl)) (fun _ _ => rfl)) (pe_ix (ix_tupK (K := K)) (pv 8) pe_int (fun _ _ => rfl)) (fun _ _ => rfl)) pe_non) pa_nil)))))))
    (pss_one (ps_ret (pe_callTy (tupleK (K := K)) (by rfl) B.tuple_ (by decide +kernel) (pa_cons (pv 6) pa_nil))))))), fun ds μ Φ Ψ h => ?_⟩)
  · obtain ⟨c, wb, v, x, hs, ver, row, rfl, _⟩ := h; rfl
  · obtain ⟨c, wb, v, x, hs, ver, row, rfl, hx, h1, h2, few, ok, k⟩ := h
    simp only [craftD, webD]
    walk_at "D"
    refine wE_reg (wA_nil ⟨Nat.zero_le _, .nil, ?_⟩)
    walk_at "D"
    refine wI_enumT ?_
    walk_at "D"
    refine forL_inv (fun i δ' μ' => ∃ a b, δ' = [some (.tup [.tup (c.sizes.map natD), .tup (c.rows.map rowD)]), some (.tup (wb.map verD)), some (natD v), some x, some (natD ver.1), some (.tup (ver.2.map natD)), some (.reg μ.length), a, b] ∧
      μ' = μ ++ [.lst (((heldGo hs v ver.2 0 row.slots).take i).map holdD)]) 0 ⟨none, none, rfl, rfl⟩ (fun i d δ' μ' hi hI => ?_) (fun δ' μ' hI => ?_)
    · obtain ⟨a, b, rfl, rfl⟩ := hI
      rw [enumD_get] at hi
      cases hf : (row.slots.map filD)[i]? with
      | none => rw [hf] at hi; cases hi
      | some d' =>
        rw [hf] at hi
        cases hi
        obtain ⟨fl, hfl, rfl⟩ := map_get hf
        have hg : (heldGo hs v ver.2 0 row.slots)[i]? = some (heldAt hs v ver.2 i fl) := by rw [heldGo_get, hfl, Nat.zero_add]; rfl
        have nxt : ∀ a b, (fun i δ' μ' => ∃ a b, δ' = [some (.tup [.tup (c.sizes.map natD), .tup (c.rows.map rowD)]), some (.tup (wb.map verD)), some (natD v), some x, some (natD ver.1), some (.tup (ver.2.map natD)), some (.reg μ.length), a, b] ∧
            μ' = μ ++ [.lst (((heldGo hs v ver.2 0 row.slots).take i).map holdD)]) (i + 1) [some (.tup [.tup (c.sizes.map natD), .tup (c.rows.map rowD)]), some (.tup (wb.map verD)), some (natD v), some x, some (natD ver.1), some (.tup (ver.2.map natD)), some (.reg μ.length), a, b]
            (μ ++ [MO.lst (((heldGo hs v ver.2 0 row.slots).take i).map holdD ++ [holdD (heldAt hs v ver.2 i fl)])]) := fun a b => ⟨a, b, rfl, by rw [List.take_add_one, hg, List.map_append]; rfl⟩
        have hi10 : (((heldGo hs v ver.2 0 row.slots).take i).map holdD).length ≤ 100000 := by rw [List.length_map, List.length_take, heldGo_len]; omega
        simp only [Nat.zero_add]
        cases fl with
        | none =>
          walk_at "D"
          refine wE_appL hi10 ?_
          walk_at "D"
          refine ⟨rfl, rfl, ?_⟩
          walk_at "D"
          exact ⟨rfl, .non, nxt _ _⟩
        | kept p q =>
          obtain ⟨e, h, z, q1, q2, q3⟩ := ok p q (List.mem_of_getElem? hfl)
          rw [heldAt_kept q1 q2 q3] at nxt
          walk_at "D"
          refine wE_appL hi10 ?_
          walk_at "D"
          refine ⟨rfl, rfl, ?_⟩
          walk_at "D"
          refine wO_ixL (ds := hs.map rowH) (d := rowH h) (lstOf_app hx) (at_map q2) ?_
          walk_at "D"
          exact ⟨rfl, pu_hold z, nxt _ _⟩
        | new cc ws =>
          walk_at "D"
          refine wE_appL hi10 ?_
          walk_at "D"
          refine ⟨rfl, rfl, ?_⟩
          walk_at "D"
          exact ⟨rfl, pu_spot (v, i), nxt _ _⟩
    · obtain ⟨a, b, rfl, rfl⟩ := hI
      rw [Nat.zero_add, enumD_len, List.length_map, List.take_of_length_le (by rw [heldGo_len]; exact Nat.le_refl _)]
      walk_at "D"
      refine wC_tuple (lstOf_reg last_of) (.cut (pu_rowH _) ?_)
      rw [List.take_left]
      exact k
end
end PB
/-! E3: sum of a tuple of ints -/
namespace SuT
open PySem PySem.Spec PyProof.Rows L2
def rSumT (K : PySem.W.Frag) : List V → Hp → VK → Prop := fun vs H Q => ∃ (a : Addr) (ns : List Int), vs = [V.ref a] ∧ SqT K H a (ns.map V.int) ∧ Q (.int ns.sum) H
theorem ints_rel : ∀ {ns : List Int} {us : List Value} {i : Nat} {v : Value}, Vals (ns.map V.int) us → us[i]? = some v → ∃ t, v = .int (ns.getD i 0) t
  | [], _, _, _, .nil, e => by simp at e
  | n :: ns, _, 0, v, .cons ⟨t, e1⟩ _, e => by
    simp at e; subst e; subst e1; exact ⟨t, rfl⟩
  | n :: ns, _, i + 1, v, .cons _ r, e => by
    obtain ⟨t, h⟩ := ints_rel (i := i) r (by simpa using e)
    exact ⟨t, by simpa using h⟩
theorem cr_sumT {X : Cx} (hc : X.calm = true) : CallR X (.builtin "sum") (rSumT X.K) := by
  intro pins s σ H vs us Q I r h
  obtain ⟨a, ns, rfl, hs, q⟩ := h
  obtain ⟨its, rv, tp, _⟩ := I.tuple hs
  rw [Vals.ref1 r]
  have tp' : s.heap.IsTuple a its.toArray := tp
  have hal : a < s.heap.objs.size := by obtain ⟨_, q0, _⟩ := tp'; exact Heap.lt_size q0
  have hlen := rv.length
  refine call_sum_walkG (wpAny_pyIter_tuple tp' ?_)
  have hh : X.A.in1.handled = none := by have := I.ok.hd hc; simpa using this
  refine ⟨s.heap.objs.size, [s.heap.objs.size, a], [s.heap.objs.size], its.toArray.size, _, _, fun i => ns.getD i 0, rfl, Walks.tuple hh _ a (Nat.ne_of_lt hal) its.toArray, ⟨⟨_, Heap.get?_push_size _ rfl, rfl, rfl⟩, tp'.push _⟩, fun b hb => ?_, fun i v hv => ints_rel rv (by simpa using hv), fun h' tk t' hk => ?_⟩
  · rw [Heap.size_push]
    rcases List.mem_cons.mp hb with z | z
    · rw [z]; exact Nat.lt_succ_self _
    · rw [List.mem_singleton.mp z]; exact Nat.lt_succ_of_lt hal
  · have e : preSum (fun i => ns.getD i 0) its.toArray.size = ns.sum := by
      rw [preSum_getD, List.take_of_length_le (by rw [List.length_map] at hlen; simp; omega)]
    rw [e]
    refine ⟨.int ns.sum, H, I.kept (t' := tk) fun b o eb => hk b o (fun z => ?_) (Heap.get?_push_of_some _ eb), ⟨_, rfl⟩, q⟩
    rw [List.mem_singleton.mp z] at eb
    exact Nat.lt_irrefl _ (Heap.lt_size eb)
end SuT
/-! D8: sum of a tuple -/
namespace DL
open PySem PySem.Spec PyProof.Rows L2
theorem sumTK {X : Cx} {K : PySem.W.Frag} (hc : X.calm = true) (h : X.K = K := by rfl) : CallR X (.builtin "sum") (SuT.rSumT K) := by cases h; exact SuT.cr_sumT hc
theorem wC_sumT {μ : List MO} {Φ : DK} {K : PySem.W.Frag} {ns : List Int} {ds : List Dt} (e : ds = ns.map Dt.int) (k : Φ (.int ns.sum) μ) : wC (SuT.rSumT K) [.tup ds] μ Φ := fun H α vs Q R D q => by
  cases D with
  | cons D1 D2 =>
    cases D2
    subst e
    cases D1 with
    | tup ea k1 =>
      have e2 := ints_v k1
      subst e2
      exact ⟨_, ns, rfl, .inl (.inl ea), q _ H α _ μ .refl R (.int _) k⟩
end DL
namespace PB
open PySem PySem.Spec PyProof.Rows L2 DL
/-! what deeds pay at once -/
def newCosts : List Fil → List Int
  | [] => []
  | .new c _ :: r => c :: newCosts r
  | .none :: r => newCosts r
  | .kept _ _ :: r => newCosts r
def rowOnce (row : Row) : Int := row.cost + (newCosts row.slots).sum
def verOnce (c : Craft) (v : Ver) : Int := match c.rows[v.1]? with
  | some row => rowOnce row
  | none => 0
def atOnce (c : Craft) (wb : Web) : List Int := wb.map (verOnce c)
def isNewD : Dt → Bool
  | .tup (.str s :: _) => decide (s = "new")
  | _ => false
def costD : Dt → Dt
  | .tup (_ :: x :: _) => x
  | d => d
theorem new_costs : ∀ fs : List Fil, ((fs.map filD).filter isNewD).map costD = (newCosts fs).map Dt.int
  | [] => rfl
  | .new c ws :: r => by
    rw [List.map_cons, List.filter_cons, if_pos (by simp [isNewD, filD]), List.map_cons, new_costs r]; rfl
  | .none :: r => by
    rw [List.map_cons, List.filter_cons, if_neg (by simp only [isNewD, filD]; decide +kernel), new_costs r]; rfl
  | .kept p q :: r => by
    rw [List.map_cons, List.filter_cons, if_neg (by simp only [isNewD, filD]; decide +kernel), new_costs r]; rfl
local macro_rules | `(tactic| walk_at "ix") => `(tactic| first
  | with_reducible exact at0 | with_reducible exact at1 | with_reducible exact at2 | with_reducible exact at3 | with_reducible exact at4 | with_reducible exact at_map (by assumption) | with_reducible exact at_nat (by assumption)
  | exact at0 | exact at1 | exact at2 | exact at3 | exact at4 | exact at_nat (by assumption) | exact at_map (by assumption) | rfl)
local macro_rules | `(tactic| walk_at "b") => `(tactic| first
  | refine ⟨true, rfl, fun _ => ?_, fun hx => tf hx⟩
  | refine ⟨false, rfl, fun hx => ft hx, fun _ => ?_⟩
  | refine ⟨true, rfl, fun hx => ft hx, fun _ => ?_⟩
  | refine ⟨false, rfl, fun _ => ?_, fun hx => tf hx⟩
  | refine ⟨_, rfl, ?_⟩)
local macro_rules | `(tactic| walk_at "t") => `(tactic| first
  | refine ⟨Nat.le_of_ble_eq_true rfl, ?_⟩
  | refine ⟨fun _ => ?_, fun hx => tf hx⟩
  | refine ⟨fun hx => ft hx, fun _ => ?_⟩)
local macro_rules | `(tactic| walk_at "isi") => `(tactic| first
  | refine wC_isi rfl k_ii ?_ | refine wC_isi rfl k_ib ?_ | refine wC_isi rfl k_tt ?_ | refine wC_isi rfl k_tl ?_ | refine wC_isi rfl k_ll ?_ | refine wC_isi rfl k_lt ?_ | refine wC_isi rfl k_sb ?_ | refine wC_isi rfl k_si ?_
  | refine wC_isi rfl k_bb ?_ | refine wC_isi rfl k_bi ?_ | refine wC_isi rfl k_st ?_ | refine wC_isi rfl k_sl ?_ | refine wC_isi rfl k_il ?_ | refine wC_isi rfl k_it ?_
  | refine wC_isi2 rfl k_tl k_tt ?_ | refine wC_isi2 rfl k_ll k_lt ?_ | refine wC_isi2 rfl k_il k_it ?_ | refine wC_isi2 rfl k_sl k_st ?_ | refine wC_isi2 rfl k_ib k_is ?_ | refine wC_isi2 rfl k_sb k_ss ?_)
local macro_rules | `(tactic| walk_at "dE") => `(tactic| first
  | with_reducible refine wE_var rfl ?_ | with_reducible refine wE_op ?_ | with_reducible refine wE_int ?_ | with_reducible refine wE_call ?_ | with_reducible refine wE_str ?_
  | with_reducible refine wE_lenSet ?_ | with_reducible refine wE_sortedSet ?_ | with_reducible refine wE_cb ?_ | with_reducible refine wE_and ?_ | with_reducible refine wE_or ?_ | with_reducible refine wE_not ?_ | with_reducible refine wE_if ?_
  | with_reducible refine wE_tup ?_ | with_reducible refine wE_ty ?_ | with_reducible refine wE_bl ?_ | with_reducible refine wE_non ?_ | with_reducible refine wE_chain ?_ | with_reducible refine wE_un ?_ | with_reducible refine wE_slice ?_)
local macro_rules | `(tactic| walk_at "dS") => `(tactic| first
  | with_reducible refine wS_seq ?_ | with_reducible refine wS_set ?_ | with_reducible refine wS_if ?_ | with_reducible refine wS_drop ?_ | with_reducible refine wS_next ?_ | with_reducible refine wS_ret ?_ | with_reducible refine wS_asg ?_
  | with_reducible refine wS_cont ?_ | with_reducible refine wS_par ?_ | with_reducible refine wS_for ?_)
local macro_rules | `(tactic| walk_at "dT") => `(tactic| first
  | with_reducible refine wT_test ?_ | with_reducible refine wT_B ?_ | with_reducible refine wT_and ?_ | with_reducible refine wT_or ?_ | with_reducible refine wT_not ?_)
local macro_rules | `(tactic| walk_at "dO") => `(tactic| first
  | with_reducible refine wO_int ?_ | with_reducible refine wO_intB ?_ | with_reducible refine wO_eqI ?_ | with_reducible refine wO_eqS ?_ | with_reducible refine wO_neI ?_ | with_reducible refine wO_eqB ?_ | with_reducible refine wO_neB ?_
  | with_reducible refine wO_isN ?_ | with_reducible refine wO_notN ?_ | (refine wO_ixT (by walk_at "ix") ?_))
local macro_rules | `(tactic| walk_at "dC") => `(tactic| first
  | walk_at "isi" | (refine wC_len (.inl rfl) ?_) | with_reducible refine wC_intI ?_ | with_reducible refine wC_intB ?_ | with_reducible refine wC_abs ?_ | with_reducible refine wC_min ?_)
local macro_rules | `(tactic| walk_at "d") => `(tactic| first
  | ((with_reducible refine isE ?_); walk_at "dE")
  | ((with_reducible refine isA ?_); first | with_reducible refine wA_cons ?_ | with_reducible refine wA_nil ?_)
  | ((with_reducible refine isO ?_); walk_at "dO")
  | ((with_reducible refine isS ?_); walk_at "dS")
  | ((with_reducible refine isT ?_); walk_at "dT")
  | ((with_reducible refine isC ?_); walk_at "dC")
  | with_reducible refine wG_name ?_ | ((with_reducible refine isG ?_); refine wG_tup rfl ?_) | with_reducible refine wGs_cons ?_ | with_reducible refine wGs_nil ?_
  | with_reducible refine forL_cons ?_ | with_reducible refine forL_nil ?_
  | with_reducible refine wP_none ?_ | with_reducible refine wP_some ?_)
local macro_rules | `(tactic| walk_at "D") => `(tactic| repeat (first | walk_at "d" | walk_at "t" | walk_at "b"))

section
variable {P : Program} {w : World} {K : PySem.W.Frag} {mg : Str → Option Value} {base : Heap} {cU : Addr}
def RHeld (ds : List Dt) (r : Dt) : Prop := ∃ (c : Craft) (wb : Web), ds = [craftD c, webD wb] ∧ okCraft c ∧ okWeb c wb ∧ r = .tup ((heldN c wb wb.length).map rowH)
theorem c_held_by (T_held_by : HasFn K mg "held_by" s_held_by ["craft", "web"]) (B : Bt mg) (c_slots_by : Cal P w K mg base 1 "slots_by" ["craft", "there", "version", "found"] (spD cU CSlots)) : Cal P w K mg base (1 + 1) "held_by" ["craft", "web"] (spD cU (PC RHeld)) := by
  refine fnC (1) T_held_by sc_held_by (fun ds μ Φ Ψ h => ?_) (fun f cdv A outer s H E hr => ⟨_,
    (pss_cons (ps_set (i := 2) sc_held_by.nd rfl (by first | exact Or.inl rfl | exact Or.inr rfl) (pe_lst pa_nil))
    (pss_cons (ps_for PassesOwn.never rfl (pi_range1 (by rfl) B.range_ (pa_cons (pe_callB (lenK (K := K)) (by rfl) B.len_ (by decide +kernel) (pa_cons (pv 1) pa_nil)) pa_nil)) (pg_name (i := 3) sc_held_by.nd rfl (by first | exact Or.inl rfl | exact Or.inr rfl)) (pss_one (ps_expr (pe_bmK (K := K) PySem.F.plainAttrs_list PySem.F.slot_list_append PySem.F.type_list_append mt_append (pv 2) (pa_cons (pe_cal c_slots_by (hr.mono (by omega)) (by rfl) (pa_cons (pv 0) (pa_cons (pv 1) (pa_cons (pv 3) (pa_cons (pv 2) pa_nil))))) pa_nil)))))
    (pss_one (ps_ret (pe_callTy (tupleK (K := K)) (by rfl) B.tuple_ (by decide +kernel) (pa_cons (pv 2) pa_nil)))))), fun ds μ Φ Ψ h => ?_⟩)
  · obtain ⟨r, ⟨c, wb, rfl, _⟩, _⟩ := h; rfl
  · obtain ⟨r, ⟨c, wb, rfl, okc, okw, rfl⟩, k⟩ := h
    have few := okw.1
    walk_at "D"
    refine wE_reg (wA_nil ⟨Nat.zero_le _, .nil, ?_⟩)
    walk_at "D"
    refine wI_rng ?_
    walk_at "D"
    refine ⟨by omega, by rw [List.length_map]; omega, ?_⟩
    have e0 : (((wb.map verD).length : Int)).toNat = wb.length := by rw [List.length_map]; omega
    rw [e0]
    refine forL_inv (fun i δ' μ' => ∃ a, δ' = [some (craftD c), some (webD wb), some (.reg μ.length), a] ∧ μ' = μ ++ [.lst ((heldN c wb i).map rowH)]) 0 ⟨none, rfl, rfl⟩ (fun i d δ' μ' hi hI => ?_) (fun δ' μ' hI => ?_)
    · obtain ⟨a, rfl, rfl⟩ := hI
      have hil : i < wb.length := by have := (List.getElem?_eq_some_iff.mp hi).1; rw [rng_len] at this; exact this
      have hd : d = natD i := by
        unfold rngD at hi
        rw [List.getElem?_map, List.getElem?_range hil] at hi
        exact (Option.some.inj hi).symm
      subst hd
      simp only [Nat.zero_add]
      obtain ⟨row, h1, h2, h3⟩ := okw.2 i wb[i] (List.getElem?_eq_getElem hil)
      have hw : wb[i]? = some wb[i] := List.getElem?_eq_getElem hil
      have okr := okc.each row (List.mem_of_getElem? h1)
      walk_at "D"
      refine wE_appL (by rw [List.length_map, heldN_len]; omega) ?_
      walk_at "D"
      refine ⟨rfl, rfl, ?_⟩
      walk_at "D"
      refine ⟨c, wb, i, .reg μ.length, heldN c wb i, wb[i], row, rfl, lstOf_reg last_of, hw, h1, okc.small.2.2 row (List.mem_of_getElem? h1), fun p q hf => ?_, rfl, pu_rowH _, ⟨_, rfl, ?_⟩⟩
      · obtain ⟨e, h, z, q1, _, q2, q3⟩ := spot_there (p := (p, q)) okc okw hw h1 (okr.slots _ hf)
        exact ⟨e, h, z, q1, q2, q3⟩
      · rw [heldN, List.map_append, heldOf_eq hw h1]; rfl
    · obtain ⟨a, rfl, rfl⟩ := hI
      rw [Nat.zero_add, rng_len]
      walk_at "D"
      refine wC_tuple (lstOf_reg last_of) (.cut (.tup (PuL.map _ pu_rowH _)) ?_)
      rw [List.take_left]
      exact k
def RPaid (ds : List Dt) (r : Dt) : Prop := ∃ (d e : Dt) (c : Craft) (wb : Web), ds = [d, e] ∧ TD 7 d ∧ tupd d = craftD c ∧ okCraft c ∧ TD 7 e ∧ tupd e = webD wb ∧ okWeb c wb ∧ r = .tup ((atOnce c wb).map Dt.int)
theorem c_paid_at_once (T_paid_at_once : HasFn K mg "paid_at_once" s_paid_at_once ["craft", "web"]) (B : Bt mg) (c_sure_web : Cal P w K mg base 10 "sure_web" ["craft", "web"] (spD cU (PC RSureW))) : Cal P w K mg base (10 + 1) "paid_at_once" ["craft", "web"] (spD cU (PC RPaid)) := by
  refine fnC (10) T_paid_at_once sc_paid_at_once (fun ds μ Φ Ψ h => ?_) (fun f cdv A outer s H E hr => ⟨_,
    (pss_cons (ps_asg (pe_cal c_sure_web (hr.mono (by omega)) (by rfl) (pa_cons (pv 0) (pa_cons (pv 1) pa_nil))) (pg_tupK (K := K) (n := 2) rfl (pgs_cons (pg_name (i := 2) sc_paid_at_once.nd rfl (by first | exact Or.inl rfl | exact Or.inr rfl)) (pgs_cons (pg_name (i := 3) sc_paid_at_once.nd rfl (by first | exact Or.inl rfl | exact Or.inr rfl)) pgs_nil))))
    (pss_cons (ps_set (i := 4) sc_paid_at_once.nd rfl (by first | exact Or.inl rfl | exact Or.inr rfl) (pe_lst pa_nil))
    (pss_cons (ps_for PassesOwn.never rfl (pi_tupK (K := K) (pv 3)) (pg_tupK (K := K) (n := 2) rfl (pgs_cons (pg_name (i := 5) sc_paid_at_once.nd rfl (by first | exact Or.inl rfl | exact Or.inr rfl)) (pgs_cons (pg_name (i := 6) sc_paid_at_once.nd rfl (by first | exact Or.inl rfl | exact Or.inr rfl)) pgs_nil))) (pss_cons (ps_asg (pe_ix (ix_tupK (K := K)) (pe_ix (ix_tupK (K := K)) (pv 2) pe_int (fun _ _ => rfl)) (pv 5) (fun _ _ => rfl)) (pg_tupK (K := K) (n := 5) rfl (pgs_cons (pg_name (i := 6) sc_paid_at_once.nd rfl (by first | exact Or.inl rfl | exact Or.inr rfl)) (pgs_cons (pg_name (i := 6) sc_paid_at_once.nd rfl (by first | exact Or.inl rfl | exact Or.inr rfl)) (pgs_cons (pg_name (i := 7) sc_paid_at_once.nd rfl (by first | exact Or.inl rfl | exact Or.inr rfl)) (pgs_cons (pg_name (i := 6) sc_paid_at_once.nd rfl (by first | exact Or.inl rfl | exact Or.inr rfl)) (pgs_cons (pg_name (i := 8) sc_paid_at_once.nd rfl (by first | exact Or.inl rfl | exact Or.inr rfl)) pgs_nil)))))))
    (pss_one (ps_expr (pe_bmK (K := K) PySem.F.plainAttrs_list PySem.F.slot_list_append PySem.F.type_list_append mt_append (pv 4) (pa_cons (pe_op op_add (pv 7) (pe_callB (sumK (K := K) rfl) (by rfl) B.sum_ (by decide +kernel) (pa_cons (pe_lc (own := [("filling", 9)]) (g := (gName 9)) rfl sc_paid_at_once.nd (pi_tupK (K := K) (pv 8)) (blkOk_by (own := [("filling", 9)]) (N := ["craft", "web", "own", "told", "found", "row", "_", "cost", "slots", "filling"]) (sc := defScope s_paid_at_once) (by decide +kernel)) (fun _ _ _ _ _ => (pg_name (i := 9) sc_paid_at_once.nd rfl (by first | exact Or.inl rfl | exact Or.inr rfl))) (fun _ _ _ _ _ => (pts_one (pt_cmpR op_eq (pe_ix (ix_tupK (K := K)) (pv 9) pe_int (fun _ _ => rfl)) pe_str (nomark _)))) (fun _ _ _ _ _ => (pe_ix (ix_tupK (K := K)) (pv 9) pe_int (fun _ _ => rfl)))) pa_nil))) pa_nil))))))
    (pss_one (ps_ret (pe_callTy (tupleK (K := K)) (by rfl) B.tuple_ (by decide +kernel) (pa_cons (pv 4) pa_nil))))))), fun ds μ Φ Ψ h => ?_⟩)
  · obtain ⟨r, ⟨d, e, c, wb, rfl, _⟩, _⟩ := h; rfl
  · obtain ⟨r, ⟨d, e, c, wb, rfl, t1, e1, okc, t2, e2, okw, rfl⟩, k⟩ := h
    have few := okw.1
    walk_at "D"
    refine ⟨_, ⟨d, e, c, wb, rfl, t1, e1, okc, t2, e2, okw, rfl⟩, ?_⟩
    walk_at "D"
    refine wE_reg (wA_nil ⟨Nat.zero_le _, .nil, ?_⟩)
    walk_at "D"
    refine wI_tup ?_
    walk_at "D"
    refine forL_inv (fun i δ' μ' => ∃ a1 a2 a3 a4 a5, δ' = [some d, some e, some (craftD c), some (webD wb), some (.reg μ.length), a1, a2, a3, a4, a5] ∧ μ' = μ ++ [.lst (((atOnce c wb).take i).map Dt.int)]) 0 ⟨none, none, none, none, none, rfl, rfl⟩ (fun i x δ' μ' hi hI => ?_) (fun δ' μ' hI => ?_)
    · obtain ⟨a1, a2, a3, a4, a5, rfl, rfl⟩ := hI
      obtain ⟨v, hv, rfl⟩ := map_get hi
      obtain ⟨row, h1, h2, h3⟩ := okw.2 i v hv
      have okr := okc.each row (List.mem_of_getElem? h1)
      have hil : i < wb.length := (List.getElem?_eq_some_iff.mp hv).1
      have hone : verOnce c v = rowOnce row := by unfold verOnce; rw [h1]
      have hg : (atOnce c wb)[i]? = some (rowOnce row) := by unfold atOnce; rw [List.getElem?_map, hv, ← hone]; rfl
      simp only [Nat.zero_add]
      walk_at "D"
      refine wE_appL (by rw [List.length_map, List.length_take]; omega) ?_
      walk_at "D"
      refine ⟨rfl, rfl, ?_⟩
      walk_at "D"
      refine wE_lc mono_name (only_name (by decide)) (wI_tup ?_)
      walk_at "D"
      refine ⟨by rw [List.length_map]; have := okc.small.2.2 row (List.mem_of_getElem? h1); omega, comp_fm (p := isNewD) (f := costD) (fun x hx acc => ?_) (fun x hx hp => ?_) ?_⟩
      · obtain ⟨fl, hf, rfl⟩ := List.mem_map.mp hx
        cases fl with
        | none =>
          walk_at "D"
          exact ⟨rfl, rfl, fun hn => absurd hn (by simp only [isNewD, filD]; decide +kernel)⟩
        | kept p q =>
          walk_at "D"
          exact ⟨rfl, rfl, fun hn => absurd hn (by simp only [isNewD, filD]; decide +kernel)⟩
        | new cc ws =>
          walk_at "D"
          refine ⟨rfl, rfl, fun _ => ?_⟩
          walk_at "D"
          exact ⟨rfl, rfl⟩
      · obtain ⟨fl, hf, rfl⟩ := List.mem_map.mp hx
        cases fl with
        | none => exact absurd hp (by simp only [isNewD, filD]; decide +kernel)
        | kept p q => exact absurd hp (by simp only [isNewD, filD]; decide +kernel)
        | new cc ws => exact .int _
      · rw [List.nil_append, new_costs]
        walk_at "D"
        refine wC_sum (ns := newCosts row.slots) rfl rfl ?_
        walk_at "D"
        refine ⟨rfl, .int _, ⟨_, _, _, _, _, rfl, ?_⟩⟩
        rw [List.take_add_one, hg, List.map_append]; rfl
    · obtain ⟨a1, a2, a3, a4, a5, rfl, rfl⟩ := hI
      rw [Nat.zero_add, List.length_map, List.take_of_length_le (by unfold atOnce; rw [List.length_map]; exact Nat.le_refl _)]
      walk_at "D"
      refine wC_tuple (lstOf_reg last_of) (.cut (.tup (PuL.map _ .int _)) ?_)
      rw [List.take_left]
      exact k
def RCostO (ds : List Dt) (r : Dt) : Prop := ∃ (d e : Dt) (c : Craft) (wb : Web), ds = [d, e] ∧ TD 7 d ∧ tupd d = craftD c ∧ okCraft c ∧ TD 7 e ∧ tupd e = webD wb ∧ okWeb c wb ∧ r = .int (atOnce c wb).sum
theorem c_cost_at_once (T_cost_at_once : HasFn K mg "cost_at_once" s_cost_at_once ["craft", "web"]) (B : Bt mg) (c_paid_at_once : Cal P w K mg base 11 "paid_at_once" ["craft", "web"] (spD cU (PC RPaid))) : Cal P w K mg base (11 + 1) "cost_at_once" ["craft", "web"] (spD cU (PC RCostO)) := by
  refine fnC (11) T_cost_at_once sc_cost_at_once (fun ds μ Φ Ψ h => ?_) (fun f cdv A outer s H E hr => ⟨_,
    (pss_one (ps_ret (pe_callB (sumTK (K := K) rfl) (by rfl) B.sum_ (by decide +kernel) (pa_cons (pe_cal c_paid_at_once (hr.mono (by omega)) (by rfl) (pa_cons (pv 0) (pa_cons (pv 1) pa_nil))) pa_nil)))), fun ds μ Φ Ψ h => ?_⟩)
  · obtain ⟨r, ⟨d, e, c, wb, rfl, _⟩, _⟩ := h; rfl
  · obtain ⟨r, ⟨d, e, c, wb, rfl, t1, e1, okc, t2, e2, okw, rfl⟩, k⟩ := h
    walk_at "D"
    refine ⟨_, ⟨d, e, c, wb, rfl, t1, e1, okc, t2, e2, okw, rfl⟩, ?_⟩
    walk_at "D"
    exact wC_sumT rfl (.same k)
end
end PB
/-! P3: waits, plainly -/
namespace PB
open PySem PySem.Spec PyProof.Rows L2 DL

/-- a wait: its place, its cost, the waits that it wants -/
abbrev Wait := Spot × Int × List Spot
def holdOf (H : List HRow) (els : List Nat) (p : Spot) : Hold := (H.getD (els.getD p.1 0) []).getD p.2 none
def wantsH (H : List HRow) (els : List Nat) (ws : List Spot) : List Spot := ws.filterMap (holdOf H els)
def newsRow (H : List HRow) (v : Nat) (els : List Nat) : Nat → List Fil → List Wait
  | _, [] => []
  | s, .new c ws :: r => ((v, s), c, wantsH H els ws) :: newsRow H v els (s + 1) r
  | s, .none :: r => newsRow H v els (s + 1) r
  | s, .kept _ _ :: r => newsRow H v els (s + 1) r
def newsOf (c : Craft) (wb : Web) (H : List HRow) (v : Nat) : List Wait :=
  match wb[v]? with
  | none => []
  | some ver => match c.rows[ver.1]? with
    | none => []
    | some row => newsRow H v ver.2 0 row.slots
def newsN (c : Craft) (wb : Web) (H : List HRow) : Nat → List Wait
  | 0 => []
  | n + 1 => newsN c wb H n ++ newsOf c wb H n
abbrev holds (c : Craft) (wb : Web) : List HRow := heldN c wb wb.length
abbrev news (c : Craft) (wb : Web) : List Wait := newsN c wb (holds c wb) wb.length
def keyK (p : Spot) : List Key := [.inl (p.1 : Int), .inl (p.2 : Int)]
theorem keyK_inj {p q : Spot} (h : keyK p = keyK q) : p = q := by
  unfold keyK at h
  simp only [List.cons.injEq, Sum.inl.injEq, and_true] at h
  exact Prod.ext (by omega) (by omega)
def entD (x : Wait) : List Key × Dt := (keyK x.1, .tup [.int x.2.1, .tup (x.2.2.map spotD)])
theorem newsRow_key {H : List HRow} {v : Nat} {els : List Nat} : ∀ {s : Nat} {fs : List Fil} {x : Wait}, x ∈ newsRow H v els s fs → x.1.1 = v ∧ s ≤ x.1.2
  | _, [], _, h => by simp [newsRow] at h
  | s, .new c ws :: r, x, h => by
    rw [newsRow] at h
    rcases List.mem_cons.mp h with e | h
    · subst e; exact ⟨rfl, Nat.le_refl _⟩
    · have := newsRow_key h; exact ⟨this.1, by omega⟩
  | s, .none :: r, x, h => by
    rw [newsRow] at h
    have := newsRow_key h; exact ⟨this.1, by omega⟩
  | s, .kept _ _ :: r, x, h => by
    rw [newsRow] at h
    have := newsRow_key h; exact ⟨this.1, by omega⟩
theorem newsOf_key {c : Craft} {wb : Web} {H : List HRow} {v : Nat} {x : Wait} (h : x ∈ newsOf c wb H v) : x.1.1 = v := by
  unfold newsOf at h
  cases e : wb[v]? with
  | none => rw [e] at h; cases h
  | some ver =>
    rw [e] at h; dsimp only at h
    cases e2 : c.rows[ver.1]? with
    | none => rw [e2] at h; cases h
    | some row => rw [e2] at h; exact (newsRow_key h).1
theorem newsOf_eq {c : Craft} {wb : Web} {H : List HRow} {v : Nat} {ver : Ver} {row : Row} (h1 : wb[v]? = some ver) (h2 : c.rows[ver.1]? = some row) : newsOf c wb H v = newsRow H v ver.2 0 row.slots := by
  unfold newsOf
  rw [h1]; dsimp only; rw [h2]
theorem newsN_key {c : Craft} {wb : Web} {H : List HRow} : ∀ {n : Nat} {x : Wait}, x ∈ newsN c wb H n → x.1.1 < n
  | 0, x, h => by cases h
  | n + 1, x, h => by
    rw [newsN] at h
    rcases List.mem_append.mp h with h | h
    · have := newsN_key h; omega
    · have := newsOf_key h; omega
theorem newsRow_nd {H : List HRow} {v : Nat} {els : List Nat} : ∀ (s : Nat) (fs : List Fil), ((newsRow H v els s fs).map (·.1)).Nodup
  | _, [] => .nil
  | s, .new c ws :: r => by
    rw [newsRow, List.map_cons, List.nodup_cons]
    refine ⟨fun hm => ?_, newsRow_nd (s + 1) r⟩
    obtain ⟨x, hx, e⟩ := List.mem_map.mp hm
    have := (newsRow_key hx).2
    rw [e] at this
    exact absurd this (by show ¬ s + 1 ≤ s; omega)
  | s, .none :: r => newsRow_nd (s + 1) r
  | s, .kept _ _ :: r => newsRow_nd (s + 1) r
theorem newsOf_nd (c : Craft) (wb : Web) (H : List HRow) (v : Nat) : ((newsOf c wb H v).map (·.1)).Nodup := by
  unfold newsOf
  cases wb[v]? with
  | none => exact .nil
  | some ver =>
    dsimp only
    cases c.rows[ver.1]? with
    | none => exact .nil
    | some row => exact newsRow_nd _ _
theorem newsN_nd (c : Craft) (wb : Web) (H : List HRow) : ∀ n, ((newsN c wb H n).map (·.1)).Nodup
  | 0 => .nil
  | n + 1 => by
    rw [newsN, List.map_append]
    refine List.nodup_append.mpr ⟨newsN_nd c wb H n, newsOf_nd c wb H n, fun a ha b hb e => ?_⟩
    obtain ⟨x, hx, rfl⟩ := List.mem_map.mp ha
    obtain ⟨y, hy, rfl⟩ := List.mem_map.mp hb
    have h1 := newsN_key hx
    have h2 := newsOf_key hy
    rw [e] at h1; omega
theorem val_none {kvs : List (List Key × Dt)} {k : List Key} (h : ∀ p ∈ kvs, p.1 ≠ k) : valD kvs k = none := by
  unfold valD
  rw [List.find?_eq_none.mpr fun p hp => by simpa using h p hp]; rfl
theorem put_new {kvs : List (List Key × Dt)} {k : List Key} {d : Dt} (h : ∀ p ∈ kvs, p.1 ≠ k) : putD kvs k d = kvs ++ [(k, d)] := by
  unfold putD
  rw [if_neg]
  intro ha
  obtain ⟨p, hp, e⟩ := List.any_eq_true.mp ha
  exact h p hp (of_decide_eq_true e)
theorem val_ent {nw : List Wait} (nd : (nw.map (·.1)).Nodup) {x : Wait} (h : x ∈ nw) : valD (nw.map entD) (keyK x.1) = some (.tup [.int x.2.1, .tup (x.2.2.map spotD)]) := by
  induction nw with
  | nil => cases h
  | cons y r ih =>
    rw [List.map_cons, List.nodup_cons] at nd
    rw [List.map_cons]
    unfold valD at ih ⊢
    rw [List.find?_cons]
    rcases List.mem_cons.mp h with e | h
    · subst e
      simp [entD]
    · have hne : ¬ (entD y).1 = keyK x.1 := fun e => nd.1 (by
        have := keyK_inj e
        rw [this]; exact List.mem_map.mpr ⟨x, h, rfl⟩)
      simp only [hne, decide_false]
      exact ih nd.2 h
theorem newsRow_app (H : List HRow) (v : Nat) (els : List Nat) : ∀ (s : Nat) (a b : List Fil), newsRow H v els s (a ++ b) = newsRow H v els s a ++ newsRow H v els (s + a.length) b
  | s, [], b => rfl
  | s, .new c ws :: r, b => by
    rw [List.cons_append, newsRow, newsRow, newsRow_app H v els (s + 1) r b, List.length_cons, List.cons_append, show s + 1 + r.length = s + (r.length + 1) by omega]
  | s, .none :: r, b => by
    rw [List.cons_append, newsRow, newsRow, newsRow_app H v els (s + 1) r b, List.length_cons, show s + 1 + r.length = s + (r.length + 1) by omega]
  | s, .kept p q :: r, b => by
    rw [List.cons_append, newsRow, newsRow, newsRow_app H v els (s + 1) r b, List.length_cons, show s + 1 + r.length = s + (r.length + 1) by omega]
theorem take_snoc {α : Type} {l : List α} {j : Nat} {x : α} (h : l[j]? = some x) : l.take (j + 1) = l.take j ++ [x] := by rw [List.take_add_one, h]; rfl
/-- a spot of an elder is there, of all that is held -/
theorem spot_holds {c : Craft} {wb : Web} {i : Nat} {ver : Ver} {row : Row} {p : Spot} (okc : okCraft c) (okw : okWeb c wb) (h1 : wb[i]? = some ver) (h2 : c.rows[ver.1]? = some row) (hp : okSpot c.sizes row.el p) :
    ∃ (e : Nat) (h : HRow) (z : Hold), ver.2[p.1]? = some e ∧ e < i ∧ (holds c wb)[e]? = some h ∧ h[p.2]? = some z ∧ holdOf (holds c wb) ver.2 p = z := by
  obtain ⟨e, h, z, a, b, d, q⟩ := spot_there okc okw h1 h2 hp
  have hil : i < wb.length := (List.getElem?_eq_some_iff.mp h1).1
  rw [heldN_get c wb i e b, ← heldN_get c wb wb.length e (by omega)] at d
  refine ⟨e, h, z, a, b, d, q, ?_⟩
  unfold holdOf
  simp [List.getD_eq_getElem?_getD, a, d, q]
theorem newsRow_len (H : List HRow) (v : Nat) (els : List Nat) : ∀ (s : Nat) (fs : List Fil), (newsRow H v els s fs).length ≤ fs.length := by
  intro s fs
  induction fs generalizing s with
  | nil => exact Nat.le_refl _
  | cons f r ih =>
    cases f with
    | none => rw [newsRow, List.length_cons]; have := ih (s + 1); omega
    | kept p q => rw [newsRow, List.length_cons]; have := ih (s + 1); omega
    | new c ws => rw [newsRow, List.length_cons, List.length_cons]; have := ih (s + 1); omega
theorem newsRow_lt {H : List HRow} {v : Nat} {els : List Nat} : ∀ {s : Nat} {fs : List Fil} {x : Wait}, x ∈ newsRow H v els s fs → x.1.2 < s + fs.length
  | _, [], _, h => by simp [newsRow] at h
  | s, .new c ws :: r, x, h => by
    rw [newsRow] at h
    rw [List.length_cons]
    rcases List.mem_cons.mp h with e | h
    · subst e; show s < s + (r.length + 1); omega
    · have := newsRow_lt h; omega
  | s, .none :: r, x, h => by
    rw [newsRow] at h
    have := newsRow_lt h; rw [List.length_cons]; omega
  | s, .kept _ _ :: r, x, h => by
    rw [newsRow] at h
    have := newsRow_lt h; rw [List.length_cons]; omega
def spotOf : Dt → Spot
  | .tup [.int a, .int b] => (a.toNat, b.toNat)
  | _ => (0, 0)
theorem spotOf_spot (p : Spot) : spotOf (spotD p) = p := by simp [spotOf]
end PB
namespace PB
open PySem PySem.Spec PyProof.Rows L2 DL
theorem wS_dputL {X : Hp → Prop} {td ty tv : TE} {δ : Sl} {μ : List MO} {P : DE} {kvs : List (List Key × Dt)} (hl : kvs.length ≤ 100000)
    (h : wE tv δ (μ ++ [.dct kvs]) fun d μ1 => μ1 = μ ++ [.dct kvs] ∧ wE td δ (μ ++ [.dct kvs]) fun x μ2 => x = .reg μ.length ∧ μ2 = μ ++ [.dct kvs] ∧ wE ty δ (μ ++ [.dct kvs]) fun y μ3 => ∃ k, y = .tup (k.map kD) ∧ μ3 = μ ++ [.dct kvs] ∧ Pu d ∧ P.nx δ (μ ++ [.dct (putD kvs k d)])) :
    wS X (sDPut td ty tv) δ (μ ++ [.dct kvs]) P := by
  refine wS_dput (wE_mono h ?_)
  rintro d μ1 ⟨rfl, k⟩
  refine wE_mono k ?_
  rintro x μ2 ⟨rfl, rfl, k⟩
  refine wE_mono k ?_
  rintro y μ3 ⟨key, rfl, rfl, p, k⟩
  refine ⟨μ.length, kvs, key, rfl, last_of, rfl, hl, p, ?_⟩
  rw [set_last]; exact k
local macro_rules | `(tactic| walk_at "ix") => `(tactic| first
  | with_reducible exact at0 | with_reducible exact at1 | with_reducible exact at2 | with_reducible exact at3 | with_reducible exact at4 | with_reducible exact at_map (by assumption) | with_reducible exact at_nat (by assumption)
  | exact at0 | exact at1 | exact at2 | exact at3 | exact at4 | exact at_nat (by assumption) | exact at_map (by assumption) | rfl)
local macro_rules | `(tactic| walk_at "b") => `(tactic| first
  | refine ⟨true, rfl, fun _ => ?_, fun hx => tf hx⟩
  | refine ⟨false, rfl, fun hx => ft hx, fun _ => ?_⟩
  | refine ⟨true, rfl, fun hx => ft hx, fun _ => ?_⟩
  | refine ⟨false, rfl, fun _ => ?_, fun hx => tf hx⟩
  | refine ⟨_, rfl, ?_⟩)
local macro_rules | `(tactic| walk_at "t") => `(tactic| first
  | refine ⟨Nat.le_of_ble_eq_true rfl, ?_⟩
  | refine ⟨fun _ => ?_, fun hx => tf hx⟩
  | refine ⟨fun hx => ft hx, fun _ => ?_⟩)
local macro_rules | `(tactic| walk_at "isi") => `(tactic| first
  | refine wC_isi rfl k_ii ?_ | refine wC_isi rfl k_ib ?_ | refine wC_isi rfl k_tt ?_ | refine wC_isi rfl k_tl ?_ | refine wC_isi rfl k_ll ?_ | refine wC_isi rfl k_lt ?_ | refine wC_isi rfl k_sb ?_ | refine wC_isi rfl k_si ?_
  | refine wC_isi rfl k_bb ?_ | refine wC_isi rfl k_bi ?_ | refine wC_isi rfl k_st ?_ | refine wC_isi rfl k_sl ?_ | refine wC_isi rfl k_il ?_ | refine wC_isi rfl k_it ?_
  | refine wC_isi2 rfl k_tl k_tt ?_ | refine wC_isi2 rfl k_ll k_lt ?_ | refine wC_isi2 rfl k_il k_it ?_ | refine wC_isi2 rfl k_sl k_st ?_ | refine wC_isi2 rfl k_ib k_is ?_ | refine wC_isi2 rfl k_sb k_ss ?_)
local macro_rules | `(tactic| walk_at "dE") => `(tactic| first
  | with_reducible refine wE_var rfl ?_ | with_reducible refine wE_op ?_ | with_reducible refine wE_int ?_ | with_reducible refine wE_call ?_ | with_reducible refine wE_str ?_
  | with_reducible refine wE_lenSet ?_ | with_reducible refine wE_sortedSet ?_ | with_reducible refine wE_cb ?_ | with_reducible refine wE_and ?_ | with_reducible refine wE_or ?_ | with_reducible refine wE_not ?_ | with_reducible refine wE_if ?_
  | with_reducible refine wE_tup ?_ | with_reducible refine wE_ty ?_ | with_reducible refine wE_bl ?_ | with_reducible refine wE_non ?_ | with_reducible refine wE_chain ?_ | with_reducible refine wE_un ?_ | with_reducible refine wE_slice ?_)
local macro_rules | `(tactic| walk_at "dS") => `(tactic| first
  | with_reducible refine wS_seq ?_ | with_reducible refine wS_set ?_ | with_reducible refine wS_if ?_ | with_reducible refine wS_drop ?_ | with_reducible refine wS_next ?_ | with_reducible refine wS_ret ?_ | with_reducible refine wS_asg ?_
  | with_reducible refine wS_cont ?_ | with_reducible refine wS_par ?_ | with_reducible refine wS_for ?_)
local macro_rules | `(tactic| walk_at "dT") => `(tactic| first
  | with_reducible refine wT_test ?_ | with_reducible refine wT_B ?_ | with_reducible refine wT_and ?_ | with_reducible refine wT_or ?_ | with_reducible refine wT_not ?_)
local macro_rules | `(tactic| walk_at "dO") => `(tactic| first
  | with_reducible refine wO_int ?_ | with_reducible refine wO_intB ?_ | with_reducible refine wO_eqI ?_ | with_reducible refine wO_eqS ?_ | with_reducible refine wO_neI ?_ | with_reducible refine wO_eqB ?_ | with_reducible refine wO_neB ?_
  | with_reducible refine wO_isN ?_ | with_reducible refine wO_notN ?_ | (refine wO_ixT (by walk_at "ix") ?_))
local macro_rules | `(tactic| walk_at "dC") => `(tactic| first
  | walk_at "isi" | (refine wC_len (.inl rfl) ?_) | with_reducible refine wC_intI ?_ | with_reducible refine wC_intB ?_ | with_reducible refine wC_abs ?_ | with_reducible refine wC_min ?_)
local macro_rules | `(tactic| walk_at "d") => `(tactic| first
  | ((with_reducible refine isE ?_); walk_at "dE")
  | ((with_reducible refine isA ?_); first | with_reducible refine wA_cons ?_ | with_reducible refine wA_nil ?_)
  | ((with_reducible refine isO ?_); walk_at "dO")
  | ((with_reducible refine isS ?_); walk_at "dS")
  | ((with_reducible refine isT ?_); walk_at "dT")
  | ((with_reducible refine isC ?_); walk_at "dC")
  | with_reducible refine wG_name ?_ | ((with_reducible refine isG ?_); refine wG_tup rfl ?_) | with_reducible refine wGs_cons ?_ | with_reducible refine wGs_nil ?_
  | with_reducible refine forL_cons ?_ | with_reducible refine forL_nil ?_
  | with_reducible refine wP_none ?_ | with_reducible refine wP_some ?_)
local macro_rules | `(tactic| walk_at "D") => `(tactic| repeat (first | walk_at "d" | walk_at "t" | walk_at "b"))

section
variable {P : Program} {w : World} {K : PySem.W.Frag} {mg : Str → Option Value} {base : Heap} {cU : Addr}
def isSomeD : Dt → Bool
  | .non => false
  | _ => true
theorem some_holds : ∀ hs : List Hold, ((hs.map holdD).filter isSomeD).map id = (hs.filterMap id).map spotD
  | [] => rfl
  | none :: r => by
    have := some_holds r
    simpa [isSomeD, holdD] using this
  | some p :: r => by
    rw [List.map_cons, List.filter_cons, if_pos (by rfl), List.map_cons, some_holds r]; rfl
theorem news_len (c : Craft) (wb : Web) (okc : okCraft c) (H : List HRow) : ∀ n, (newsN c wb H n).length ≤ n * 10
  | 0 => Nat.le_refl _
  | n + 1 => by
    rw [newsN, List.length_append]
    have h1 := news_len c wb okc H n
    have h2 : (newsOf c wb H n).length ≤ 10 := by
      unfold newsOf
      cases e : wb[n]? with
      | none => exact Nat.zero_le _
      | some ver =>
        dsimp only
        cases e2 : c.rows[ver.1]? with
        | none => exact Nat.zero_le _
        | some row =>
          dsimp only
          have h3 := okc.small.2.2 row (List.mem_of_getElem? e2)
          have h4 : ∀ (s : Nat) (fs : List Fil), (newsRow H n ver.2 s fs).length ≤ fs.length := by
            intro s fs
            induction fs generalizing s with
            | nil => exact Nat.le_refl _
            | cons f r ih =>
              cases f with
              | none => rw [newsRow, List.length_cons]; have := ih (s + 1); omega
              | kept p q => rw [newsRow, List.length_cons]; have := ih (s + 1); omega
              | new c ws => rw [newsRow, List.length_cons, List.length_cons]; have := ih (s + 1); omega
          exact Nat.le_trans (h4 _ _) h3
    omega
def CNews : Con := fun ds μ Φ _ => ∃ (c : Craft) (wb : Web), ds = [craftD c, webD wb, .tup ((holds c wb).map rowH)] ∧ okCraft c ∧ okWeb c wb ∧ Φ (.reg μ.length) (μ ++ [.dct ((news c wb).map entD)])
theorem c_news_of (T_news_of : HasFn K mg "news_of" s_news_of ["craft", "web", "holds"]) (B : Bt mg) : Cal P w K mg base (0 + 1) "news_of" ["craft", "web", "holds"] (spD cU (CNews)) := by
  refine fnC (0) T_news_of sc_news_of (fun ds μ Φ Ψ h => ?_) (fun f cdv A outer s H E hr => ⟨_,
    (pss_cons (ps_set (i := 3) sc_news_of.nd rfl (by first | exact Or.inl rfl | exact Or.inr rfl) pe_dnewT)
    (pss_cons (ps_for PassesOwn.never rfl (pi_enumTK (K := K) (by rfl) B.enumerate_ (pa_cons (pv 1) pa_nil)) (pg_tupK (K := K) (n := 2) rfl (pgs_cons (pg_name (i := 4) sc_news_of.nd rfl (by first | exact Or.inl rfl | exact Or.inr rfl)) (pgs_cons (pg_tupK (K := K) (n := 2) rfl (pgs_cons (pg_name (i := 5) sc_news_of.nd rfl (by first | exact Or.inl rfl | exact Or.inr rfl)) (pgs_cons (pg_name (i := 6) sc_news_of.nd rfl (by first | exact Or.inl rfl | exact Or.inr rfl)) pgs_nil))) pgs_nil))) (pss_one (ps_for PassesOwn.never rfl (pi_enumTK (K := K) (by rfl) B.enumerate_ (pa_cons (pe_ix (ix_tupK (K := K)) (pe_ix (ix_tupK (K := K)) (pe_ix (ix_tupK (K := K)) (pv 0) pe_int (fun _ _ => rfl)) (pv 5) (fun _ _ => rfl)) pe_int (fun _ _ => rfl)) pa_nil)) (pg_tupK (K := K) (n := 2) rfl (pgs_cons (pg_name (i := 7) sc_news_of.nd rfl (by first | exact Or.inl rfl | exact Or.inr rfl)) (pgs_cons (pg_name (i := 8) sc_news_of.nd rfl (by first | exact Or.inl rfl | exact Or.inr rfl)) pgs_nil))) (pss_one (ps_if (pt_cmpR op_eq (pe_ix (ix_tupK (K := K)) (pv 8) pe_int (fun _ _ => rfl)) pe_str (nomark _)) (pss_cons (ps_setLc (i := 9) (own := [("place", 10), ("near", 11)]) (g := (gTup K 2 (gCons (gName 10) (gCons (gName 11) gNil)))) rfl sc_news_of.nd rfl rfl (sw_true rfl rfl rfl (by decide +kernel)) (pi_tupK (K := K) (pe_ix (ix_tupK (K := K)) (pv 8) pe_int (fun _ _ => rfl))) (blkOk_by (own := [("place", 10), ("near", 11)]) (N := ["craft", "web", "holds", "found", "number", "own", "elders", "spot", "what", "asked", "place", "near", "one"]) (sc := defScope s_news_of) (by decide +kernel)) (fun _ _ _ _ _ => (pg_tupK (K := K) (n := 2) rfl (pgs_cons (pg_name (i := 10) sc_news_of.nd rfl (by first | exact Or.inl rfl | exact Or.inr rfl)) (pgs_cons (pg_name (i := 11) sc_news_of.nd rfl (by first | exact Or.inl rfl | exact Or.inr rfl)) pgs_nil)))) (fun _ _ _ _ _ => pts_nil) (fun _ _ _ _ _ => (pe_ix (ix_tupK (K := K)) (pe_ix (ix_tupK (K := K)) (pv 2) (pe_ix (ix_tupK (K := K)) (pv 6) (pv 10) (fun _ _ => rfl)) (fun _ _ => rfl)) (pv 11) (fun _ _ => rfl))))
    (pss_one (ps_dput (hu_of hr) (pv 3) (pe_tup (pa_cons (pv 4) (pa_cons (pv 7) pa_nil))) (pe_tup (pa_cons (pe_ix (ix_tupK (K := K)) (pv 8) pe_int (fun _ _ => rfl)) (pa_cons (pe_callTy (tupleK (K := K)) (by rfl) B.tuple_ (by decide +kernel) (pa_cons (pe_lc (own := [("one", 12)]) (g := (gName 12)) rfl sc_news_of.nd (pi_listK (K := K) (pv 9)) (blkOk_by (own := [("one", 12)]) (N := ["craft", "web", "holds", "found", "number", "own", "elders", "spot", "what", "asked", "place", "near", "one"]) (sc := defScope s_news_of) (by decide +kernel)) (fun _ _ _ _ _ => (pg_name (i := 12) sc_news_of.nd rfl (by first | exact Or.inl rfl | exact Or.inr rfl))) (fun _ _ _ _ _ => (pts_one (pt_cmpR op_notN (pv 12) pe_non (nomark _)))) (fun _ _ _ _ _ => (pv 12))) pa_nil)) pa_nil))) rfl))) pss_nil)))))
    (pss_one (ps_ret (pv 3))))), fun ds μ Φ Ψ h => ?_⟩)
  · obtain ⟨c, wb, rfl, _⟩ := h; rfl
  · obtain ⟨c, wb, rfl, okc, okw, k⟩ := h
    have few := okw.1
    walk_at "D"
    refine wE_dict ?_
    walk_at "D"
    refine wI_enumT ?_
    walk_at "D"
    refine forL_inv (fun i δ' μ' => ∃ a1 a2 a3 a4 a5 a6 a7 a8 a9, δ' = [some (craftD c), some (webD wb), some (.tup ((holds c wb).map rowH)), some (.reg μ.length), a1, a2, a3, a4, a5, a6, a7, a8, a9] ∧ μ' = μ ++ [.dct ((newsN c wb (holds c wb) i).map entD)]) 0 ⟨none, none, none, none, none, none, none, none, none, rfl, rfl⟩ (fun i d δ' μ' hi hI => ?_) (fun δ' μ' hI => ?_)
    · obtain ⟨a1, a2, a3, a4, a5, a6, a7, a8, a9, rfl, rfl⟩ := hI
      rw [enumD_get] at hi
      cases hf : (wb.map verD)[i]? with
      | none => rw [hf] at hi; cases hi
      | some d' =>
        rw [hf] at hi
        cases hi
        obtain ⟨v, hv, rfl⟩ := map_get hf
        obtain ⟨row, h1, h2, h3⟩ := okw.2 i v hv
        have okr := okc.each row (List.mem_of_getElem? h1)
        have hil : i < wb.length := (List.getElem?_eq_some_iff.mp hv).1
        have hlen := news_len c wb okc (holds c wb) i
        simp only [Nat.zero_add]
        walk_at "D"
        refine wI_enumT ?_
        walk_at "D"
        have rl := okc.small.2.2 row (List.mem_of_getElem? h1)
        refine forL_inv (fun j δ' μ' => ∃ a7 a8 a9 a10 a11 a12, δ' = [some (craftD c), some (webD wb), some (.tup ((holds c wb).map rowH)), some (.reg μ.length), some (natD i), some (natD v.1), some (.tup (v.2.map natD)), a7, a8, a9, a10, a11, a12] ∧
          μ' = μ ++ [.dct ((newsN c wb (holds c wb) i ++ newsRow (holds c wb) i v.2 0 (row.slots.take j)).map entD)]) 0 ⟨_, _, _, _, _, _, rfl, by rw [List.take_zero, newsRow, List.append_nil]⟩ (fun j d δ' μ' hj hI => ?_) (fun δ' μ' hI => ?_)
        · obtain ⟨b7, b8, b9, b10, b11, b12, rfl, rfl⟩ := hI
          rw [enumD_get] at hj
          cases hg : (row.slots.map filD)[j]? with
          | none => rw [hg] at hj; cases hj
          | some d' =>
            rw [hg] at hj
            cases hj
            obtain ⟨fl, hfl, rfl⟩ := map_get hg
            have hjl : j < row.slots.length := (List.getElem?_eq_some_iff.mp hfl).1
            have tk : newsRow (holds c wb) i v.2 0 (row.slots.take (j + 1)) = newsRow (holds c wb) i v.2 0 (row.slots.take j) ++ newsRow (holds c wb) i v.2 j [fl] := by
              rw [take_snoc hfl, newsRow_app, List.length_take, Nat.min_eq_left (by omega), Nat.zero_add]
            simp only [Nat.zero_add]
            cases fl with
            | none =>
              walk_at "D"
              exact ⟨_, _, _, _, _, _, rfl, by rw [tk]; simp [newsRow]⟩
            | kept p q =>
              walk_at "D"
              exact ⟨_, _, _, _, _, _, rfl, by rw [tk]; simp [newsRow]⟩
            | new cc ws =>
              obtain ⟨o1, o2, o3⟩ := okr.slots _ (List.mem_of_getElem? hfl)
              have o2f := o2.few
              walk_at "D"
              refine wE_lc (mono_tup (mono_cons mono_name (mono_cons mono_name mono_nil))) (only_tup (only_cons mono_name (only_name (by decide)) (mono_cons mono_name mono_nil) (only_cons mono_name (only_name (by decide)) mono_nil only_nil))) (wI_tup ?_)
              walk_at "D"
              refine ⟨by rw [List.length_map]; omega, comp_map (f := fun d => holdD (holdOf (holds c wb) v.2 (spotOf d))) (fun x hx acc => ?_) (fun x hx => pu_hold _) ?_⟩
              · obtain ⟨p, hp, rfl⟩ := List.mem_map.mp hx
                obtain ⟨e, hh, z, q1, q2, q3, q4, q5⟩ := spot_holds okc okw hv h1 (o2.each p hp)
                rw [spotOf_spot, q5]
                walk_at "D"
                exact ⟨rfl, rfl⟩
              have em : ([] : List Dt) ++ (ws.map spotD).map (fun d => holdD (holdOf (holds c wb) v.2 (spotOf d))) = (ws.map (holdOf (holds c wb) v.2)).map holdD := by
                rw [List.nil_append, List.map_map, List.map_map]
                refine List.map_congr_left fun p _ => ?_
                show holdD (holdOf (holds c wb) v.2 (spotOf (spotD p))) = _
                rw [spotOf_spot]; rfl
              rw [em]
              refine wS_dputL (by rw [List.length_map, List.length_append]; have := news_len c wb okc (holds c wb) i; have h5 : (newsRow (holds c wb) i v.2 0 (row.slots.take j)).length ≤ 10 := (by
                have h4 : ∀ (s : Nat) (fs : List Fil), (newsRow (holds c wb) i v.2 s fs).length ≤ fs.length := newsRow_len _ _ _
                have := h4 0 (row.slots.take j)
                rw [List.length_take] at this; omega); omega) ?_
              walk_at "D"
              refine wE_lc mono_name (only_name (by decide)) (wI_lst ?_)
              walk_at "D"
              refine ⟨by rw [List.length_map, List.length_map]; omega, comp_fm (p := isSomeD) (f := id) (fun x hx acc => ?_) (fun x hx _ => ?_) ?_⟩
              · obtain ⟨z, hz, rfl⟩ := List.mem_map.mp hx
                cases z with
                | none =>
                  walk_at "D"
                  exact ⟨rfl, rfl, fun hn => nomatch hn⟩
                | some p =>
                  walk_at "D"
                  refine ⟨rfl, rfl, fun _ => ?_⟩
                  walk_at "D"
                  exact ⟨rfl, rfl⟩
              · obtain ⟨z, hz, rfl⟩ := List.mem_map.mp hx
                exact pu_hold z
              rw [List.nil_append, some_holds]
              walk_at "D"
              refine wC_tuple rfl ?_
              walk_at "D"
              refine ⟨rfl, ?_⟩
              walk_at "D"
              refine ⟨rfl, rfl, ?_⟩
              walk_at "D"
              refine ⟨keyK (i, j), rfl, rfl, .tup (.cons (.int _) (.cons (.tup (PuL.map _ pu_spot _)) .nil)), ⟨_, _, _, _, _, _, rfl, ?_⟩⟩
              rw [put_new (fun p hp => ?_), tk]
              · simp only [newsRow, List.map_append, List.map_cons, List.map_nil, entD, wantsH, List.filterMap_map, List.append_assoc]
                rfl
              · obtain ⟨x, hx, rfl⟩ := List.mem_map.mp hp
                intro e
                have e1 := keyK_inj e
                rcases List.mem_append.mp hx with hx | hx
                · have := newsN_key hx
                  rw [e1] at this; exact Nat.lt_irrefl _ this
                · have h6 := newsRow_lt hx
                  rw [e1, List.length_take] at h6
                  have : j < 0 + min j row.slots.length := h6
                  omega
        · obtain ⟨b7, b8, b9, b10, b11, b12, rfl, rfl⟩ := hI
          rw [Nat.zero_add, enumD_len, List.length_map, List.take_length]
          exact ⟨_, _, _, _, _, _, _, _, _, rfl, by rw [newsN, newsOf_eq hv h1]⟩
    · obtain ⟨a1, a2, a3, a4, a5, a6, a7, a8, a9, rfl, rfl⟩ := hI
      rw [Nat.zero_add, enumD_len, List.length_map]
      walk_at "D"
      exact .same k
end
end PB
/-! P4: what is done if a wait is forced: the least closed set -/
namespace PB
open PySem PySem.Spec PyProof.Rows L2 DL

structure okNews (nw : List Wait) : Prop where
  nd : (nw.map (·.1)).Nodup
  few : nw.length ≤ 1000
  low : ∀ x ∈ nw, x.1.1 < 100
  wants : ∀ x ∈ nw, x.2.2.length ≤ 10
  old : ∀ x ∈ nw, ∀ q ∈ x.2.2, q.1 < x.1.1
  there : ∀ x ∈ nw, ∀ q ∈ x.2.2, ∃ y ∈ nw, y.1 = q
def Closed (nw : List Wait) (C : Spot → Prop) : Prop := ∀ x ∈ nw, C x.1 → ∀ q ∈ x.2.2, C q
theorem wait_eq {nw : List Wait} (ok : okNews nw) {x y : Wait} (hx : x ∈ nw) (hy : y ∈ nw) (e : x.1 = y.1) : x = y := by
  obtain ⟨i, hi⟩ := List.getElem?_of_mem hx
  obtain ⟨j, hj⟩ := List.getElem?_of_mem hy
  have h1 : (nw.map (·.1))[i]? = some x.1 := by rw [List.getElem?_map, hi]; rfl
  have h2 : (nw.map (·.1))[j]? = some x.1 := by rw [List.getElem?_map, hj, e]; rfl
  obtain ⟨l1, g1⟩ := List.getElem?_eq_some_iff.mp h1
  obtain ⟨l2, g2⟩ := List.getElem?_eq_some_iff.mp h2
  have : i = j := (List.getElem_inj ok.nd).mp (g1.trans g2.symm)
  subst this
  rw [hi] at hj; exact Option.some.inj hj

/-! ### the stack -/
inductive How where
  | look (n p s : Nat) | want (n : Nat) (x : Spot)
def howD : How → Dt
  | .look n p s => .tup [natD n, .str "look", natD p, natD s]
  | .want n x => .tup [natD n, .str "want", spotD x]
structure Ent where
  now : Spot
  how : How
  k : Nat
def entS (e : Ent) : Dt := .tup [spotD e.now, howD e.how, natD e.k]
theorem pu_how (h : How) : Pu (howD h) := by
  cases h with
  | look n p s => exact .tup (.cons (.int _) (.cons (.str _) (.cons (.int _) (.cons (.int _) .nil))))
  | want n x => exact .tup (.cons (.int _) (.cons (.str _) (.cons (pu_spot x) .nil)))
theorem pu_ent (e : Ent) : Pu (entS e) := .tup (.cons (pu_spot _) (.cons (pu_how _) (.cons (.int _) .nil)))
theorem py_spot (n : Nat) (p : Spot) : Py (n + 1) (spotD p) (.tuple [.int p.1, .int p.2]) := .tup (.cons (.int _) (.cons (.int _) .nil))
theorem py_how (h : How) : ∃ d, Py 3 (howD h) d := by
  cases h with
  | look n p s => exact ⟨_, .tup (.cons (.int _) (.cons (.str (by decide +kernel)) (.cons (.int _) (.cons (.int _) .nil))))⟩
  | want n x => exact ⟨_, .tup (.cons (.int _) (.cons (.str (by decide +kernel)) (.cons (py_spot 1 x) .nil)))⟩
theorem py_ents : ∀ l : List Ent, ∃ ps, PyL 4 (l.map entS) ps
  | [] => ⟨_, .nil⟩
  | e :: l => by
    obtain ⟨ps, h⟩ := py_ents l
    obtain ⟨d, hd⟩ := py_how e.how
    exact ⟨_, .cons (.tup (.cons (py_spot 2 e.now) (.cons hd (.cons (.int _) .nil)))) h⟩
/-- ahead of the one at work: each waits for the next one -/
def Below (nw : List Wait) (D : List Spot) (first : Spot) : Spot → List Ent → Prop
  | child, [] => child = first
  | child, e :: r => (∃ c ws, (e.now, c, ws) ∈ nw ∧ 1 ≤ e.k ∧ ws[e.k - 1]? = some child ∧ ∀ i, i < e.k - 1 → ∀ z, ws[i]? = some z → z ∈ D) ∧ Below nw D first e.now r
def Top (nw : List Wait) (D : List Spot) (first : Spot) : List Ent → Prop
  | [] => first ∈ D
  | e :: r => (∃ c ws, (e.now, c, ws) ∈ nw ∧ e.k ≤ ws.length ∧ ∀ i, i < e.k → ∀ z, ws[i]? = some z → z ∈ D) ∧ Below nw D first e.now r
theorem Below.more {nw : List Wait} {D D' : List Spot} {first : Spot} (h : ∀ p ∈ D, p ∈ D') : ∀ {child : Spot} {r : List Ent}, Below nw D first child r → Below nw D' first child r
  | _, [], b => b
  | _, e :: r, ⟨⟨c, ws, a1, a2, a3, a4⟩, b⟩ => ⟨⟨c, ws, a1, a2, a3, fun i hi z hz => h z (a4 i hi z hz)⟩, b.more h⟩
theorem Below.top {nw : List Wait} {D : List Spot} {first : Spot} : ∀ {child : Spot} {r : List Ent}, Below nw D first child r → child ∈ D → Top nw D first r
  | _, [], b, h => by subst b; exact h
  | child, e :: r, ⟨⟨c, ws, a1, a2, a3, a4⟩, b⟩, h => by
    refine ⟨⟨c, ws, a1, ?_, fun i hi z hz => ?_⟩, b⟩
    · have := (List.getElem?_eq_some_iff.mp a3).1; omega
    · by_cases hk : i < e.k - 1
      · exact a4 i hk z hz
      · have : i = e.k - 1 := by omega
        subst this
        rw [a3] at hz; cases hz; exact h
theorem Below.short {nw : List Wait} (ok : okNews nw) {D : List Spot} {first : Spot} : ∀ {child : Spot} {r : List Ent}, Below nw D first child r → child.1 < 100 → child.1 + r.length < 100
  | _, [], _, h => by rw [List.length_nil]; omega
  | child, e :: r, ⟨⟨c, ws, a1, a2, a3, a4⟩, b⟩, h => by
    have h1 : child.1 < e.now.1 := ok.old _ a1 child (List.mem_of_getElem? a3)
    have h2 := b.short ok (ok.low _ a1)
    rw [List.length_cons]; omega
/-! ### how long it takes -/
def bnd : Nat → Nat
  | 0 => 0
  | v + 1 => 11 + 11 * bnd v
theorem bnd_mono {a b : Nat} (h : a ≤ b) : bnd a ≤ bnd b := by
  induction b with
  | zero => have : a = 0 := by omega
            subst this; exact Nat.le_refl _
  | succ b ih =>
    by_cases e : a = b + 1
    · subst e; exact Nat.le_refl _
    · have := ih (by omega)
      rw [bnd]; omega
def lenW (nw : List Wait) (p : Spot) : Nat := ((nw.find? fun x => decide (x.1 = p)).map (·.2.2.length)).getD 0
theorem lenW_eq {nw : List Wait} (ok : okNews nw) {p : Spot} {c : Int} {ws : List Spot} (h : (p, c, ws) ∈ nw) : lenW nw p = ws.length := by
  unfold lenW
  cases e : nw.find? fun x => decide (x.1 = p) with
  | none =>
    have := List.find?_eq_none.mp e _ h
    simp at this
  | some y =>
    have h1 := List.mem_of_find?_eq_some e
    have h2 : y.1 = p := by have := List.find?_some e; simpa using this
    have := wait_eq ok h1 h h2
    subst this; rfl
def costE (nw : List Wait) (e : Ent) : Nat := 1 + (lenW nw e.now - e.k) * (1 + bnd e.now.1)
def costS (nw : List Wait) : List Ent → Nat
  | [] => 0
  | e :: r => costE nw e + costS nw r
theorem cost_new {nw : List Wait} (ok : okNews nw) {p : Spot} {c : Int} {ws : List Spot} {h : How} {v : Nat} (hp : (p, c, ws) ∈ nw) (hv : p.1 < v) : costE nw ⟨p, h, 0⟩ ≤ bnd v := by
  unfold costE
  rw [lenW_eq ok hp]
  have h1 : ws.length ≤ 10 := ok.wants _ hp
  have h2 : bnd (p.1 + 1) ≤ bnd v := bnd_mono hv
  rw [bnd] at h2
  have h3 : (ws.length - 0) * (1 + bnd p.1) ≤ 10 * (1 + bnd p.1) := Nat.mul_le_mul_right _ (by omega)
  show 1 + (ws.length - 0) * (1 + bnd p.1) ≤ bnd v
  omega
theorem cost_push {nw : List Wait} (ok : okNews nw) {p q : Spot} {c c' : Int} {ws ws' : List Spot} {h h' : How} {k : Nat} (hp : (p, c, ws) ∈ nw) (hq : (q, c', ws') ∈ nw) (hk : k < ws.length) (hv : q.1 < p.1) :
    costE nw ⟨q, h', 0⟩ + costE nw ⟨p, h, k + 1⟩ < costE nw ⟨p, h, k⟩ := by
  have h1 := cost_new (h := h') ok hq hv
  unfold costE at h1 ⊢
  dsimp only at h1 ⊢
  rw [lenW_eq ok hp]
  have h2 : (ws.length - k) * (1 + bnd p.1) = (ws.length - (k + 1)) * (1 + bnd p.1) + (1 + bnd p.1) := by
    have : ws.length - k = (ws.length - (k + 1)) + 1 := by omega
    rw [this, Nat.add_mul, Nat.one_mul]
  omega
/-! ### a dict's keys -/
def Keys (kvs : List (List Key × Dt)) (D : List Spot) : Prop := kvs.map (·.1) = D.map keyK
theorem Keys.some {kvs : List (List Key × Dt)} {D : List Spot} (h : Keys kvs D) (p : Spot) : (valD kvs (keyK p)).isSome = decide (p ∈ D) := by
  unfold Keys at h
  by_cases hp : p ∈ D
  · rw [decide_eq_true hp]
    have : keyK p ∈ kvs.map (·.1) := by rw [h]; exact List.mem_map.mpr ⟨p, hp, rfl⟩
    obtain ⟨kv, hk, e⟩ := List.mem_map.mp this
    unfold valD
    cases hf : kvs.find? fun kv => decide (kv.1 = keyK p) with
    | none =>
      have := List.find?_eq_none.mp hf kv hk
      simp [e] at this
    | some y => rfl
  · rw [decide_eq_false hp, val_none]
    · rfl
    · intro kv hk e
      have : kv.1 ∈ D.map keyK := by rw [← h]; exact List.mem_map.mpr ⟨kv, hk, rfl⟩
      obtain ⟨q, hq, e2⟩ := List.mem_map.mp this
      exact hp (by rw [keyK_inj (e2.trans e)] at hq; exact hq)
theorem Keys.put {kvs : List (List Key × Dt)} {D : List Spot} (h : Keys kvs D) {p : Spot} (hp : p ∉ D) (d : Dt) : putD kvs (keyK p) d = kvs ++ [(keyK p, d)] ∧ Keys (kvs ++ [(keyK p, d)]) (D ++ [p]) := by
  unfold Keys at h ⊢
  refine ⟨put_new fun kv hk e => ?_, by rw [List.map_append, List.map_append, h]; rfl⟩
  have : kv.1 ∈ D.map keyK := by rw [← h]; exact List.mem_map.mpr ⟨kv, hk, rfl⟩
  obtain ⟨q, hq, e2⟩ := List.mem_map.mp this
  exact hp (by rw [keyK_inj (e2.trans e)] at hq; exact hq)
theorem Keys.len {kvs : List (List Key × Dt)} {D : List Spot} (h : Keys kvs D) : kvs.length = D.length := by
  have := congrArg List.length h
  simpa using this
/-- what is done so far -/
structure okDone (nw : List Wait) (D : List Spot) : Prop where
  nd : D.Nodup
  sub : ∀ p ∈ D, ∃ x ∈ nw, x.1 = p
  cl : Closed nw fun p => p ∈ D
theorem nodup_le {α : Type} [DecidableEq α] : ∀ {D L : List α}, D.Nodup → (∀ p ∈ D, p ∈ L) → D.length ≤ L.length
  | [], _, _, _ => Nat.zero_le _
  | a :: D, L, nd, h => by
    rw [List.nodup_cons] at nd
    have ha := h a List.mem_cons_self
    have := nodup_le (L := L.erase a) nd.2 fun p hp => (List.mem_erase_of_ne (fun e => nd.1 (by rw [← e]; exact hp))).mpr (h p (List.mem_cons_of_mem _ hp))
    rw [List.length_erase_of_mem ha] at this
    have hl := List.length_pos_of_mem ha
    rw [List.length_cons]; omega
theorem okDone.len {nw : List Wait} {D : List Spot} (h : okDone nw D) : D.length ≤ nw.length := by
  have := nodup_le (L := nw.map (·.1)) h.nd fun p hp => by
    obtain ⟨x, hx, e⟩ := h.sub p hp
    exact List.mem_map.mpr ⟨x, hx, e⟩
  rwa [List.length_map] at this
/-- forced: done behind it -/
structure Forced (nw : List Wait) (D : List Spot) (first : Spot) (D' : List Spot) : Prop where
  ok : okDone nw D'
  has : first ∈ D'
  old : ∀ p ∈ D, p ∈ D'
  least : ∀ C : Spot → Prop, Closed nw C → (∀ p ∈ D, C p) → C first → ∀ p ∈ D', C p
end PB
namespace PB
open PySem PySem.Spec PyProof.Rows L2 DL
/-- pop of the last register -/
theorem wE_popL {K : PySem.W.Frag} {to : TE} {δ : Sl} {μ : List MO} {acc : List Dt} {d : Dt} {Φ : DK}
    (h : wE to δ (μ ++ [.lst (acc ++ [d])]) fun x μ1 => x = .reg μ.length ∧ μ1 = μ ++ [.lst (acc ++ [d])] ∧ Φ d (μ ++ [.lst acc])) : wE (tBM0 K "list" rPop to) δ (μ ++ [.lst (acc ++ [d])]) Φ := by
  refine wE_bm0 (wE_mono h ?_)
  rintro x μ1 ⟨rfl, rfl, k⟩
  refine ⟨⟨_, lstOf_reg last_of⟩, wM_pop last_of (by rw [List.length_append, List.length_cons, List.length_nil, Nat.add_sub_cancel]; exact last_of) ?_⟩
  rw [set_last, List.dropLast_concat]; exact k
local macro_rules | `(tactic| walk_at "ix") => `(tactic| first
  | with_reducible exact at0 | with_reducible exact at1 | with_reducible exact at2 | with_reducible exact at3 | with_reducible exact at4 | with_reducible exact at_map (by assumption) | with_reducible exact at_nat (by assumption)
  | exact at0 | exact at1 | exact at2 | exact at3 | exact at4 | exact at_nat (by assumption) | exact at_map (by assumption) | rfl)
local macro_rules | `(tactic| walk_at "b") => `(tactic| first
  | refine ⟨true, rfl, fun _ => ?_, fun hx => tf hx⟩
  | refine ⟨false, rfl, fun hx => ft hx, fun _ => ?_⟩
  | refine ⟨true, rfl, fun hx => ft hx, fun _ => ?_⟩
  | refine ⟨false, rfl, fun _ => ?_, fun hx => tf hx⟩
  | refine ⟨_, rfl, ?_⟩)
local macro_rules | `(tactic| walk_at "t") => `(tactic| first
  | refine ⟨Nat.le_of_ble_eq_true rfl, ?_⟩
  | refine ⟨fun _ => ?_, fun hx => tf hx⟩
  | refine ⟨fun hx => ft hx, fun _ => ?_⟩)
local macro_rules | `(tactic| walk_at "isi") => `(tactic| first
  | refine wC_isi rfl k_ii ?_ | refine wC_isi rfl k_ib ?_ | refine wC_isi rfl k_tt ?_ | refine wC_isi rfl k_tl ?_ | refine wC_isi rfl k_ll ?_ | refine wC_isi rfl k_lt ?_ | refine wC_isi rfl k_sb ?_ | refine wC_isi rfl k_si ?_
  | refine wC_isi rfl k_bb ?_ | refine wC_isi rfl k_bi ?_ | refine wC_isi rfl k_st ?_ | refine wC_isi rfl k_sl ?_ | refine wC_isi rfl k_il ?_ | refine wC_isi rfl k_it ?_
  | refine wC_isi2 rfl k_tl k_tt ?_ | refine wC_isi2 rfl k_ll k_lt ?_ | refine wC_isi2 rfl k_il k_it ?_ | refine wC_isi2 rfl k_sl k_st ?_ | refine wC_isi2 rfl k_ib k_is ?_ | refine wC_isi2 rfl k_sb k_ss ?_)
local macro_rules | `(tactic| walk_at "dE") => `(tactic| first
  | with_reducible refine wE_var rfl ?_ | with_reducible refine wE_op ?_ | with_reducible refine wE_int ?_ | with_reducible refine wE_call ?_ | with_reducible refine wE_str ?_
  | with_reducible refine wE_lenSet ?_ | with_reducible refine wE_sortedSet ?_ | with_reducible refine wE_cb ?_ | with_reducible refine wE_and ?_ | with_reducible refine wE_or ?_ | with_reducible refine wE_not ?_ | with_reducible refine wE_if ?_
  | with_reducible refine wE_tup ?_ | with_reducible refine wE_ty ?_ | with_reducible refine wE_bl ?_ | with_reducible refine wE_non ?_ | with_reducible refine wE_chain ?_ | with_reducible refine wE_un ?_ | with_reducible refine wE_slice ?_)
local macro_rules | `(tactic| walk_at "dS") => `(tactic| first
  | with_reducible refine wS_seq ?_ | with_reducible refine wS_set ?_ | with_reducible refine wS_if ?_ | with_reducible refine wS_drop ?_ | with_reducible refine wS_next ?_ | with_reducible refine wS_ret ?_ | with_reducible refine wS_asg ?_
  | with_reducible refine wS_cont ?_ | with_reducible refine wS_par ?_ | with_reducible refine wS_for ?_)
local macro_rules | `(tactic| walk_at "dT") => `(tactic| first
  | with_reducible refine wT_test ?_ | with_reducible refine wT_B ?_ | with_reducible refine wT_and ?_ | with_reducible refine wT_or ?_ | with_reducible refine wT_not ?_)
local macro_rules | `(tactic| walk_at "dO") => `(tactic| first
  | with_reducible refine wO_int ?_ | with_reducible refine wO_intB ?_ | with_reducible refine wO_eqI ?_ | with_reducible refine wO_eqS ?_ | with_reducible refine wO_neI ?_ | with_reducible refine wO_eqB ?_ | with_reducible refine wO_neB ?_
  | with_reducible refine wO_isN ?_ | with_reducible refine wO_notN ?_ | (refine wO_ixT (by walk_at "ix") ?_))
local macro_rules | `(tactic| walk_at "dC") => `(tactic| first
  | walk_at "isi" | (refine wC_len (.inl rfl) ?_) | with_reducible refine wC_intI ?_ | with_reducible refine wC_intB ?_ | with_reducible refine wC_abs ?_ | with_reducible refine wC_min ?_)
local macro_rules | `(tactic| walk_at "d") => `(tactic| first
  | ((with_reducible refine isE ?_); walk_at "dE")
  | ((with_reducible refine isA ?_); first | with_reducible refine wA_cons ?_ | with_reducible refine wA_nil ?_)
  | ((with_reducible refine isO ?_); walk_at "dO")
  | ((with_reducible refine isS ?_); walk_at "dS")
  | ((with_reducible refine isT ?_); walk_at "dT")
  | ((with_reducible refine isC ?_); walk_at "dC")
  | with_reducible refine wG_name ?_ | ((with_reducible refine isG ?_); refine wG_tup rfl ?_) | with_reducible refine wGs_cons ?_ | with_reducible refine wGs_nil ?_
  | with_reducible refine forL_cons ?_ | with_reducible refine forL_nil ?_
  | with_reducible refine wP_none ?_ | with_reducible refine wP_some ?_)
local macro_rules | `(tactic| walk_at "D") => `(tactic| repeat (first | walk_at "d" | walk_at "t" | walk_at "b"))

section
variable {P : Program} {w : World} {K : PySem.W.Frag} {mg : Str → Option Value} {base : Heap} {cU : Addr}
def CWait : Con := fun ds μ Φ _ => ∃ (nw : List Wait) (jn jd : Nat) (first : Spot) (n a b : Nat) (kvs : List (List Key × Dt)) (D : List Spot), ds = [.reg jn, .reg jd, spotD first, howD (.look n a b)] ∧ jn ≠ jd ∧ μ[jn]? = some (.dct (nw.map entD)) ∧ μ[jd]? = some (.dct kvs) ∧
  okNews nw ∧ Keys kvs D ∧ okDone nw D ∧ (∃ x ∈ nw, x.1 = first) ∧ ∀ kvs' D', Keys kvs' D' → Forced nw D first D' → Φ .non (μ.set jd (.dct kvs'))
theorem c_do_wait (T_do_wait : HasFn K mg "do_wait" s_do_wait ["news", "done", "first", "way"]) (B : Bt mg) : Cal P w K mg base (0 + 1) "do_wait" ["news", "done", "first", "way"] (spD cU (CWait)) := by
  refine fnC (0) T_do_wait sc_do_wait (fun ds μ Φ Ψ h => ?_) (fun f cdv A outer s H E hr => ⟨_,
    (pss_cons (ps_set (i := 4) sc_do_wait.nd rfl (by first | exact Or.inl rfl | exact Or.inr rfl) (pe_lst (pa_cons (pe_tup (pa_cons (pv 2) (pa_cons (pv 3) (pa_cons pe_int pa_nil)))) pa_nil)))
    (pss_one (ps_while PassesOwn.never (pt_cmpR (neDK (K := K) hr.units) (pv 4) (pe_lst pa_nil) (nomark _)) (pss_cons (ps_asg (pe_bm0K (K := K) PySem.F.plainAttrs_list PySem.F.slot_list_pop PySem.F.type_list_pop mt_pop (pv 4)) (pg_tupK (K := K) (n := 3) rfl (pgs_cons (pg_name (i := 5) sc_do_wait.nd rfl (by first | exact Or.inl rfl | exact Or.inr rfl)) (pgs_cons (pg_name (i := 6) sc_do_wait.nd rfl (by first | exact Or.inl rfl | exact Or.inr rfl)) (pgs_cons (pg_name (i := 7) sc_do_wait.nd rfl (by first | exact Or.inl rfl | exact Or.inr rfl)) pgs_nil)))))
    (pss_cons (ps_if (pt_cmp (pc_din (hu_of hr) (pv 5) (pv 1))) (pss_one ps_continue) pss_nil)
    (pss_cons (ps_set (i := 8) sc_do_wait.nd rfl (by first | exact Or.inl rfl | exact Or.inr rfl) (pe_ix (ix_tupK (K := K)) (pe_dget (hu_of hr) (pv 0) (pv 5) (fun _ _ => rfl)) pe_int (fun _ _ => rfl)))
    (pss_one (ps_if (pt_cmpR op_lt (pv 7) (pe_callB (lenK (K := K)) (by rfl) B.len_ (by decide +kernel) (pa_cons (pv 8) pa_nil)) (nomark _)) (pss_cons (ps_expr (pe_bmK (K := K) PySem.F.plainAttrs_list PySem.F.slot_list_append PySem.F.type_list_append mt_append (pv 4) (pa_cons (pe_tup (pa_cons (pv 5) (pa_cons (pv 6) (pa_cons (pe_op op_add (pv 7) pe_int) pa_nil)))) pa_nil)))
    (pss_one (ps_expr (pe_bmK (K := K) PySem.F.plainAttrs_list PySem.F.slot_list_append PySem.F.type_list_append mt_append (pv 4) (pa_cons (pe_tup (pa_cons (pe_ix (ix_tupK (K := K)) (pv 8) (pv 7) (fun _ _ => rfl)) (pa_cons (pe_tup (pa_cons (pe_ix (ix_tupK (K := K)) (pv 3) pe_int (fun _ _ => rfl)) (pa_cons pe_str (pa_cons (pv 5) pa_nil)))) (pa_cons pe_int pa_nil)))) pa_nil))))) (pss_one (ps_dput (hu_of hr) (pv 1) (pv 5) (pv 6) rfl)))))))))), fun ds μ Φ Ψ h => ?_⟩)
  · obtain ⟨nw, jn, jd, first, n, a, b, kvs, D, rfl, _⟩ := h; rfl
  · obtain ⟨nw, jn, jd, first, n, a, b, kvs, D, rfl, hne, hn, hd, okn, hk, okd, ⟨x0, hx0, ex0⟩, k⟩ := h
    have jdl : jd < μ.length := (List.getElem?_eq_some_iff.mp hd).1
    have jnl : jn < μ.length := (List.getElem?_eq_some_iff.mp hn).1
    walk_at "D"
    refine wE_reg ?_
    walk_at "D"
    refine ⟨pu_ent ⟨first, .look n a b, 0⟩ |> fun p => .cons p .nil, ?_⟩
    walk_at "D"
    refine wS_while (fun m δ' μ' => ∃ a5 a6 a7 a8 st kvs D', δ' = [some (.reg jn), some (.reg jd), some (spotD first), some (howD (.look n a b)), some (.reg μ.length), a5, a6, a7, a8] ∧ μ' = μ.set jd (.dct kvs) ++ [.lst (st.reverse.map entS)] ∧ m = costS nw st ∧
      Keys kvs D' ∧ okDone nw D' ∧ (∀ p ∈ D, p ∈ D') ∧ Top nw D' first st ∧ ∀ C : Spot → Prop, Closed nw C → (∀ p ∈ D, C p) → C first → (∀ p ∈ D', C p) ∧ ∀ e ∈ st, C e.now) _
      ⟨none, none, none, none, [⟨first, .look n a b, 0⟩], kvs, D, rfl, ?_, rfl, hk, okd, fun _ h => h, ?_, fun C hC h1 h2 => ⟨h1, fun e he => by rw [List.mem_singleton.mp he]; exact h2⟩⟩ (fun m δ' μ' hI => ?_)
    · have e1 : μ.set jd (.dct kvs) = μ := by
        refine List.ext_getElem? fun i => ?_
        by_cases hi : jd = i
        · subst hi; rw [List.getElem?_set_self jdl, hd]
        · rw [List.getElem?_set_ne hi]
      rw [e1]; rfl
    · obtain ⟨⟨p, c, ws⟩, hx, e⟩ := (⟨x0, hx0, ex0⟩ : ∃ x ∈ nw, x.1 = first)
      have e' : p = first := e
      subst e'
      exact ⟨⟨c, ws, hx, Nat.zero_le _, fun i hi => absurd hi (Nat.not_lt_zero _)⟩, rfl⟩
    · obtain ⟨a5, a6, a7, a8, st, kvs1, D1, rfl, rfl, rfl, hk1, okd1, old1, top1, least1⟩ := hI
      obtain ⟨ps, hps⟩ := py_ents st.reverse
      have setl : ∀ kv, (μ.set jd (.dct kv)).length = μ.length := fun kv => by rw [List.length_set]
      have gl : ∀ (kv : List (List Key × Dt)) (acc : List Dt), (μ.set jd (.dct kv) ++ [MO.lst acc])[μ.length]? = some (.lst acc) := fun kv acc => by
        have q := last_of (l := μ.set jd (.dct kv)) (x := MO.lst acc)
        rwa [setl] at q
      walk_at "D"
      refine wE_lst (wA_nil ⟨Nat.zero_le _, ?_⟩)
      refine wO_neNil (lstOf_reg (gl kvs1 _)) hps (by decide) ?_
      refine ⟨_, rfl, ?_⟩
      cases st with
      | nil =>
        refine pf rfl ?_
        have := k kvs1 D1 hk1 ⟨okd1, top1, old1, fun C hC h1 h2 => (least1 C hC h1 h2).1⟩
        refine .cut .non ?_
        rw [List.take_left' (setl kvs1)]
        exact this
      | cons e st =>
        obtain ⟨p, how, cnt⟩ := e
        refine pt (by simp) ?_
        obtain ⟨⟨c, ws, hx, hcnt, hdone⟩, bel⟩ := top1
        dsimp only at hx hcnt hdone bel
        rw [List.reverse_cons, List.map_append, List.map_cons, List.map_nil]
        have gn : ∀ (kv : List (List Key × Dt)) (acc : List Dt), (μ.set jd (.dct kv) ++ [MO.lst acc])[jn]? = some (.dct (nw.map entD)) := fun kv acc => by
          rw [List.getElem?_append_left (by rw [setl]; exact jnl), List.getElem?_set_ne (Ne.symm hne), hn]
        have gd : ∀ (kv : List (List Key × Dt)) (acc : List Dt), (μ.set jd (.dct kv) ++ [MO.lst acc])[jd]? = some (.dct kv) := fun kv acc => by
          rw [List.getElem?_append_left (by rw [setl]; exact jdl), List.getElem?_set_self jdl]
        have dn : ∀ (kv : List (List Key × Dt)) (acc : List Dt), dctOf (μ.set jd (.dct kv) ++ [MO.lst acc]) (.reg jn) = some (nw.map entD) := fun kv acc => by simp only [dctOf, gn]
        have dd : ∀ (kv : List (List Key × Dt)) (acc : List Dt), dctOf (μ.set jd (.dct kv) ++ [MO.lst acc]) (.reg jd) = some kv := fun kv acc => by simp only [dctOf, gd]
        walk_at "D"
        refine wE_popL ?_
        walk_at "D"
        refine ⟨by rw [setl], rfl, ?_⟩
        walk_at "D"
        refine wE_din ?_
        walk_at "D"
        refine ⟨kvs1, keyK p, dd _ _, rfl, ⟨_, rfl, ?_⟩⟩
        rw [hk1.some p]
        by_cases hpD : p ∈ D1
        · -- it is done already
          refine pt (dt hpD) ?_
          walk_at "D"
          refine ⟨costS nw st, by rw [costS]; unfold costE; omega, _, _, _, _, st, kvs1, D1, rfl, rfl, rfl, hk1, okd1, old1, bel.top hpD, fun C hC h1 h2 => ?_⟩
          obtain ⟨l1, l2⟩ := least1 C hC h1 h2
          exact ⟨l1, fun e he => l2 e (List.mem_cons_of_mem _ he)⟩
        · refine pf (df hpD) ?_
          walk_at "D"
          refine wE_dget ?_
          walk_at "D"
          refine ⟨nw.map entD, keyK p, _, dn _ _, rfl, val_ent okn.nd hx, ?_⟩
          walk_at "D"
          have hw : ws.length ≤ 10 := okn.wants _ hx
          by_cases hc : cnt < ws.length
          · refine pt (dt (by rw [List.length_map]; show (cnt : Int) < (ws.length : Int); omega)) ?_
            have hq : ws[cnt]? = some ws[cnt] := List.getElem?_eq_getElem hc
            obtain ⟨⟨q, c', ws'⟩, hy, ey⟩ := okn.there _ hx ws[cnt] (List.getElem_mem hc)
            have ey' : q = ws[cnt] := ey
            have hold : ws[cnt].1 < p.1 := okn.old _ hx ws[cnt] (List.getElem_mem hc)
            have stl : st.length ≤ 100000 := by have h0 : p.1 < 100 := okn.low _ hx; have := bel.short okn h0; omega
            walk_at "D"
            refine wE_appL (by rw [List.length_map, List.length_reverse]; exact stl) ?_
            walk_at "D"
            refine ⟨by rw [setl], rfl, ?_⟩
            walk_at "D"
            refine ⟨rfl, pu_ent ⟨p, how, cnt + 1⟩, ?_⟩
            walk_at "D"
            refine wE_appL (by rw [List.length_append, List.length_map, List.length_reverse, List.length_cons, List.length_nil]; have h0 : p.1 < 100 := okn.low _ hx; have := bel.short okn h0; omega) ?_
            walk_at "D"
            refine ⟨by rw [setl], rfl, ?_⟩
            walk_at "D"
            refine ⟨rfl, pu_ent ⟨ws[cnt], .want n p, 0⟩, ?_⟩
            refine ⟨costS nw (⟨ws[cnt], .want n p, 0⟩ :: ⟨p, how, cnt + 1⟩ :: st), ?_, _, _, _, _, ⟨ws[cnt], .want n p, 0⟩ :: ⟨p, how, cnt + 1⟩ :: st, kvs1, D1, rfl, ?_, rfl, hk1, okd1, old1, ?_, fun C hC h1 h2 => ?_⟩
            · rw [costS, costS, costS]
              have := cost_push (h := how) (h' := .want n p) okn hx (by rw [← ey']; exact hy) hc hold
              omega
            · rw [List.reverse_cons, List.reverse_cons, List.map_append, List.map_append]; rfl
            · exact ⟨⟨c', ws', by rw [← ey']; exact hy, Nat.zero_le _, fun i hi => absurd hi (Nat.not_lt_zero _)⟩, ⟨c, ws, hx, Nat.succ_le_succ (Nat.zero_le _), hq, fun i hi z hz => hdone i (by show i < cnt; have : i < cnt + 1 - 1 := hi; omega) z hz⟩, bel⟩
            · obtain ⟨l1, l2⟩ := least1 C hC h1 h2
              have hp := l2 _ List.mem_cons_self
              refine ⟨l1, fun e he => ?_⟩
              rcases List.mem_cons.mp he with he | he
              · rw [he]; exact hC _ hx hp _ (List.getElem_mem hc)
              rcases List.mem_cons.mp he with he | he
              · rw [he]; exact hp
              · exact l2 e (List.mem_cons_of_mem _ he)
          · refine pf (df (by rw [List.length_map]; show ¬ (cnt : Int) < (ws.length : Int); omega)) ?_
            have hk2 := hk1.put hpD (howD how)
            have all : ∀ z ∈ ws, z ∈ D1 := fun z hz => by
              obtain ⟨i, hi⟩ := List.getElem?_of_mem hz
              exact hdone i (by have := (List.getElem?_eq_some_iff.mp hi).1; show i < cnt; omega) z hi
            have kl := hk1.len
            have dl := okd1.len
            have nf := okn.few
            walk_at "D"
            refine wS_dput ?_
            walk_at "D"
            refine ⟨jd, kvs1, keyK p, rfl, gd _ _, rfl, by omega, pu_how how, ?_⟩
            rw [hk2.1]
            refine ⟨costS nw st, by rw [costS]; unfold costE; omega, _, _, _, _, st, kvs1 ++ [(keyK p, howD how)], D1 ++ [p], rfl, ?_, rfl, hk2.2, ?_, fun z hz => List.mem_append_left _ (old1 z hz), (bel.more fun z hz => List.mem_append_left _ hz).top (List.mem_append_right _ (List.mem_singleton.mpr rfl)), fun C hC h1 h2 => ?_⟩
            · rw [List.set_append_left _ _ (by rw [setl]; exact jdl), List.set_set]
            · refine ⟨List.nodup_append.mpr ⟨okd1.nd, by simp, fun a ha b hb e => hpD (by rw [List.mem_singleton.mp hb] at e; rw [← e]; exact ha)⟩, fun z hz => ?_, fun x hx' hc' z hz => ?_⟩
              · rcases List.mem_append.mp hz with hz | hz
                · exact okd1.sub z hz
                · rw [List.mem_singleton.mp hz]; exact ⟨_, hx, rfl⟩
              · rcases List.mem_append.mp hc' with hc' | hc'
                · exact List.mem_append_left _ (okd1.cl x hx' hc' z hz)
                · have := wait_eq okn hx' hx (List.mem_singleton.mp hc')
                  subst this
                  exact List.mem_append_left _ (all z hz)
            · obtain ⟨l1, l2⟩ := least1 C hC h1 h2
              refine ⟨fun z hz => ?_, fun e he => l2 e (List.mem_cons_of_mem _ he)⟩
              rcases List.mem_append.mp hz with hz | hz
              · exact l1 z hz
              · rw [List.mem_singleton.mp hz]; exact l2 _ List.mem_cons_self
end
end PB
/-! P5: the waits of a web are all right; what is played -/
namespace PB
open PySem PySem.Spec PyProof.Rows L2 DL

def looksOf (c : Craft) (wb : Web) (H : List HRow) (v : Nat) : List Spot :=
  match wb[v]? with
  | none => []
  | some ver => match c.rows[ver.1]? with
    | none => []
    | some row => wantsH H ver.2 row.looks
def looksN (c : Craft) (wb : Web) (H : List HRow) : Nat → List Spot
  | 0 => []
  | n + 1 => looksN c wb H n ++ looksOf c wb H n
abbrev looks (c : Craft) (wb : Web) : List Spot := looksN c wb (holds c wb) wb.length
theorem looksOf_eq {c : Craft} {wb : Web} {H : List HRow} {v : Nat} {ver : Ver} {row : Row} (h1 : wb[v]? = some ver) (h2 : c.rows[ver.1]? = some row) : looksOf c wb H v = wantsH H ver.2 row.looks := by
  unfold looksOf
  rw [h1]; dsimp only; rw [h2]
structure Played (nw : List Wait) (L D : List Spot) : Prop where
  ok : okDone nw D
  has : ∀ p ∈ L, p ∈ D
  least : ∀ C : Spot → Prop, Closed nw C → (∀ p ∈ L, C p) → ∀ p ∈ D, C p
theorem Played.nil (nw : List Wait) : Played nw [] [] := ⟨⟨.nil, (fun _ h => nomatch h), (fun _ _ h => nomatch h)⟩, (fun _ h => nomatch h), (fun _ _ _ _ h => nomatch h)⟩
theorem Played.step {nw : List Wait} {L D D' : List Spot} {first : Spot} (h : Played nw L D) (f : Forced nw D first D') : Played nw (L ++ [first]) D' := by
  refine ⟨f.ok, fun p hp => ?_, fun C hC hL => ?_⟩
  · rcases List.mem_append.mp hp with hp | hp
    · exact f.old p (h.has p hp)
    · rw [List.mem_singleton.mp hp]; exact f.has
  · exact f.least C hC (h.least C hC fun p hp => hL p (List.mem_append_left _ hp)) (hL first (List.mem_append_right _ (List.mem_singleton.mpr rfl)))
theorem Played.mem {nw : List Wait} {L D D' : List Spot} (h : Played nw L D) (h' : Played nw L D') (p : Spot) : p ∈ D ↔ p ∈ D' :=
  ⟨fun hp => h.least (fun q => q ∈ D') h'.ok.cl h'.has p hp, fun hp => h'.least (fun q => q ∈ D) h.ok.cl h.has p hp⟩

/-! ### what slots hold is there -/
theorem newsRow_has {H : List HRow} {v : Nat} {els : List Nat} : ∀ {s i : Nat} {fs : List Fil} {c : Int} {ws : List Spot}, fs[i]? = some (.new c ws) → ((v, s + i), c, wantsH H els ws) ∈ newsRow H v els s fs
  | _, _, [], _, _, h => by simp at h
  | s, 0, f :: r, c, ws, h => by
    have : f = .new c ws := by simpa using h
    subst this; rw [newsRow]; exact List.mem_cons_self
  | s, i + 1, f :: r, c, ws, h => by
    have h' : r[i]? = some (.new c ws) := by simpa using h
    have := newsRow_has (H := H) (v := v) (els := els) (s := s + 1) h'
    rw [show s + 1 + i = s + (i + 1) by omega] at this
    cases f with
    | none => exact this
    | kept p q => exact this
    | new c' ws' => rw [newsRow]; exact List.mem_cons_of_mem _ this
theorem newsN_has {c : Craft} {wb : Web} {H : List HRow} {v : Nat} {x : Wait} (h : x ∈ newsOf c wb H v) : ∀ {n : Nat}, v < n → x ∈ newsN c wb H n
  | 0, hn => by omega
  | n + 1, hn => by
    rw [newsN]
    by_cases e : v = n
    · subst e; exact List.mem_append_right _ h
    · exact List.mem_append_left _ (newsN_has h (by omega))
theorem held_news {c : Craft} {wb : Web} (okc : okCraft c) (okw : okWeb c wb) (H : List HRow) : ∀ (e n : Nat) (h : HRow) (s : Nat) (q : Spot), e < n → n ≤ wb.length → (heldN c wb n)[e]? = some h → h[s]? = some (some q) → q.1 ≤ e ∧ ∃ x ∈ newsOf c wb H q.1, x.1 = q := by
  intro e
  induction e using Nat.strongRecOn with
  | _ e ih =>
    intro n h s q hen hn h1 h2
    rw [heldN_get c wb n e hen] at h1
    cases h1
    have hw : wb[e]? = some wb[e] := List.getElem?_eq_getElem (by omega)
    obtain ⟨row, r1, r2, r3⟩ := okw.2 e _ hw
    rw [heldOf_eq hw r1, heldGo_get] at h2
    cases hf : row.slots[s]? with
    | none => rw [hf] at h2; cases h2
    | some f =>
      rw [hf] at h2
      have h3 : heldAt (heldN c wb e) e wb[e].2 (0 + s) f = some q := Option.some.inj h2
      cases f with
      | none => cases h3
      | new cc ws =>
        have : (e, 0 + s) = q := Option.some.inj h3
        subst this
        refine ⟨Nat.le_refl _, ((e, 0 + s), cc, wantsH H wb[e].2 ws), ?_, rfl⟩
        dsimp only
        rw [newsOf_eq hw r1]
        exact newsRow_has hf
      | kept p t =>
        have okf := (okc.each row (List.mem_of_getElem? r1)).slots _ (List.mem_of_getElem? hf)
        obtain ⟨e', hr, z, a, b, d, y⟩ := spot_there okc okw hw r1 okf
        have h4 : ((heldN c wb e).getD (wb[e].2.getD p 0) []).getD t none = some q := h3
        dsimp only at a b d y
        simp only [List.getD_eq_getElem?_getD, a, Option.getD_some, d, y] at h4
        subst h4
        obtain ⟨k1, k2⟩ := ih e' b e hr t q b (by omega) d y
        exact ⟨by omega, k2⟩
theorem hold_news {c : Craft} {wb : Web} {i : Nat} {ver : Ver} {row : Row} {p q : Spot} (okc : okCraft c) (okw : okWeb c wb) (h1 : wb[i]? = some ver) (h2 : c.rows[ver.1]? = some row) (hp : okSpot c.sizes row.el p) (hq : holdOf (holds c wb) ver.2 p = some q) :
    q.1 < i ∧ ∃ x ∈ newsOf c wb (holds c wb) q.1, x.1 = q := by
  obtain ⟨e, h, z, a, b, d, y, g⟩ := spot_holds okc okw h1 h2 hp
  have hil : i < wb.length := (List.getElem?_eq_some_iff.mp h1).1
  rw [hq] at g
  subst g
  obtain ⟨k1, k2⟩ := held_news okc okw (holds c wb) e wb.length h p.2 q (by omega) (Nat.le_refl _) d y
  exact ⟨by omega, k2⟩
theorem newsRow_of {H : List HRow} {v : Nat} {els : List Nat} : ∀ {s : Nat} {fs : List Fil} {x : Wait}, x ∈ newsRow H v els s fs → ∃ c ws, Fil.new c ws ∈ fs ∧ x.2.2 = wantsH H els ws
  | _, [], _, h => by simp [newsRow] at h
  | s, .new c ws :: r, x, h => by
    rw [newsRow] at h
    rcases List.mem_cons.mp h with e | h
    · subst e; exact ⟨c, ws, List.mem_cons_self, rfl⟩
    · obtain ⟨c, ws, m, e⟩ := newsRow_of h; exact ⟨c, ws, List.mem_cons_of_mem _ m, e⟩
  | s, .none :: r, x, h => by
    rw [newsRow] at h
    obtain ⟨c, ws, m, e⟩ := newsRow_of h; exact ⟨c, ws, List.mem_cons_of_mem _ m, e⟩
  | s, .kept _ _ :: r, x, h => by
    rw [newsRow] at h
    obtain ⟨c, ws, m, e⟩ := newsRow_of h; exact ⟨c, ws, List.mem_cons_of_mem _ m, e⟩
theorem newsN_of {c : Craft} {wb : Web} {H : List HRow} : ∀ {n : Nat} {x : Wait}, x ∈ newsN c wb H n → x ∈ newsOf c wb H x.1.1
  | 0, x, h => by cases h
  | n + 1, x, h => by
    rw [newsN] at h
    rcases List.mem_append.mp h with h | h
    · exact newsN_of h
    · have := newsOf_key h; rw [this]; exact h
theorem news_ok {c : Craft} {wb : Web} (okc : okCraft c) (okw : okWeb c wb) : okNews (news c wb) := by
  have few := okw.1
  have what : ∀ x ∈ news c wb, ∃ (ver : Ver) (row : Row) (cc : Int) (ws : List Spot), wb[x.1.1]? = some ver ∧ c.rows[ver.1]? = some row ∧ Fil.new cc ws ∈ row.slots ∧ x.2.2 = wantsH (holds c wb) ver.2 ws := fun x hx => by
    have h1 := newsN_of hx
    have h2 := newsN_key hx
    have hw : wb[x.1.1]? = some wb[x.1.1] := List.getElem?_eq_getElem h2
    obtain ⟨row, r1, r2, r3⟩ := okw.2 _ _ hw
    rw [newsOf_eq hw r1] at h1
    obtain ⟨cc, ws, m, e⟩ := newsRow_of h1
    exact ⟨_, row, cc, ws, hw, r1, m, e⟩
  refine ⟨newsN_nd _ _ _ _, ?_, fun x hx => ?_, fun x hx => ?_, fun x hx q hq => ?_, fun x hx q hq => ?_⟩
  · have := news_len c wb okc (holds c wb) wb.length
    show (newsN c wb (holds c wb) wb.length).length ≤ 1000; omega
  · have := newsN_key hx; omega
  · obtain ⟨ver, row, cc, ws, a, b, m, e⟩ := what x hx
    obtain ⟨o1, o2, o3⟩ := (okc.each row (List.mem_of_getElem? b)).slots _ m
    rw [e]
    exact Nat.le_trans (List.length_filterMap_le _ _) o2.few
  · obtain ⟨ver, row, cc, ws, a, b, m, e⟩ := what x hx
    obtain ⟨o1, o2, o3⟩ := (okc.each row (List.mem_of_getElem? b)).slots _ m
    rw [e] at hq
    obtain ⟨p, hp, g⟩ := List.mem_filterMap.mp hq
    exact (hold_news okc okw a b (o2.each p hp) g).1
  · obtain ⟨ver, row, cc, ws, a, b, m, e⟩ := what x hx
    obtain ⟨o1, o2, o3⟩ := (okc.each row (List.mem_of_getElem? b)).slots _ m
    rw [e] at hq
    obtain ⟨p, hp, g⟩ := List.mem_filterMap.mp hq
    obtain ⟨k1, y, hy, ey⟩ := hold_news okc okw a b (o2.each p hp) g
    have := newsN_key hx
    exact ⟨y, newsN_has hy (by omega), ey⟩
/-- what a look finds is one of the waits -/
theorem look_there {c : Craft} {wb : Web} {i : Nat} {ver : Ver} {row : Row} {p q : Spot} (okc : okCraft c) (okw : okWeb c wb) (h1 : wb[i]? = some ver) (h2 : c.rows[ver.1]? = some row) (hp : okSpot c.sizes row.el p) (hq : holdOf (holds c wb) ver.2 p = some q) : ∃ x ∈ news c wb, x.1 = q := by
  obtain ⟨k1, y, hy, ey⟩ := hold_news okc okw h1 h2 hp hq
  have hil : i < wb.length := (List.getElem?_eq_some_iff.mp h1).1
  exact ⟨y, newsN_has hy (by omega), ey⟩
end PB
/-! D9: [one for one in news if one not in done], both dicts -/
namespace DL
open PySem PySem.Spec PyProof.Rows L2
section
variable {δ : Sl} {μ : List MO} {Φ : DK}
theorem wS_par3 {X : Hp → Prop} {tr : TA} {P : DE} {i j l : Nat} (h : wA tr δ μ fun ds μ1 => ∃ d e f, ds = [d, e, f] ∧ P.nx (((δ.set i (some d)).set j (some e)).set l (some f)) μ1) : wS X (tPar3 i j l tr) δ μ P := fun σ H α D R f =>
  h σ H α _ R fun vs H1 α1 ds μ1 n1 R1 D1 ⟨d, e, g, q, k⟩ => by
    subst q
    cases D1 with
    | cons D1 D2 =>
      cases D2 with
      | cons D2 D3 =>
        cases D3 with
        | cons D3 D4 =>
          cases D4
          exact ⟨_, _, _, rfl, f.nx _ H1 α1 _ μ1 n1 ((((R.nx n1 R1).set i D1).set j D2).set l D3) k⟩
theorem key_dv {H : Hp} {av rg : List Addr} (k : List Key) : DvL H av rg (k.map kV) (k.map kD) := by
  induction k with
  | nil => exact .nil
  | cons a k ih =>
    refine .cons ?_ ih
    cases a with
    | inl i => exact .int i
    | inr s => exact .str s
theorem KvL.at {H : Hp} {av : List Addr} : ∀ {ws : List (List Key × V)} {kvs : List (List Key × Dt)} {i : Nat} {k : List Key} {v : V}, KvL H av ws kvs → ws[i]? = some (k, v) → ∃ d, kvs[i]? = some (k, d)
  | _, _, _, _, _, .nil, h => by simp at h
  | _, _, 0, _, _, .cons _ _, h => by cases h; exact ⟨_, rfl⟩
  | _, _, i + 1, _, _, .cons _ t, h => t.at (i := i) h
theorem upd_swap {H : Hp} {a b : Addr} {x y z : HO} (hne : b ≠ a) (e : H a = some z) : upd (upd (upd H a x) b y) a z = upd H b y := by
  funext c
  by_cases h1 : c = a
  · subst h1; rw [upd_same, upd_ne (Ne.symm hne), e]
  · rw [upd_ne h1]
    by_cases h2 : c = b
    · subst h2; rw [upd_same, upd_same]
    · rw [upd_ne h2, upd_ne h2, upd_ne h1]
theorem wE_keysNot {i m k jn jd : Nat} {kvn kvd : List (List Key × Dt)} (hi : δ[i]? = some (some (.reg jn))) (hm : δ[m]? = some (some (.reg jd))) (hk : k < δ.length) (hki : i ≠ k) (hkm : m ≠ k) (hne : jn ≠ jd)
    (hn : μ[jn]? = some (.dct kvn)) (hd : μ[jd]? = some (.dct kvd)) (hs : kvn.length ≤ 100000)
    (q : Φ (.lst ((kvn.filter fun kv => !(valD kvd kv.1).isSome).map fun kv => .tup (kv.1.map kD))) μ) :
    wE (tLockE (tLc (iKeys (tVar i)) (gName k) (tB (tDNotIn (tVar k) (tVar m))) (tVar k) [k])) δ μ Φ := fun σ H α Q R qq => by
  obtain ⟨vi, ei, Di⟩ := R.ss i _ hi
  obtain ⟨vm, em, Dm⟩ := R.ss m _ hm
  cases Di with
  | @reg a1 _ ea =>
    cases Dm with
    | @reg a2 _ eb =>
      obtain ⟨wn, hwn, kwn⟩ := R.rm.ok _ _ _ ea hn
      obtain ⟨wd, hwd, kwd⟩ := R.rm.ok _ _ _ eb hd
      have hab : a2 ≠ a1 := fun e => hne (by
        subst e
        obtain ⟨l1, g1⟩ := List.getElem?_eq_some_iff.mp ea
        obtain ⟨l2, g2⟩ := List.getElem?_eq_some_iff.mp eb
        exact (List.getElem_inj R.rm.nd).mp (g1.trans g2.symm))
      refine ⟨_, _, hwn, trivial, fun od => ⟨_, ei, _, od, rfl, .inr ⟨wn, upd_same, fun D hD => ?_⟩⟩⟩
      have hDa : D ≠ _ := fun e => by rw [e, upd_same] at hD; cases hD
      have hD0 : H D = none := by rwa [upd_ne hDa] at hD
      have hDb : a2 ≠ D := fun e => by rw [← e, hwd] at hD0; cases hD0
      refine lc_it (walk_keysT (kvs := wn)) (fun t H' => ∃ xs, H' = upd (upd H _ (.frz od (.dT wn))) D (.lst xs) ∧ DvL H α [] xs (((kvn.take t).filter fun kv => !(valD kvd kv.1).isSome).map fun kv => .tup (kv.1.map kD)) ∧ xs.length ≤ t) ⟨[], rfl, .nil, Nat.zero_le _⟩ ?_ ?_ ?_
      · rintro t H' ht ⟨xs, rfl, _⟩
        rw [upd_ne (Ne.symm hDa), upd_same]
      · rintro t x H' H'' ht ⟨xs, rfl, kx, hl⟩ ⟨rfl, key, v, p, hw, rfl, hp⟩
        have hpD : p ≠ D := fun e => by rw [e, upd_same] at hp; cases hp
        rw [upd_ne hpD] at hp
        have hpa : p ≠ _ := fun e => by rw [e, upd_same] at hp; cases hp
        rw [upd_ne hpa] at hp
        obtain ⟨d, hkd⟩ := kwn.at hw
        have kl : k < (wipe σ [k]).length := by rw [wipe_length, R.sl]; exact hk
        have tk : kvn.take (t + 1) = kvn.take t ++ [(key, d)] := by rw [List.take_add_one, hkd]; rfl
        refine ⟨?_, _, List.getElem?_set_self kl, _, ?_, a2, valV wd key, rfl, .inr ⟨wd, key, p, .inl ?_, rfl, ?_, rfl⟩, _, rfl, ?_⟩
        · show ((wipe σ [k]).set k _).set k none = _
          rw [List.set_set]; show ((σ.set k none).set k none) = σ.set k none; rw [List.set_set]
        · rw [List.getElem?_set_ne (Ne.symm hkm), wipe_out (by simpa using hkm)]; exact em
        · rw [upd_ne hDb, upd_ne hab]; exact hwd
        · rw [upd_ne hpD, upd_ne hpa]; exact hp
        · by_cases hv : (valV wd key).isSome
          · dsimp only; rw [if_neg (by simp [hv])]
            refine ⟨xs, rfl, ?_, by omega⟩
            rw [tk, List.filter_append, List.map_append, List.filter_cons, if_neg (by rw [← kwd.isSome, hv]; simp)]
            simpa using kx
          · dsimp only; rw [if_pos (by simp [hv])]
            refine ⟨_, List.getElem?_set_self kl, xs, upd_same, ?_, xs ++ [.ref p], ?_, ?_, by rw [List.length_append, List.length_cons, List.length_nil]; omega⟩
            · have := kwn.length; exact size_lt (by omega)
            · funext c
              by_cases h : c = D
              · subst h; rw [upd_same, upd_same]
              · rw [upd_ne h, upd_ne h, upd_ne h]
            · rw [tk, List.filter_append, List.map_append, List.filter_cons, if_pos (by rw [← kwd.isSome]; simp [hv])]
              exact kx.append (.cons (.tup hp (key_dv key)) .nil)
      · rintro H' ⟨xs, rfl, kx, hl⟩
        rw [kwn.length, List.take_length] at kx
        refine ⟨by rw [upd_ne (Ne.symm hDa), upd_same], ?_⟩
        rw [upd_swap hDa hwn]
        exact qq _ _ α _ μ (.new hD0) (R.rm.new hD0) (Dv.lst_new R.rm hD0 kx.up) q
end
end DL
namespace PB
open PySem PySem.Spec PyProof.Rows L2 DL
/-- append to a register -/
theorem wE_apR {K : PySem.W.Frag} {to te : TE} {δ : Sl} {μ : List MO} {j : Nat} {ds : List Dt} {Φ : DK} (hm : μ[j]? = some (.lst ds)) (hl : ds.length ≤ 100000)
    (h : wE to δ μ fun x μ1 => x = .reg j ∧ μ1 = μ ∧ wE te δ μ fun d μ2 => μ2 = μ ∧ Pu d ∧ Φ .non (μ.set j (.lst (ds ++ [d])))) : wE (tBM K "list" rAppend to (tCons te tNil)) δ μ Φ := by
  refine wE_bm (wE_mono h ?_)
  rintro x μ1 ⟨rfl, rfl, k⟩
  refine ⟨⟨_, lstOf_reg hm⟩, wA_cons (wE_mono k ?_)⟩
  rintro d μ2 ⟨rfl, p, k⟩
  exact wA_nil (wM_append hm hl p k)
theorem pu_cut {ds : List Dt} {lo hi : Option Int} (h : PuL ds) : PuL (cutD ds lo hi) := .of fun d m => h.mem d (List.mem_of_mem_drop (List.mem_of_mem_take m))
theorem pu_key (kv : List Key × Dt) : Pu (.tup (kv.1.map kD)) := .tup (PuL.map _ (fun k => by
  cases k with
  | inl i => exact .int _
  | inr i => exact .str _) _)
local macro_rules | `(tactic| walk_at "ix") => `(tactic| first
  | with_reducible exact at0 | with_reducible exact at1 | with_reducible exact at2 | with_reducible exact at3 | with_reducible exact at4 | with_reducible exact at_map (by assumption) | with_reducible exact at_nat (by assumption)
  | exact at0 | exact at1 | exact at2 | exact at3 | exact at4 | exact at_nat (by assumption) | exact at_map (by assumption) | rfl)
local macro_rules | `(tactic| walk_at "b") => `(tactic| first
  | refine ⟨true, rfl, fun _ => ?_, fun hx => tf hx⟩
  | refine ⟨false, rfl, fun hx => ft hx, fun _ => ?_⟩
  | refine ⟨true, rfl, fun hx => ft hx, fun _ => ?_⟩
  | refine ⟨false, rfl, fun _ => ?_, fun hx => tf hx⟩
  | refine ⟨_, rfl, ?_⟩)
local macro_rules | `(tactic| walk_at "t") => `(tactic| first
  | refine ⟨Nat.le_of_ble_eq_true rfl, ?_⟩
  | refine ⟨fun _ => ?_, fun hx => tf hx⟩
  | refine ⟨fun hx => ft hx, fun _ => ?_⟩)
local macro_rules | `(tactic| walk_at "isi") => `(tactic| first
  | refine wC_isi rfl k_ii ?_ | refine wC_isi rfl k_ib ?_ | refine wC_isi rfl k_tt ?_ | refine wC_isi rfl k_tl ?_ | refine wC_isi rfl k_ll ?_ | refine wC_isi rfl k_lt ?_ | refine wC_isi rfl k_sb ?_ | refine wC_isi rfl k_si ?_
  | refine wC_isi rfl k_bb ?_ | refine wC_isi rfl k_bi ?_ | refine wC_isi rfl k_st ?_ | refine wC_isi rfl k_sl ?_ | refine wC_isi rfl k_il ?_ | refine wC_isi rfl k_it ?_
  | refine wC_isi2 rfl k_tl k_tt ?_ | refine wC_isi2 rfl k_ll k_lt ?_ | refine wC_isi2 rfl k_il k_it ?_ | refine wC_isi2 rfl k_sl k_st ?_ | refine wC_isi2 rfl k_ib k_is ?_ | refine wC_isi2 rfl k_sb k_ss ?_)
local macro_rules | `(tactic| walk_at "dE") => `(tactic| first
  | with_reducible refine wE_var rfl ?_ | with_reducible refine wE_op ?_ | with_reducible refine wE_int ?_ | with_reducible refine wE_call ?_ | with_reducible refine wE_str ?_
  | with_reducible refine wE_lenSet ?_ | with_reducible refine wE_sortedSet ?_ | with_reducible refine wE_cb ?_ | with_reducible refine wE_and ?_ | with_reducible refine wE_or ?_ | with_reducible refine wE_not ?_ | with_reducible refine wE_if ?_
  | with_reducible refine wE_tup ?_ | with_reducible refine wE_ty ?_ | with_reducible refine wE_bl ?_ | with_reducible refine wE_non ?_ | with_reducible refine wE_chain ?_ | with_reducible refine wE_un ?_ | with_reducible refine wE_slice ?_)
local macro_rules | `(tactic| walk_at "dS") => `(tactic| first
  | with_reducible refine wS_seq ?_ | with_reducible refine wS_set ?_ | with_reducible refine wS_if ?_ | with_reducible refine wS_drop ?_ | with_reducible refine wS_next ?_ | with_reducible refine wS_ret ?_ | with_reducible refine wS_asg ?_
  | with_reducible refine wS_cont ?_ | with_reducible refine wS_par ?_ | with_reducible refine wS_for ?_)
local macro_rules | `(tactic| walk_at "dT") => `(tactic| first
  | with_reducible refine wT_test ?_ | with_reducible refine wT_B ?_ | with_reducible refine wT_and ?_ | with_reducible refine wT_or ?_ | with_reducible refine wT_not ?_)
local macro_rules | `(tactic| walk_at "dO") => `(tactic| first
  | with_reducible refine wO_int ?_ | with_reducible refine wO_intB ?_ | with_reducible refine wO_eqI ?_ | with_reducible refine wO_eqS ?_ | with_reducible refine wO_neI ?_ | with_reducible refine wO_eqB ?_ | with_reducible refine wO_neB ?_
  | with_reducible refine wO_isN ?_ | with_reducible refine wO_notN ?_ | (refine wO_ixT (by walk_at "ix") ?_))
local macro_rules | `(tactic| walk_at "dC") => `(tactic| first
  | walk_at "isi" | (refine wC_len (.inl rfl) ?_) | with_reducible refine wC_intI ?_ | with_reducible refine wC_intB ?_ | with_reducible refine wC_abs ?_ | with_reducible refine wC_min ?_)
local macro_rules | `(tactic| walk_at "d") => `(tactic| first
  | ((with_reducible refine isE ?_); walk_at "dE")
  | ((with_reducible refine isA ?_); first | with_reducible refine wA_cons ?_ | with_reducible refine wA_nil ?_)
  | ((with_reducible refine isO ?_); walk_at "dO")
  | ((with_reducible refine isS ?_); walk_at "dS")
  | ((with_reducible refine isT ?_); walk_at "dT")
  | ((with_reducible refine isC ?_); walk_at "dC")
  | with_reducible refine wG_name ?_ | ((with_reducible refine isG ?_); refine wG_tup rfl ?_) | with_reducible refine wGs_cons ?_ | with_reducible refine wGs_nil ?_
  | with_reducible refine forL_cons ?_ | with_reducible refine forL_nil ?_
  | with_reducible refine wP_none ?_ | with_reducible refine wP_some ?_)
local macro_rules | `(tactic| walk_at "D") => `(tactic| repeat (first | walk_at "d" | walk_at "t" | walk_at "b"))

section
variable {P : Program} {w : World} {K : PySem.W.Frag} {mg : Str → Option Value} {base : Heap} {cU : Addr}
def toI (p : Spot) : Int × Int := ((p.1 : Int), (p.2 : Int))
theorem perm_toI {qs : List (Int × Int)} {ps : List Spot} (h : qs.Perm (ps.map toI)) : ∃ qs' : List Spot, qs = qs'.map toI ∧ qs'.Perm ps := by
  have id1 : (fun z : Int × Int => (z.1.toNat, z.2.toNat)) ∘ toI = id := by funext p; simp [toI]
  refine ⟨qs.map fun z => (z.1.toNat, z.2.toNat), ?_, ?_⟩
  · rw [List.map_map]
    have : ∀ z ∈ qs, z = (toI ∘ fun z : Int × Int => (z.1.toNat, z.2.toNat)) z := fun z hz => by
      obtain ⟨p, hp, e⟩ := List.mem_map.mp (h.mem_iff.mp hz)
      subst e; simp [toI]
    conv => lhs; rw [← List.map_id qs]
    exact List.map_congr_left this
  · have := h.map fun z => (z.1.toNat, z.2.toNat)
    rwa [List.map_map, id1, List.map_id] at this
theorem map_toI (ps : List Spot) : (ps.map toI).map DL.pairD = ps.map spotD := by rw [List.map_map]; rfl
def CSet : Con := fun ds μ Φ _ => ∃ ps : List Spot, ds = [.lst (ps.map spotD)] ∧ ps.length < 64 ∧ ps.Nodup ∧ (∀ p ∈ ps, p.1 < 64 ∧ p.2 < 64) ∧ ∀ qs : List Spot, qs.Perm ps → Φ (.tup (qs.map spotD)) μ
theorem c_set_of (T_set_of : HasFn K mg "set_of" s_set_of ["row"]) (B : Bt mg) : Cal P w K mg base (0 + 1) "set_of" ["row"] (spD cU (CSet)) := by
  refine fnC (0) T_set_of sc_set_of (fun ds μ Φ Ψ h => ?_) (fun f cdv A outer s H E hr => ⟨_,
    (pss_one (ps_ret (pe_callTy (tupleK (K := K)) (by rfl) B.tuple_ (by decide +kernel) (pa_cons (pe_callB (sortSetK (K := K) (Pr := P) (w := w) rfl) (by rfl) B.sorted_ (by decide +kernel) (pa_cons (pe_callTy (setLK (K := K) (Pr := P) (w := w) rfl hr.units) (by rfl) B.set_ (by decide +kernel) (pa_cons (pv 0) pa_nil)) pa_nil)) pa_nil)))), fun ds μ Φ Ψ h => ?_⟩)
  · obtain ⟨ps, rfl, _⟩ := h; rfl
  · obtain ⟨ps, rfl, hl, hn, hb, k⟩ := h
    walk_at "D"
    refine ⟨ps.map toI, by rw [map_toI]; rfl, by rw [List.length_map]; exact hl, ?_, fun p hp => ?_, fun qs hq => ?_⟩
    · refine List.Pairwise.map _ (fun a b hab e => hab ?_) hn
      unfold toI at e
      simp only [Prod.mk.injEq] at e
      exact Prod.ext (by omega) (by omega)
    · obtain ⟨q, hq, rfl⟩ := List.mem_map.mp hp
      have := hb q hq
      unfold toI; dsimp only; omega
    · obtain ⟨qs', rfl, hp⟩ := perm_toI hq
      rw [map_toI]
      walk_at "D"
      exact wC_tuple rfl (.same (k qs' hp))
def CPlayed : Con := fun ds μ Φ _ => ∃ (c : Craft) (wb : Web), ds = [craftD c, webD wb] ∧ okCraft c ∧ okWeb c wb ∧
  ∀ (D : List Spot) (kvs : List (List Key × Dt)) (rows : List Dt), Played (news c wb) (looks c wb) D → Keys kvs D → PuL rows → Φ (.tup [.tup rows, .reg μ.length, .reg (μ.length + 2)]) (μ ++ [.dct kvs, .lst rows, .dct ((news c wb).map entD)])
theorem c_played (T_played : HasFn K mg "played" s_played ["craft", "web"]) (B : Bt mg) (c_held_by : Cal P w K mg base 2 "held_by" ["craft", "web"] (spD cU (PC RHeld))) (c_news_of : Cal P w K mg base 1 "news_of" ["craft", "web", "holds"] (spD cU CNews)) (c_do_wait : Cal P w K mg base 1 "do_wait" ["news", "done", "first", "way"] (spD cU CWait)) : Cal P w K mg base (11 + 1) "played" ["craft", "web"] (spD cU (CPlayed)) := by
  refine fnC (11) T_played sc_played (fun ds μ Φ Ψ h => ?_) (fun f cdv A outer s H E hr => ⟨_,
    (pss_cons (ps_par3 (i := 2) (j := 3) (l := 4) rfl sc_played.nd rfl rfl rfl (by decide) (by decide) (by decide) rfl rfl rfl (pa_cons (pe_cal c_held_by (hr.mono (by omega)) (by rfl) (pa_cons (pv 0) (pa_cons (pv 1) pa_nil))) (pa_cons pe_dnewT (pa_cons (pe_lst pa_nil) pa_nil))) (by rfl))
    (pss_cons (ps_set (i := 5) sc_played.nd rfl (by first | exact Or.inl rfl | exact Or.inr rfl) (pe_cal c_news_of (hr.mono (by omega)) (by rfl) (pa_cons (pv 0) (pa_cons (pv 1) (pa_cons (pv 2) pa_nil)))))
    (pss_cons (ps_for PassesOwn.never rfl (pi_enumTK (K := K) (by rfl) B.enumerate_ (pa_cons (pv 1) pa_nil)) (pg_tupK (K := K) (n := 2) rfl (pgs_cons (pg_name (i := 6) sc_played.nd rfl (by first | exact Or.inl rfl | exact Or.inr rfl)) (pgs_cons (pg_tupK (K := K) (n := 2) rfl (pgs_cons (pg_name (i := 7) sc_played.nd rfl (by first | exact Or.inl rfl | exact Or.inr rfl)) (pgs_cons (pg_name (i := 8) sc_played.nd rfl (by first | exact Or.inl rfl | exact Or.inr rfl)) pgs_nil))) pgs_nil))) (pss_cons (ps_set (i := 9) sc_played.nd rfl (by first | exact Or.inl rfl | exact Or.inr rfl) (pe_callB call_len_dT (by rfl) B.len_ (by decide +kernel) (pa_cons (pv 3) pa_nil)))
    (pss_cons (ps_for PassesOwn.never rfl (pi_tupK (K := K) (pe_ix (ix_tupK (K := K)) (pe_ix (ix_tupK (K := K)) (pe_ix (ix_tupK (K := K)) (pv 0) pe_int (fun _ _ => rfl)) (pv 7) (fun _ _ => rfl)) pe_int (fun _ _ => rfl))) (pg_tupK (K := K) (n := 2) rfl (pgs_cons (pg_name (i := 10) sc_played.nd rfl (by first | exact Or.inl rfl | exact Or.inr rfl)) (pgs_cons (pg_name (i := 11) sc_played.nd rfl (by first | exact Or.inl rfl | exact Or.inr rfl)) pgs_nil))) (pss_cons (ps_set (i := 12) sc_played.nd rfl (by first | exact Or.inl rfl | exact Or.inr rfl) (pe_ix (ix_tupK (K := K)) (pe_ix (ix_tupK (K := K)) (pv 2) (pe_ix (ix_tupK (K := K)) (pv 8) (pv 10) (fun _ _ => rfl)) (fun _ _ => rfl)) (pv 11) (fun _ _ => rfl)))
    (pss_one (ps_if (pt_cmpR op_notN (pv 12) pe_non (nomark _)) (pss_one (ps_expr (pe_cal c_do_wait (hr.mono (by omega)) (by rfl) (pa_cons (pv 5) (pa_cons (pv 3) (pa_cons (pv 12) (pa_cons (pe_tup (pa_cons (pv 6) (pa_cons pe_str (pa_cons (pv 10) (pa_cons (pv 11) pa_nil))))) pa_nil))))))) pss_nil))))
    (pss_one (ps_expr (pe_bmK (K := K) PySem.F.plainAttrs_list PySem.F.slot_list_append PySem.F.type_list_append mt_append (pv 4) (pa_cons (pe_callTy (tupleK (K := K)) (by rfl) B.tuple_ (by decide +kernel) (pa_cons (pe_slice (sl_listK (K := K)) (pe_callTy (call_list_dT rfl) (by rfl) B.list_ (by decide +kernel) (pa_cons (pv 3) pa_nil)) (po_some (pv 9)) po_none) pa_nil)) pa_nil)))))))
    (pss_one (ps_ret (pe_tup (pa_cons (pe_callTy (tupleK (K := K)) (by rfl) B.tuple_ (by decide +kernel) (pa_cons (pv 4) pa_nil)) (pa_cons (pv 3) (pa_cons (pv 5) pa_nil))))))))), fun ds μ Φ Ψ h => ?_⟩)
  · obtain ⟨c, wb, rfl, _⟩ := h; rfl
  · obtain ⟨c, wb, rfl, okc, okw, k⟩ := h
    have few := okw.1
    have okn := news_ok okc okw
    refine wS_seq (wS_par3 ?_)
    walk_at "D"
    refine ⟨_, ⟨c, wb, rfl, okc, okw, rfl⟩, ?_⟩
    walk_at "D"
    refine wE_dict ?_
    walk_at "D"
    refine wE_reg (wA_nil ⟨Nat.zero_le _, .nil, ?_⟩)
    walk_at "D"
    refine ⟨_, _, _, rfl, ?_⟩
    walk_at "D"
    refine ⟨c, wb, rfl, okc, okw, ?_⟩
    walk_at "D"
    refine wI_enumT ?_
    walk_at "D"
    have l3 : ∀ a b d : MO, (μ ++ [a] ++ [b] ++ [d]) = μ ++ [a, b, d] := fun a b d => by simp
    rw [l3]
    have g0 : ∀ a b d : MO, (μ ++ [a, b, d])[μ.length]? = some a := fun a b d => by rw [List.getElem?_append_right (Nat.le_refl _), Nat.sub_self]; rfl
    have g1 : ∀ a b d : MO, (μ ++ [a, b, d])[μ.length + 1]? = some b := fun a b d => by rw [List.getElem?_append_right (by omega), show μ.length + 1 - μ.length = 1 by omega]; rfl
    have g2 : ∀ a b d : MO, (μ ++ [a, b, d])[μ.length + 2]? = some d := fun a b d => by rw [List.getElem?_append_right (by omega), show μ.length + 2 - μ.length = 2 by omega]; rfl
    have s0 : ∀ a b d x : MO, (μ ++ [a, b, d]).set μ.length x = μ ++ [x, b, d] := fun a b d x => by rw [List.set_append_right _ _ (Nat.le_refl _), Nat.sub_self]; rfl
    have s1 : ∀ a b d x : MO, (μ ++ [a, b, d]).set (μ.length + 1) x = μ ++ [a, x, d] := fun a b d x => by rw [List.set_append_right _ _ (by omega), show μ.length + 1 - μ.length = 1 by omega]; rfl
    have l30 : ∀ a b d : MO, (μ ++ [a, b, d]).length = μ.length + 3 := fun a b d => by rw [List.length_append]; rfl
    have l2 : ∀ a : MO, (μ ++ [a]).length = μ.length + 1 := fun a => by rw [List.length_append]; rfl
    have l2' : ∀ a b : MO, (μ ++ [a] ++ [b]).length = μ.length + 2 := fun a b => by rw [List.length_append, List.length_append]; rfl
    simp only [l2, l2']
    refine forL_inv (fun i δ' μ' => ∃ a6 a7 a8 a9 a10 a11 a12 kvs D fs, δ' = [some (craftD c), some (webD wb), some (.tup ((holds c wb).map rowH)), some (.reg μ.length), some (.reg (μ.length + 1)), some (.reg (μ.length + 2)), a6, a7, a8, a9, a10, a11, a12] ∧
      μ' = μ ++ [.dct kvs, .lst fs, .dct ((news c wb).map entD)] ∧ Keys kvs D ∧ Played (news c wb) (looksN c wb (holds c wb) i) D ∧ PuL fs ∧ fs.length = i) 0 ⟨none, none, none, none, none, none, none, [], [], [], rfl, rfl, rfl, .nil _, .nil, rfl⟩ (fun i d δ' μ' hi hI => ?_) (fun δ' μ' hI => ?_)
    · obtain ⟨a6, a7, a8, a9, a10, a11, a12, kvs0, D0, fs, rfl, rfl, hk, hp, hf, fl⟩ := hI
      rw [Nat.zero_add] at hp
      rw [enumD_get] at hi
      cases hf2 : (wb.map verD)[i]? with
      | none => rw [hf2] at hi; cases hi
      | some d' =>
        rw [hf2] at hi
        cases hi
        obtain ⟨v, hv, rfl⟩ := map_get hf2
        obtain ⟨row, h1, h2, h3⟩ := okw.2 i v hv
        have okr := okc.each row (List.mem_of_getElem? h1)
        have hil : i < wb.length := (List.getElem?_eq_some_iff.mp hv).1
        simp only [Nat.zero_add]
        walk_at "D"
        refine wC_lenD (g0 _ _ _) ?_
        walk_at "D"
        refine wI_tup ?_
        walk_at "D"
        refine forL_inv (fun j δ' μ' => ∃ a10 a11 a12 kvs D, δ' = [some (craftD c), some (webD wb), some (.tup ((holds c wb).map rowH)), some (.reg μ.length), some (.reg (μ.length + 1)), some (.reg (μ.length + 2)), some (natD i), some (natD v.1), some (.tup (v.2.map natD)), some (natD kvs0.length), a10, a11, a12] ∧
          μ' = μ ++ [.dct kvs, .lst fs, .dct ((news c wb).map entD)] ∧ Keys kvs D ∧ Played (news c wb) (looksN c wb (holds c wb) i ++ wantsH (holds c wb) v.2 (row.looks.take j)) D) 0 ⟨_, _, _, kvs0, D0, rfl, rfl, hk, by rw [List.take_zero]; show Played _ (_ ++ []) _; rw [List.append_nil]; exact hp⟩ (fun j d δ' μ' hj hI => ?_) (fun δ' μ' hI => ?_)
        · obtain ⟨a10, a11, a12, kvs, D, rfl, rfl, hk, hp⟩ := hI
          rw [Nat.zero_add] at hp
          obtain ⟨p, hpj, rfl⟩ := map_get hj
          have okp := okr.looks.each p (List.mem_of_getElem? hpj)
          obtain ⟨e, h, z, q1, q2, q3, q4, q5⟩ := spot_holds okc okw hv h1 okp
          have tk : wantsH (holds c wb) v.2 (row.looks.take (j + 1)) = wantsH (holds c wb) v.2 (row.looks.take j) ++ z.toList := by
            unfold wantsH
            rw [take_snoc hpj, List.filterMap_append, List.filterMap_cons, q5]
            cases z <;> rfl
          simp only [Nat.zero_add]
          walk_at "D"
          cases z with
          | none =>
            walk_at "D"
            exact ⟨_, _, _, _, _, rfl, rfl, hk, by rw [tk]; show Played _ (_ ++ (_ ++ [])) _; rw [List.append_nil]; exact hp⟩
          | some q =>
            walk_at "D"
            refine ⟨news c wb, μ.length + 2, μ.length, q, i, p.1, p.2, kvs, D, rfl, by omega, g2 _ _ _, g0 _ _ _, okn, hk, hp.ok, look_there okc okw hv h1 okp q5, fun kvs' D' hk' ff => ?_⟩
            rw [s0]
            walk_at "D"
            exact ⟨_, _, _, _, _, rfl, rfl, hk', by rw [tk, ← List.append_assoc]; exact hp.step ff⟩
        · obtain ⟨a10, a11, a12, kvs2, D2, rfl, rfl, hk2, hp2⟩ := hI
          rw [Nat.zero_add, List.length_map, List.take_length] at hp2
          walk_at "D"
          refine wE_apR (g1 _ _ _) (by omega) ?_
          walk_at "D"
          refine ⟨rfl, rfl, ?_⟩
          walk_at "D"
          refine wC_listD (kvs := kvs2) (by simp only [dctOf, g0]) ?_
          walk_at "D"
          refine wSl_list rfl ?_
          walk_at "D"
          refine wC_tuple rfl ⟨rfl, ?_, ?_⟩
          · exact .tup (pu_cut (PuL.map _ pu_key _))
          · rw [s1]
            refine ⟨_, _, _, _, _, _, _, kvs2, D2, _, rfl, rfl, hk2, by rw [looksN, looksOf_eq hv h1]; exact hp2, ?_, by rw [List.length_append, fl, Nat.zero_add]; rfl⟩
            exact hf.append (.cons (.tup (pu_cut (PuL.map _ pu_key _))) .nil)
    · obtain ⟨a6, a7, a8, a9, a10, a11, a12, kvs, D, fs, rfl, rfl, hk, hp, hf, fl⟩ := hI
      rw [Nat.zero_add, enumD_len, List.length_map] at hp
      walk_at "D"
      refine wC_tuple (lstOf_reg (g1 _ _ _)) ?_
      walk_at "D"
      exact .same (k D kvs fs hp hk hf)
end
end PB
/-! P6: crafts and webs are made of tuples alone -/
namespace PB
open PySem PySem.Spec PyProof.Rows L2 DL
inductive TO : Nat → Dt → Prop
  | int {n : Nat} (i : Int) : TO n (.int i)
  | str {n : Nat} (x : Str) : TO n (.str x)
  | tup {n : Nat} {ds : List Dt} (h : ∀ d ∈ ds, TO n d) (l : ds.length ≤ 1000) : TO (n + 1) (.tup ds)
theorem TO.td : ∀ {n : Nat} {d : Dt}, TO n d → TD n d
  | _, _, .int i => .int i
  | _, _, .str i => .str i
  | _, _, .tup h l => .tup (fun d m => (h d m).td) l
theorem TO.same : ∀ {n : Nat} {d : Dt}, TO n d → tupd d = d
  | _, _, .int i => rfl
  | _, _, .str i => rfl
  | _, _, .tup (ds := ds) h l => by
    rw [tupd, tupdL_map]
    have : ds.map tupd = ds := by
      conv => rhs; rw [← List.map_id ds]
      exact List.map_congr_left fun d m => (h d m).same
    rw [this]
mutual
def lstd : Dt → Dt
  | .tup ds => .lst (lstdL ds)
  | .lst ds => .lst (lstdL ds)
  | .non => .non
  | .bl b => .bl b
  | .int i => .int i
  | .str s => .str s
  | .ty n => .ty n
  | .reg j => .reg j
def lstdL : List Dt → List Dt
  | [] => []
  | d :: ds => lstd d :: lstdL ds
end
theorem lstdL_map : ∀ ds : List Dt, lstdL ds = ds.map lstd
  | [] => rfl
  | d :: ds => by rw [lstdL, lstdL_map ds]; rfl
theorem TO.lstd : ∀ {n : Nat} {d : Dt}, TO n d → TD n (lstd d) ∧ tupd (PB.lstd d) = d
  | _, _, .int i => ⟨.int i, rfl⟩
  | _, _, .str i => ⟨.str i, rfl⟩
  | _, _, .tup (ds := ds) h l => by
    rw [PB.lstd, lstdL_map, tupd, tupdL_map, List.map_map]
    refine ⟨.lst (fun e m => ?_) (by rw [List.length_map]; exact l), ?_⟩
    · obtain ⟨d, hd, rfl⟩ := List.mem_map.mp m
      exact (h d hd).lstd.1
    · have : ds.map (tupd ∘ PB.lstd) = ds := by
        conv => rhs; rw [← List.map_id ds]
        exact List.map_congr_left fun d m => (h d m).lstd.2
      rw [this]
theorem TO.map {n : Nat} {α : Type} {f : α → Dt} {l : List α} (h : ∀ x ∈ l, TO n (f x)) : ∀ d ∈ l.map f, TO n d := fun d m => by
  obtain ⟨x, hx, rfl⟩ := List.mem_map.mp m
  exact h x hx
theorem TO.nil {n : Nat} : ∀ d ∈ ([] : List Dt), TO n d := fun _ m => nomatch m
theorem TO.cons {n : Nat} {d : Dt} {r : List Dt} (h : TO n d) (k : ∀ d ∈ r, TO n d) : ∀ e ∈ d :: r, TO n e := fun e m => by
  rcases List.mem_cons.mp m with e1 | m
  · rw [e1]; exact h
  · exact k e m
theorem to_spot {n : Nat} (p : Spot) : TO (n + 1) (spotD p) := .tup (.cons (.int _) (.cons (.int _) .nil)) (by simp)
theorem to_spots {n : Nat} {ps : List Spot} (h : ps.length ≤ 10) : TO (n + 2) (.tup (ps.map spotD)) := .tup (.map fun p _ => to_spot p) (by rw [List.length_map]; omega)
theorem to_nats {n : Nat} {ps : List Nat} (h : ps.length ≤ 10) : TO (n + 1) (.tup (ps.map natD)) := .tup (.map fun p _ => .int _) (by rw [List.length_map]; omega)
theorem to_fil {n : Nat} {sizes els : List Nat} {f : Fil} (h : okFil sizes els f) : TO (n + 3) (filD f) := by
  cases f with
  | none => exact .tup (.cons (.str _) .nil) (by simp)
  | kept p s => exact .tup (.cons (.str _) (.cons (.int _) (.cons (.int _) .nil))) (by simp)
  | new c ws => exact .tup (.cons (.str _) (.cons (.int _) (.cons (to_spots h.2.1.few) .nil))) (by simp)
theorem to_row {n : Nat} {sizes : List Nat} {r : Row} (h : okRow sizes r) (l : r.slots.length ≤ 10) : TO (n + 5) (rowD r) :=
  .tup (.cons (to_nats (n := n + 3) (by have := h.few; omega)) (.cons (to_spots (n := n + 2) h.looks.few) (.cons (.int _) (.cons (.int _) (.cons (.tup (.map fun f hf => to_fil (h.slots f hf)) (by rw [List.length_map]; omega)) .nil))))) (by simp)
theorem to_craft {c : Craft} (h : okCraft c) : TO 7 (craftD c) :=
  .tup (.cons (to_nats (n := 5) h.small.2.1) (.cons (.tup (.map fun r hr => to_row (h.each r hr) (h.small.2.2 r hr)) (by rw [List.length_map]; have := h.small.1; omega)) .nil)) (by simp)
theorem to_web {c : Craft} {wb : Web} (h : okCraft c) (k : okWeb c wb) : TO 7 (webD wb) := by
  refine .tup (.map fun v hv => ?_) (by rw [List.length_map]; have := k.1; omega)
  obtain ⟨i, hi⟩ := List.getElem?_of_mem hv
  obtain ⟨row, h1, h2, h3⟩ := k.2 i v hi
  have := (h.each row (List.mem_of_getElem? h1)).few
  exact .tup (.cons (.int _) (.cons (to_nats (n := 4) (by omega)) .nil)) (by simp)
end PB
namespace PB
open PySem PySem.Spec PyProof.Rows L2 DL
theorem mid_get {μ J : List MO} {x : MO} : (μ ++ [x] ++ J)[μ.length]? = some x := by
  rw [List.append_assoc, List.getElem?_append_right (Nat.le_refl _), Nat.sub_self]; rfl
theorem mid_set {μ J : List MO} {x y : MO} : (μ ++ [x] ++ J).set μ.length y = μ ++ [y] ++ J := by
  rw [List.append_assoc, List.set_append_right _ _ (Nat.le_refl _), Nat.sub_self, List.append_assoc]; rfl
theorem mid_cut {μ J : List MO} {x : MO} : (μ ++ [x] ++ J).take μ.length = μ := by rw [List.append_assoc, List.take_left]
local macro_rules | `(tactic| walk_at "ix") => `(tactic| first
  | with_reducible exact at0 | with_reducible exact at1 | with_reducible exact at2 | with_reducible exact at3 | with_reducible exact at4 | with_reducible exact at_map (by assumption) | with_reducible exact at_nat (by assumption)
  | exact at0 | exact at1 | exact at2 | exact at3 | exact at4 | exact at_nat (by assumption) | exact at_map (by assumption) | rfl)
local macro_rules | `(tactic| walk_at "b") => `(tactic| first
  | refine ⟨true, rfl, fun _ => ?_, fun hx => tf hx⟩
  | refine ⟨false, rfl, fun hx => ft hx, fun _ => ?_⟩
  | refine ⟨true, rfl, fun hx => ft hx, fun _ => ?_⟩
  | refine ⟨false, rfl, fun _ => ?_, fun hx => tf hx⟩
  | refine ⟨_, rfl, ?_⟩)
local macro_rules | `(tactic| walk_at "t") => `(tactic| first
  | refine ⟨Nat.le_of_ble_eq_true rfl, ?_⟩
  | refine ⟨fun _ => ?_, fun hx => tf hx⟩
  | refine ⟨fun hx => ft hx, fun _ => ?_⟩)
local macro_rules | `(tactic| walk_at "isi") => `(tactic| first
  | refine wC_isi rfl k_ii ?_ | refine wC_isi rfl k_ib ?_ | refine wC_isi rfl k_tt ?_ | refine wC_isi rfl k_tl ?_ | refine wC_isi rfl k_ll ?_ | refine wC_isi rfl k_lt ?_ | refine wC_isi rfl k_sb ?_ | refine wC_isi rfl k_si ?_
  | refine wC_isi rfl k_bb ?_ | refine wC_isi rfl k_bi ?_ | refine wC_isi rfl k_st ?_ | refine wC_isi rfl k_sl ?_ | refine wC_isi rfl k_il ?_ | refine wC_isi rfl k_it ?_
  | refine wC_isi2 rfl k_tl k_tt ?_ | refine wC_isi2 rfl k_ll k_lt ?_ | refine wC_isi2 rfl k_il k_it ?_ | refine wC_isi2 rfl k_sl k_st ?_ | refine wC_isi2 rfl k_ib k_is ?_ | refine wC_isi2 rfl k_sb k_ss ?_)
local macro_rules | `(tactic| walk_at "dE") => `(tactic| first
  | with_reducible refine wE_var rfl ?_ | with_reducible refine wE_op ?_ | with_reducible refine wE_int ?_ | with_reducible refine wE_call ?_ | with_reducible refine wE_str ?_
  | with_reducible refine wE_lenSet ?_ | with_reducible refine wE_sortedSet ?_ | with_reducible refine wE_cb ?_ | with_reducible refine wE_and ?_ | with_reducible refine wE_or ?_ | with_reducible refine wE_not ?_ | with_reducible refine wE_if ?_
  | with_reducible refine wE_tup ?_ | with_reducible refine wE_ty ?_ | with_reducible refine wE_bl ?_ | with_reducible refine wE_non ?_ | with_reducible refine wE_chain ?_ | with_reducible refine wE_un ?_ | with_reducible refine wE_slice ?_)
local macro_rules | `(tactic| walk_at "dS") => `(tactic| first
  | with_reducible refine wS_seq ?_ | with_reducible refine wS_set ?_ | with_reducible refine wS_if ?_ | with_reducible refine wS_drop ?_ | with_reducible refine wS_next ?_ | with_reducible refine wS_ret ?_ | with_reducible refine wS_asg ?_
  | with_reducible refine wS_cont ?_ | with_reducible refine wS_par ?_ | with_reducible refine wS_for ?_)
local macro_rules | `(tactic| walk_at "dT") => `(tactic| first
  | with_reducible refine wT_test ?_ | with_reducible refine wT_B ?_ | with_reducible refine wT_and ?_ | with_reducible refine wT_or ?_ | with_reducible refine wT_not ?_)
local macro_rules | `(tactic| walk_at "dO") => `(tactic| first
  | with_reducible refine wO_int ?_ | with_reducible refine wO_intB ?_ | with_reducible refine wO_eqI ?_ | with_reducible refine wO_eqS ?_ | with_reducible refine wO_neI ?_ | with_reducible refine wO_eqB ?_ | with_reducible refine wO_neB ?_
  | with_reducible refine wO_isN ?_ | with_reducible refine wO_notN ?_ | (refine wO_ixT (by walk_at "ix") ?_))
local macro_rules | `(tactic| walk_at "dC") => `(tactic| first
  | walk_at "isi" | (refine wC_len (.inl rfl) ?_) | with_reducible refine wC_intI ?_ | with_reducible refine wC_intB ?_ | with_reducible refine wC_abs ?_ | with_reducible refine wC_min ?_)
local macro_rules | `(tactic| walk_at "d") => `(tactic| first
  | ((with_reducible refine isE ?_); walk_at "dE")
  | ((with_reducible refine isA ?_); first | with_reducible refine wA_cons ?_ | with_reducible refine wA_nil ?_)
  | ((with_reducible refine isO ?_); walk_at "dO")
  | ((with_reducible refine isS ?_); walk_at "dS")
  | ((with_reducible refine isT ?_); walk_at "dT")
  | ((with_reducible refine isC ?_); walk_at "dC")
  | with_reducible refine wG_name ?_ | ((with_reducible refine isG ?_); refine wG_tup rfl ?_) | with_reducible refine wGs_cons ?_ | with_reducible refine wGs_nil ?_
  | with_reducible refine forL_cons ?_ | with_reducible refine forL_nil ?_
  | with_reducible refine wP_none ?_ | with_reducible refine wP_some ?_)
local macro_rules | `(tactic| walk_at "D") => `(tactic| repeat (first | walk_at "d" | walk_at "t" | walk_at "b"))

section
variable {P : Program} {w : World} {K : PySem.W.Frag} {mg : Str → Option Value} {base : Heap} {cU : Addr}
def CHeldL : Con := fun ds μ Φ _ => ∃ (c : Craft) (wb : Web), ds = [craftD c, webD wb] ∧ okCraft c ∧ okWeb c wb ∧ Φ (.lst ((holds c wb).map rowH)) μ
theorem c__law_held (T__law_held : HasFn K mg "_law_held" s__law_held ["_law_house_so", "_law_tale_so"]) (B : Bt mg) : Cal P w K mg base (0 + 1) "_law_held" ["_law_house_so", "_law_tale_so"] (spD cU (CHeldL)) := by
  refine fnC (0) T__law_held sc__law_held (fun ds μ Φ Ψ h => ?_) (fun f cdv A outer s H E hr => ⟨_,
    (pss_cons (ps_set (i := 2) sc__law_held.nd rfl (by first | exact Or.inl rfl | exact Or.inr rfl) (pe_lst pa_nil))
    (pss_cons (ps_for PassesOwn.never rfl (pi_enumTK (K := K) (by rfl) B.enumerate_ (pa_cons (pv 1) pa_nil)) (pg_tupK (K := K) (n := 2) rfl (pgs_cons (pg_name (i := 3) sc__law_held.nd rfl (by first | exact Or.inl rfl | exact Or.inr rfl)) (pgs_cons (pg_name (i := 4) sc__law_held.nd rfl (by first | exact Or.inl rfl | exact Or.inr rfl)) pgs_nil))) (pss_cons (ps_set (i := 5) sc__law_held.nd rfl (by first | exact Or.inl rfl | exact Or.inr rfl) (pe_lst pa_nil))
    (pss_cons (ps_for PassesOwn.never rfl (pi_enumTK (K := K) (by rfl) B.enumerate_ (pa_cons (pe_ix (ix_tupK (K := K)) (pe_ix (ix_tupK (K := K)) (pe_ix (ix_tupK (K := K)) (pv 0) pe_int (fun _ _ => rfl)) (pe_ix (ix_tupK (K := K)) (pv 4) pe_int (fun _ _ => rfl)) (fun _ _ => rfl)) pe_int (fun _ _ => rfl)) pa_nil)) (pg_tupK (K := K) (n := 2) rfl (pgs_cons (pg_name (i := 6) sc__law_held.nd rfl (by first | exact Or.inl rfl | exact Or.inr rfl)) (pgs_cons (pg_name (i := 7) sc__law_held.nd rfl (by first | exact Or.inl rfl | exact Or.inr rfl)) pgs_nil))) (pss_one (ps_if (pt_cmpR op_eq (pe_ix (ix_tupK (K := K)) (pv 7) pe_int (fun _ _ => rfl)) pe_str (nomark _)) (pss_one (ps_expr (pe_bmK (K := K) PySem.F.plainAttrs_list PySem.F.slot_list_append PySem.F.type_list_append mt_append (pv 5) (pa_cons (pe_ix (ix_tupK (K := K)) (pe_ix (ix_listK (K := K)) (pv 2) (pe_ix (ix_tupK (K := K)) (pe_ix (ix_tupK (K := K)) (pv 4) pe_int (fun _ _ => rfl)) (pe_ix (ix_tupK (K := K)) (pv 7) pe_int (fun _ _ => rfl)) (fun _ _ => rfl)) (fun _ _ => rfl)) (pe_ix (ix_tupK (K := K)) (pv 7) pe_int (fun _ _ => rfl)) (fun _ _ => rfl)) pa_nil)))) (pss_one (ps_expr (pe_bmK (K := K) PySem.F.plainAttrs_list PySem.F.slot_list_append PySem.F.type_list_append mt_append (pv 5) (pa_cons (pe_ifExp (pt_cmpR op_eq (pe_ix (ix_tupK (K := K)) (pv 7) pe_int (fun _ _ => rfl)) pe_str (nomark _)) (pe_tup (pa_cons (pv 3) (pa_cons (pv 6) pa_nil))) pe_non) pa_nil)))))))
    (pss_one (ps_expr (pe_bmK (K := K) PySem.F.plainAttrs_list PySem.F.slot_list_append PySem.F.type_list_append mt_append (pv 2) (pa_cons (pe_callTy (tupleK (K := K)) (by rfl) B.tuple_ (by decide +kernel) (pa_cons (pv 5) pa_nil)) pa_nil)))))))
    (pss_one (ps_ret (pv 2))))), fun ds μ Φ Ψ h => ?_⟩)
  · obtain ⟨c, wb, rfl, _⟩ := h; rfl
  · obtain ⟨c, wb, rfl, okc, okw, k⟩ := h
    have few := okw.1
    walk_at "D"
    refine wE_reg (wA_nil ⟨Nat.zero_le _, .nil, ?_⟩)
    walk_at "D"
    refine wI_enumT ?_
    walk_at "D"
    refine forL_inv (fun i δ' μ' => ∃ (a3 a4 a5 a6 a7 : Option Dt) (J : List MO), δ' = [some (craftD c), some (webD wb), some (.reg μ.length), a3, a4, a5, a6, a7] ∧ μ' = μ ++ [.lst ((heldN c wb i).map rowH)] ++ J) 0 ⟨none, none, none, none, none, [], rfl, by rw [List.append_nil]; rfl⟩ (fun i d δ' μ' hi hI => ?_) (fun δ' μ' hI => ?_)
    · obtain ⟨a3, a4, a5, a6, a7, J, rfl, rfl⟩ := hI
      rw [enumD_get] at hi
      cases hf2 : (wb.map verD)[i]? with
      | none => rw [hf2] at hi; cases hi
      | some d' =>
        rw [hf2] at hi
        cases hi
        obtain ⟨v, hv, rfl⟩ := map_get hf2
        obtain ⟨row, h1, h2, h3⟩ := okw.2 i v hv
        have okr := okc.each row (List.mem_of_getElem? h1)
        have rl := okc.small.2.2 row (List.mem_of_getElem? h1)
        have hil : i < wb.length := (List.getElem?_eq_some_iff.mp hv).1
        have fl : ((heldN c wb i).map rowH).length = i := by rw [List.length_map, heldN_len]
        simp only [Nat.zero_add]
        walk_at "D"
        refine wE_reg (wA_nil ⟨Nat.zero_le _, .nil, ?_⟩)
        walk_at "D"
        refine wI_enumT ?_
        walk_at "D"
        generalize hM : μ ++ [MO.lst ((heldN c wb i).map rowH)] ++ J = M
        have hg : lstOf M (.reg μ.length) = some ((heldN c wb i).map rowH) := by rw [← hM]; exact lstOf_reg mid_get
        refine forL_inv (fun j δ' μ' => ∃ (a6 a7 : Option Dt), δ' = [some (craftD c), some (webD wb), some (.reg μ.length), some (natD i), some (verD v), some (.reg M.length), a6, a7] ∧ μ' = M ++ [.lst (((heldGo (heldN c wb i) i v.2 0 row.slots).take j).map holdD)]) 0 ⟨_, _, rfl, rfl⟩ (fun j d δ' μ' hj hI => ?_) (fun δ' μ' hI => ?_)
        · obtain ⟨b6, b7, rfl, rfl⟩ := hI
          rw [enumD_get] at hj
          cases hf : (row.slots.map filD)[j]? with
          | none => rw [hf] at hj; cases hj
          | some d' =>
            rw [hf] at hj
            cases hj
            obtain ⟨fl, hfl, rfl⟩ := map_get hf
            have hgo : (heldGo (heldN c wb i) i v.2 0 row.slots)[j]? = some (heldAt (heldN c wb i) i v.2 j fl) := by rw [heldGo_get, hfl, Nat.zero_add]; rfl
            have hj10 : (((heldGo (heldN c wb i) i v.2 0 row.slots).take j).map holdD).length ≤ 100000 := by rw [List.length_map, List.length_take, heldGo_len]; omega
            have nxt : M ++ [MO.lst (((heldGo (heldN c wb i) i v.2 0 row.slots).take j).map holdD ++ [holdD (heldAt (heldN c wb i) i v.2 j fl)])] = M ++ [MO.lst (((heldGo (heldN c wb i) i v.2 0 row.slots).take (j + 1)).map holdD)] := by
              rw [take_snoc hgo, List.map_append]; rfl
            simp only [Nat.zero_add]
            cases fl with
            | none =>
              walk_at "D"
              refine wE_appL hj10 ?_
              walk_at "D"
              refine ⟨rfl, rfl, ?_⟩
              walk_at "D"
              exact ⟨rfl, .non, _, _, rfl, nxt⟩
            | new cc ws =>
              walk_at "D"
              refine wE_appL hj10 ?_
              walk_at "D"
              refine ⟨rfl, rfl, ?_⟩
              walk_at "D"
              exact ⟨rfl, pu_spot (i, j), _, _, rfl, nxt⟩
            | kept p q =>
              obtain ⟨e, h, z, q1, q2, q3, q4⟩ := spot_there okc okw hv h1 (okr.slots _ (List.mem_of_getElem? hfl))
              rw [heldAt_kept q1 q3 q4] at nxt
              walk_at "D"
              refine wE_appL hj10 ?_
              walk_at "D"
              refine ⟨rfl, rfl, ?_⟩
              walk_at "D"
              refine wO_ixL (lstOf_app hg) (at_map q3) ?_
              walk_at "D"
              exact ⟨rfl, pu_hold z, _, _, rfl, nxt⟩
        · obtain ⟨b6, b7, rfl, rfl⟩ := hI
          rw [Nat.zero_add, enumD_len, List.length_map, List.take_of_length_le (by rw [heldGo_len]; exact Nat.le_refl _)]
          subst hM
          walk_at "D"
          have hM2 : (μ ++ [MO.lst ((heldN c wb i).map rowH)] ++ J ++ [.lst ((heldGo (heldN c wb i) i v.2 0 row.slots).map holdD)])[μ.length]? = some (.lst ((heldN c wb i).map rowH)) := by
            rw [List.append_assoc _ J]; exact mid_get
          refine wE_apR hM2 (by omega) ?_
          walk_at "D"
          refine ⟨rfl, rfl, ?_⟩
          walk_at "D"
          refine wC_tuple (lstOf_reg last_of) ⟨rfl, pu_rowH _, ?_⟩
          refine ⟨_, _, _, _, _, J ++ [.lst ((heldGo (heldN c wb i) i v.2 0 row.slots).map holdD)], rfl, ?_⟩
          rw [List.append_assoc _ J, mid_set, heldN, List.map_append, heldOf_eq hv h1]; rfl
    · obtain ⟨a3, a4, a5, a6, a7, J, rfl, rfl⟩ := hI
      rw [Nat.zero_add, enumD_len, List.length_map]
      walk_at "D"
      refine .frz (Nat.le_refl _) mid_get ?_
      rw [mid_cut]; exact k
end
end PB
namespace PB
open PySem PySem.Spec PyProof.Rows L2 DL
theorem wS_retN {X : Hp → Prop} {δ : Sl} {μ : List MO} {P : DE} (k : P.rt .non μ) : wS X tRetN δ μ P := fun σ H α D R f => f.rt _ H α _ μ .refl R.rm .non k
local macro_rules | `(tactic| walk_at "ix") => `(tactic| first
  | with_reducible exact at0 | with_reducible exact at1 | with_reducible exact at2 | with_reducible exact at3 | with_reducible exact at4 | with_reducible exact at_map (by assumption) | with_reducible exact at_nat (by assumption)
  | exact at0 | exact at1 | exact at2 | exact at3 | exact at4 | exact at_nat (by assumption) | exact at_map (by assumption) | rfl)
local macro_rules | `(tactic| walk_at "b") => `(tactic| first
  | refine ⟨true, rfl, fun _ => ?_, fun hx => tf hx⟩
  | refine ⟨false, rfl, fun hx => ft hx, fun _ => ?_⟩
  | refine ⟨true, rfl, fun hx => ft hx, fun _ => ?_⟩
  | refine ⟨false, rfl, fun _ => ?_, fun hx => tf hx⟩
  | refine ⟨_, rfl, ?_⟩)
local macro_rules | `(tactic| walk_at "t") => `(tactic| first
  | refine ⟨Nat.le_of_ble_eq_true rfl, ?_⟩
  | refine ⟨fun _ => ?_, fun hx => tf hx⟩
  | refine ⟨fun hx => ft hx, fun _ => ?_⟩)
local macro_rules | `(tactic| walk_at "isi") => `(tactic| first
  | refine wC_isi rfl k_ii ?_ | refine wC_isi rfl k_ib ?_ | refine wC_isi rfl k_tt ?_ | refine wC_isi rfl k_tl ?_ | refine wC_isi rfl k_ll ?_ | refine wC_isi rfl k_lt ?_ | refine wC_isi rfl k_sb ?_ | refine wC_isi rfl k_si ?_
  | refine wC_isi rfl k_bb ?_ | refine wC_isi rfl k_bi ?_ | refine wC_isi rfl k_st ?_ | refine wC_isi rfl k_sl ?_ | refine wC_isi rfl k_il ?_ | refine wC_isi rfl k_it ?_
  | refine wC_isi2 rfl k_tl k_tt ?_ | refine wC_isi2 rfl k_ll k_lt ?_ | refine wC_isi2 rfl k_il k_it ?_ | refine wC_isi2 rfl k_sl k_st ?_ | refine wC_isi2 rfl k_ib k_is ?_ | refine wC_isi2 rfl k_sb k_ss ?_)
local macro_rules | `(tactic| walk_at "dE") => `(tactic| first
  | with_reducible refine wE_var rfl ?_ | with_reducible refine wE_op ?_ | with_reducible refine wE_int ?_ | with_reducible refine wE_call ?_ | with_reducible refine wE_str ?_
  | with_reducible refine wE_lenSet ?_ | with_reducible refine wE_sortedSet ?_ | with_reducible refine wE_cb ?_ | with_reducible refine wE_and ?_ | with_reducible refine wE_or ?_ | with_reducible refine wE_not ?_ | with_reducible refine wE_if ?_
  | with_reducible refine wE_tup ?_ | with_reducible refine wE_ty ?_ | with_reducible refine wE_bl ?_ | with_reducible refine wE_non ?_ | with_reducible refine wE_chain ?_ | with_reducible refine wE_un ?_ | with_reducible refine wE_slice ?_)
local macro_rules | `(tactic| walk_at "dS") => `(tactic| first
  | with_reducible refine wS_seq ?_ | with_reducible refine wS_set ?_ | with_reducible refine wS_if ?_ | with_reducible refine wS_drop ?_ | with_reducible refine wS_next ?_ | with_reducible refine wS_ret ?_ | with_reducible refine wS_asg ?_
  | with_reducible refine wS_cont ?_ | with_reducible refine wS_par ?_ | with_reducible refine wS_for ?_)
local macro_rules | `(tactic| walk_at "dT") => `(tactic| first
  | with_reducible refine wT_test ?_ | with_reducible refine wT_B ?_ | with_reducible refine wT_and ?_ | with_reducible refine wT_or ?_ | with_reducible refine wT_not ?_)
local macro_rules | `(tactic| walk_at "dO") => `(tactic| first
  | with_reducible refine wO_int ?_ | with_reducible refine wO_intB ?_ | with_reducible refine wO_eqI ?_ | with_reducible refine wO_eqS ?_ | with_reducible refine wO_neI ?_ | with_reducible refine wO_eqB ?_ | with_reducible refine wO_neB ?_
  | with_reducible refine wO_isN ?_ | with_reducible refine wO_notN ?_ | (refine wO_ixT (by walk_at "ix") ?_))
local macro_rules | `(tactic| walk_at "dC") => `(tactic| first
  | walk_at "isi" | (refine wC_len (.inl rfl) ?_) | with_reducible refine wC_intI ?_ | with_reducible refine wC_intB ?_ | with_reducible refine wC_abs ?_ | with_reducible refine wC_min ?_)
local macro_rules | `(tactic| walk_at "d") => `(tactic| first
  | ((with_reducible refine isE ?_); walk_at "dE")
  | ((with_reducible refine isA ?_); first | with_reducible refine wA_cons ?_ | with_reducible refine wA_nil ?_)
  | ((with_reducible refine isO ?_); walk_at "dO")
  | ((with_reducible refine isS ?_); walk_at "dS")
  | ((with_reducible refine isT ?_); walk_at "dT")
  | ((with_reducible refine isC ?_); walk_at "dC")
  | with_reducible refine wG_name ?_ | ((with_reducible refine isG ?_); refine wG_tup rfl ?_) | with_reducible refine wGs_cons ?_ | with_reducible refine wGs_nil ?_
  | with_reducible refine forL_cons ?_ | with_reducible refine forL_nil ?_
  | with_reducible refine wP_none ?_ | with_reducible refine wP_some ?_)
local macro_rules | `(tactic| walk_at "D") => `(tactic| repeat (first | walk_at "d" | walk_at "t" | walk_at "b"))

section
variable {P : Program} {w : World} {K : PySem.W.Frag} {mg : Str → Option Value} {base : Heap} {cU : Addr}
def CForce : Nat → Con
  | 0 => fun _ _ _ _ => False
  | n + 1 => fun ds μ Φ _ => ∃ (c : Craft) (wb : Web) (q : Hold) (h : How) (jd jr : Nat) (kvs : List (List Key × Dt)) (D rs : List Spot), ds = [craftD c, webD wb, .lst ((holds c wb).map rowH), holdD q, howD h, .tup [], .reg jd, .reg jr] ∧ okCraft c ∧ okWeb c wb ∧ jd ≠ jr ∧
    μ[jd]? = some (.dct kvs) ∧ μ[jr]? = some (.lst (rs.map spotD)) ∧ Keys kvs D ∧ okDone (news c wb) D ∧ rs.length ≤ D.length ∧ (∀ p, q = some p → p.1 + 2 ≤ n + 1 ∧ ∃ x ∈ news c wb, x.1 = p) ∧
    ∀ (kvs' : List (List Key × Dt)) (X : List Spot), Keys kvs' (D ++ X) → okDone (news c wb) (D ++ X) → (q = none → X = []) → (∀ p, q = some p → Forced (news c wb) D p (D ++ X)) → Φ .non ((μ.set jd (.dct kvs')).set jr (.lst ((rs ++ X).map spotD)))
theorem set_self {μ : List MO} {j : Nat} {m : MO} (h : μ[j]? = some m) : μ.set j m = μ := by
  refine List.ext_getElem? fun i => ?_
  by_cases hi : j = i
  · subst hi; rw [List.getElem?_set_self (List.getElem?_eq_some_iff.mp h).1, h]
  · rw [List.getElem?_set_ne hi]
theorem newsRow_at {H : List HRow} {v : Nat} {els : List Nat} : ∀ {s : Nat} {fs : List Fil} {x : Wait}, x ∈ newsRow H v els s fs → ∃ i c ws, fs[i]? = some (.new c ws) ∧ x = ((v, s + i), c, wantsH H els ws)
  | _, [], _, h => by simp [newsRow] at h
  | s, .new c ws :: r, x, h => by
    rw [newsRow] at h
    rcases List.mem_cons.mp h with e | h
    · exact ⟨0, c, ws, rfl, e⟩
    · obtain ⟨i, c', ws', a, b⟩ := newsRow_at h
      exact ⟨i + 1, c', ws', by rw [List.getElem?_cons_succ]; exact a, by rw [b, show s + 1 + i = s + (i + 1) by omega]⟩
  | s, .none :: r, x, h => by
    rw [newsRow] at h
    obtain ⟨i, c', ws', a, b⟩ := newsRow_at h
    exact ⟨i + 1, c', ws', by rw [List.getElem?_cons_succ]; exact a, by rw [b, show s + 1 + i = s + (i + 1) by omega]⟩
  | s, .kept _ _ :: r, x, h => by
    rw [newsRow] at h
    obtain ⟨i, c', ws', a, b⟩ := newsRow_at h
    exact ⟨i + 1, c', ws', by rw [List.getElem?_cons_succ]; exact a, by rw [b, show s + 1 + i = s + (i + 1) by omega]⟩
theorem set2 {μ : List MO} {i j : Nat} {a a' b b' : MO} (h : i ≠ j) : (((μ.set i a).set j b).set i a').set j b' = (μ.set i a').set j b' := by
  rw [List.set_comm b a' (Ne.symm h), List.set_set, List.set_set]
theorem c__law_force (T__law_force : HasFn K mg "_law_force" s__law_force ["_law_house_so", "_law_tale_so", "_law_holds_so", "_law_wait_so", "_law_why_so", "_law_anew_so", "_law_done_so", "_law_row_so"]) (B : Bt mg) {n : Nat} (c__law_force : Cal P w K mg base n "_law_force" ["_law_house_so", "_law_tale_so", "_law_holds_so", "_law_wait_so", "_law_why_so", "_law_anew_so", "_law_done_so", "_law_row_so"] (spD cU (CForce n))) : Cal P w K mg base (n + 1) "_law_force" ["_law_house_so", "_law_tale_so", "_law_holds_so", "_law_wait_so", "_law_why_so", "_law_anew_so", "_law_done_so", "_law_row_so"] (spD cU (CForce (n + 1))) := by
  refine fnC (n) T__law_force sc__law_force (fun ds μ Φ Ψ h => ?_) (fun f cdv A outer s H E hr => ⟨_,
    (pss_cons (ps_if (PW.pt (pw_or (pt_cmpR op_isN (pv 3) pe_non (nomark _)) (pw_or1 (pt_cmp (pc_din (hu_of hr) (pv 3) (pv 6)))))) (pss_one ps_retN) pss_nil)
    (pss_cons (ps_set (i := 8) sc__law_force.nd rfl (by first | exact Or.inl rfl | exact Or.inr rfl) (pe_ix (ix_tupK (K := K)) (pv 1) (pe_ix (ix_tupK (K := K)) (pv 3) pe_int (fun _ _ => rfl)) (fun _ _ => rfl)))
    (pss_cons (ps_for PassesOwn.never rfl (pi_tupK (K := K) (pe_ix (ix_tupK (K := K)) (pe_ix (ix_tupK (K := K)) (pe_ix (ix_tupK (K := K)) (pe_ix (ix_tupK (K := K)) (pe_ix (ix_tupK (K := K)) (pv 0) pe_int (fun _ _ => rfl)) (pe_ix (ix_tupK (K := K)) (pv 8) pe_int (fun _ _ => rfl)) (fun _ _ => rfl)) pe_int (fun _ _ => rfl)) (pe_ix (ix_tupK (K := K)) (pv 3) pe_int (fun _ _ => rfl)) (fun _ _ => rfl)) pe_int (fun _ _ => rfl))) (pg_tupK (K := K) (n := 2) rfl (pgs_cons (pg_name (i := 9) sc__law_force.nd rfl (by first | exact Or.inl rfl | exact Or.inr rfl)) (pgs_cons (pg_name (i := 10) sc__law_force.nd rfl (by first | exact Or.inl rfl | exact Or.inr rfl)) pgs_nil))) (pss_cons (ps_set (i := 11) sc__law_force.nd rfl (by first | exact Or.inl rfl | exact Or.inr rfl) (pe_ix (ix_tupK (K := K)) (pe_ix (ix_listK (K := K)) (pv 2) (pe_ix (ix_tupK (K := K)) (pe_ix (ix_tupK (K := K)) (pv 8) pe_int (fun _ _ => rfl)) (pv 9) (fun _ _ => rfl)) (fun _ _ => rfl)) (pv 10) (fun _ _ => rfl)))
    (pss_one (ps_expr (pe_cal c__law_force (hr.mono (by omega)) (by rfl) (pa_cons (pv 0) (pa_cons (pv 1) (pa_cons (pv 2) (pa_cons (pv 11) (pa_cons (pe_tup (pa_cons (pe_ix (ix_tupK (K := K)) (pv 4) pe_int (fun _ _ => rfl)) (pa_cons pe_str (pa_cons (pv 3) pa_nil)))) (pa_cons (pv 5) (pa_cons (pv 6) (pa_cons (pv 7) pa_nil)))))))))))))
    (pss_cons (ps_if (pt_cmpR op_ninE (pe_tup (pa_cons (pe_ix (ix_tupK (K := K)) (pv 8) pe_int (fun _ _ => rfl)) (pa_cons (pe_ix (ix_tupK (K := K)) (pv 3) pe_int (fun _ _ => rfl)) pa_nil))) (pv 5) (by rfl)) (pss_one (ps_dput (hu_of hr) (pv 6) (pv 3) (pv 4) rfl)) pss_nil)
    (pss_one (ps_expr (pe_bmK (K := K) PySem.F.plainAttrs_list PySem.F.slot_list_append PySem.F.type_list_append mt_append (pv 7) (pa_cons (pv 3) pa_nil)))))))), fun ds μ Φ Ψ h => ?_⟩)
  · obtain ⟨c, wb, q, h, jd, jr, kvs, D, rs, rfl, _⟩ := h; rfl
  · obtain ⟨c, wb, q, how, jd, jr, kvs, D, rs, rfl, okc, okw, hne, hd, hrr, hk, okd, hl, hq, k⟩ := h
    have okn := news_ok okc okw
    cases q with
    | none =>
      walk_at "D"
      refine wS_retN (.same ?_)
      have := k kvs [] (by rw [List.append_nil]; exact hk) (by rw [List.append_nil]; exact okd) (fun _ => rfl) (fun p e => by cases e)
      rw [List.append_nil, set_self hd, set_self hrr] at this
      exact this
    | some p =>
      obtain ⟨hpn, ⟨⟨p', cc, ws⟩, hx, ep⟩⟩ := hq p rfl
      have ep' : p' = p := ep
      subst ep'
      walk_at "D"
      refine wE_din ?_
      walk_at "D"
      refine ⟨kvs, keyK p', by simp only [dctOf, hd], rfl, ⟨_, rfl, ?_⟩⟩
      rw [hk.some p']
      by_cases hpD : p' ∈ D
      · refine pt (dt hpD) ?_
        walk_at "D"
        refine wS_retN (.same ?_)
        have := k kvs [] (by rw [List.append_nil]; exact hk) (by rw [List.append_nil]; exact okd) (fun _ => rfl) (fun p e => by
          cases e
          rw [List.append_nil]
          exact ⟨okd, hpD, fun _ h => h, fun C _ h1 _ => h1⟩)
        rw [List.append_nil, set_self hd, set_self hrr] at this
        exact this
      · refine pf (df hpD) ?_
        have hx1 := newsN_of hx
        have hx2 : p'.1 < wb.length := newsN_key hx
        have hw : wb[p'.1]? = some wb[p'.1] := List.getElem?_eq_getElem hx2
        obtain ⟨row, r1, r2, r3⟩ := okw.2 _ _ hw
        rw [newsOf_eq hw r1] at hx1
        obtain ⟨i, cc', ws0, s1, s2⟩ := newsRow_at hx1
        rw [Nat.zero_add] at s2
        have okf := (okc.each row (List.mem_of_getElem? r1)).slots _ (List.mem_of_getElem? s1)
        obtain ⟨o1, o2, o3⟩ := okf
        have few := o2.few
        obtain ⟨pv, pi⟩ := p'
        have e1 : pi = i := congrArg (fun z : Wait => z.1.2) s2
        have e2 : ws = wantsH (holds c wb) wb[pv].2 ws0 := congrArg (fun z : Wait => z.2.2) s2
        subst e1
        obtain ⟨m, rfl⟩ : ∃ m, n = m + 1 := ⟨n - 1, by have : pv + 2 ≤ n + 1 := hpn; omega⟩
        have jdl : jd < μ.length := (List.getElem?_eq_some_iff.mp hd).1
        have jrl : jr < μ.length := (List.getElem?_eq_some_iff.mp hrr).1
        have gd : ∀ (a b : MO), ((μ.set jd a).set jr b)[jd]? = some a := fun a b => by rw [List.getElem?_set_ne (Ne.symm hne), List.getElem?_set_self jdl]
        have gr : ∀ (a b : MO), ((μ.set jd a).set jr b)[jr]? = some b := fun a b => List.getElem?_set_self (by rw [List.length_set]; exact jrl)
        generalize hv : wb[(pv, pi).fst] = v at hw r1 r2 r3 e2
        have whyD : ∃ hn : Nat, atI [natD hn] 0 = some (natD hn) ∧ ∃ r, howD how = .tup (natD hn :: r) := by
          cases how with
          | look a b d => exact ⟨a, rfl, _, rfl⟩
          | want a x => exact ⟨a, rfl, _, rfl⟩
        obtain ⟨hn, _, hrest, hhow⟩ := whyD
        walk_at "D"
        refine wI_tup ?_
        walk_at "D"
        refine forL_inv (fun x δ' μ' => ∃ (a9 a10 a11 : Option Dt) (kvs' : List (List Key × Dt)) (X : List Spot), δ' = [some (craftD c), some (webD wb), some (.lst ((holds c wb).map rowH)), some (spotD (pv, pi)), some (howD how), some (.tup []), some (.reg jd), some (.reg jr), some (verD v), a9, a10, a11] ∧ μ' = (μ.set jd (.dct kvs')).set jr (.lst ((rs ++ X).map spotD)) ∧
          Keys kvs' (D ++ X) ∧ okDone (news c wb) (D ++ X) ∧ (∀ p ∈ ws0.take x, ∀ z, holdOf (holds c wb) v.2 p = some z → z ∈ D ++ X) ∧ ∀ C : Spot → Prop, Closed (news c wb) C → (∀ z ∈ D, C z) → (∀ z ∈ ws, C z) → ∀ z ∈ D ++ X, C z) 0
          ⟨none, none, none, kvs, [], rfl, by rw [List.append_nil, set_self hd, set_self hrr], by rw [List.append_nil]; exact hk, by rw [List.append_nil]; exact okd, fun p hp => (by rw [List.take_zero] at hp; exact (nomatch hp)), fun C _ h1 _ => by rw [List.append_nil]; exact h1⟩ (fun x d δ' μ' hi hI => ?_) (fun δ' μ' hI => ?_)
        · obtain ⟨a9, a10, a11, kvs1, X, rfl, rfl, hk1, okd1, had, least⟩ := hI
          rw [Nat.zero_add] at had
          obtain ⟨p, hpx, rfl⟩ := map_get hi
          obtain ⟨e, hh, z, q1, q2, q3, q4, q5⟩ := spot_holds okc okw hw r1 (o2.each p (List.mem_of_getElem? hpx))
          simp only [Nat.zero_add]
          walk_at "D"
          refine wO_ixL rfl (at_map q3) ?_
          walk_at "D"
          have hix : ∀ (μ : List MO) (Φ : DK), Φ (natD hn) μ → wO (rIxT K) (howD how) (.int 0) μ Φ := fun μ Φ kk => by
            rw [hhow]; exact wO_ixT at0 kk
          refine hix _ _ ?_
          walk_at "D"
          refine ⟨c, wb, z, .want hn (pv, pi), jd, jr, kvs1, D ++ X, rs ++ X, rfl, okc, okw, hne, gd _ _, gr _ _, hk1, okd1, by rw [List.length_append, List.length_append]; omega, fun q hqz => ?_, fun kvs2 Y hk2 okd2 hnone hsome => ?_⟩
          · subst hqz
            obtain ⟨t1, t2⟩ := hold_news okc okw hw r1 (o2.each p (List.mem_of_getElem? hpx)) q5
            refine ⟨?_, look_there okc okw hw r1 (o2.each p (List.mem_of_getElem? hpx)) q5⟩
            have : pv + 2 ≤ m + 1 + 1 := hpn
            have : q.1 < pv := t1
            omega
          · rw [set2 hne]
            refine ⟨_, _, _, kvs2, X ++ Y, rfl, by rw [← List.append_assoc], by rw [← List.append_assoc]; exact hk2, by rw [← List.append_assoc]; exact okd2, fun p' hp' z' hz' => ?_, fun C hC h1 h2 z' hz' => ?_⟩
            · rw [take_snoc hpx] at hp'
              rw [← List.append_assoc]
              rcases List.mem_append.mp hp' with hp' | hp'
              · exact List.mem_append_left _ (had p' hp' z' hz')
              · rw [List.mem_singleton.mp hp', q5] at hz'
                exact (hsome z' hz').has
            · rw [← List.append_assoc] at hz'
              have hDX := least C hC h1 h2
              cases z with
              | none =>
                rw [hnone rfl, List.append_nil] at hz'
                exact hDX z' hz'
              | some q =>
                refine (hsome q rfl).least C hC hDX (h2 q ?_) z' hz'
                rw [e2]
                exact List.mem_filterMap.mpr ⟨p, List.mem_of_getElem? hpx, q5⟩
        · obtain ⟨a9, a10, a11, kvs1, X, rfl, rfl, hk1, okd1, had, least⟩ := hI
          rw [Nat.zero_add, List.length_map, List.take_length] at had
          have all : ∀ z ∈ ws, z ∈ D ++ X := fun z hz => by
            rw [e2] at hz
            obtain ⟨p, hp, g⟩ := List.mem_filterMap.mp hz
            exact had p hp z g
          have hnot : (pv, pi) ∉ D ++ X := fun hin => by
            have := least (fun z => z ∈ D ∨ z.1 < pv) (fun y hy hc q hqy => ?_) (fun z hz => .inl hz) (fun z hz => .inr (okn.old _ hx z hz)) (pv, pi) hin
            · rcases this with h | h
              · exact hpD h
              · exact Nat.lt_irrefl _ h
            · rcases hc with hc | hc
              · exact .inl (okd.cl y hy hc q hqy)
              · have := okn.old y hy q hqy
                exact .inr (Nat.lt_trans this hc)
          have hk2 := hk1.put hnot (howD how)
          have kl := hk1.len
          have dl := okd1.len
          have nf := okn.few
          have rl : (rs ++ X).length ≤ 100000 := by
            have h1 : (rs ++ X).length = rs.length + X.length := List.length_append
            have h2 : (D ++ X).length = D.length + X.length := List.length_append
            omega
          walk_at "D"
          refine wO_ninE ?_
          refine ⟨_, rfl, fun _ => ?_, fun hz => tf hz⟩
          refine wS_dput ?_
          walk_at "D"
          refine ⟨jd, kvs1, keyK (pv, pi), rfl, gd _ _, rfl, by omega, pu_how how, ?_⟩
          rw [hk2.1, List.set_comm _ _ (Ne.symm hne), List.set_set]
          walk_at "D"
          refine wE_apR (gr _ _) (by rw [List.length_map]; exact rl) ?_
          walk_at "D"
          refine ⟨rfl, rfl, ?_⟩
          walk_at "D"
          refine ⟨rfl, pu_spot _, ?_⟩
          rw [List.set_set]
          have okd2 : okDone (news c wb) (D ++ X ++ [(pv, pi)]) := by
            refine ⟨List.nodup_append.mpr ⟨okd1.nd, by simp, fun a ha b hb e => hnot (by rw [List.mem_singleton.mp hb] at e; rw [← e]; exact ha)⟩, fun z hz => ?_, fun x hx' hc' z hz => ?_⟩
            · rcases List.mem_append.mp hz with hz | hz
              · exact okd1.sub z hz
              · rw [List.mem_singleton.mp hz]; exact ⟨_, hx, rfl⟩
            · rcases List.mem_append.mp hc' with hc' | hc'
              · exact List.mem_append_left _ (okd1.cl x hx' hc' z hz)
              · have := wait_eq okn hx' hx (List.mem_singleton.mp hc')
                subst this
                exact List.mem_append_left _ (all z hz)
          have fin := k (kvs1 ++ [(keyK (pv, pi), howD how)]) (X ++ [(pv, pi)]) (by rw [← List.append_assoc]; exact hk2.2) (by rw [← List.append_assoc]; exact okd2) (fun h => nomatch h) (fun p hp => by
            cases hp
            rw [← List.append_assoc]
            refine ⟨okd2, List.mem_append_right _ (List.mem_singleton.mpr rfl), fun z hz => List.mem_append_left _ (List.mem_append_left _ hz), fun C hC h1 h2 z hz => ?_⟩
            rcases List.mem_append.mp hz with hz | hz
            · exact least C hC h1 (hC _ hx h2) z hz
            · rw [List.mem_singleton.mp hz]; exact h2)
          rw [← List.append_assoc, List.map_append] at fin
          exact .same fin
end
end PB
namespace PB
open PySem PySem.Spec PyProof.Rows L2 DL
theorem app_set2 {M : List MO} {jd : Nat} {a b r r' : MO} (h : jd < M.length) : ((M.set jd a ++ [r]).set jd b).set M.length r' = M.set jd b ++ [r'] := by
  rw [List.set_append_left _ _ (by rw [List.length_set]; exact h), List.set_set, List.set_append_right _ _ (by rw [List.length_set]; exact Nat.le_refl _), List.length_set, Nat.sub_self]; rfl
abbrev rowP (r : List Spot) : Dt := .tup (r.map spotD)
theorem pu_rowP (r : List Spot) : Pu (rowP r) := .tup (PuL.map _ pu_spot _)
local macro_rules | `(tactic| walk_at "ix") => `(tactic| first
  | with_reducible exact at0 | with_reducible exact at1 | with_reducible exact at2 | with_reducible exact at3 | with_reducible exact at4 | with_reducible exact at_map (by assumption) | with_reducible exact at_nat (by assumption)
  | exact at0 | exact at1 | exact at2 | exact at3 | exact at4 | exact at_nat (by assumption) | exact at_map (by assumption) | rfl)
local macro_rules | `(tactic| walk_at "b") => `(tactic| first
  | refine ⟨true, rfl, fun _ => ?_, fun hx => tf hx⟩
  | refine ⟨false, rfl, fun hx => ft hx, fun _ => ?_⟩
  | refine ⟨true, rfl, fun hx => ft hx, fun _ => ?_⟩
  | refine ⟨false, rfl, fun _ => ?_, fun hx => tf hx⟩
  | refine ⟨_, rfl, ?_⟩)
local macro_rules | `(tactic| walk_at "t") => `(tactic| first
  | refine ⟨Nat.le_of_ble_eq_true rfl, ?_⟩
  | refine ⟨fun _ => ?_, fun hx => tf hx⟩
  | refine ⟨fun hx => ft hx, fun _ => ?_⟩)
local macro_rules | `(tactic| walk_at "isi") => `(tactic| first
  | refine wC_isi rfl k_ii ?_ | refine wC_isi rfl k_ib ?_ | refine wC_isi rfl k_tt ?_ | refine wC_isi rfl k_tl ?_ | refine wC_isi rfl k_ll ?_ | refine wC_isi rfl k_lt ?_ | refine wC_isi rfl k_sb ?_ | refine wC_isi rfl k_si ?_
  | refine wC_isi rfl k_bb ?_ | refine wC_isi rfl k_bi ?_ | refine wC_isi rfl k_st ?_ | refine wC_isi rfl k_sl ?_ | refine wC_isi rfl k_il ?_ | refine wC_isi rfl k_it ?_
  | refine wC_isi2 rfl k_tl k_tt ?_ | refine wC_isi2 rfl k_ll k_lt ?_ | refine wC_isi2 rfl k_il k_it ?_ | refine wC_isi2 rfl k_sl k_st ?_ | refine wC_isi2 rfl k_ib k_is ?_ | refine wC_isi2 rfl k_sb k_ss ?_)
local macro_rules | `(tactic| walk_at "dE") => `(tactic| first
  | with_reducible refine wE_var rfl ?_ | with_reducible refine wE_op ?_ | with_reducible refine wE_int ?_ | with_reducible refine wE_call ?_ | with_reducible refine wE_str ?_
  | with_reducible refine wE_lenSet ?_ | with_reducible refine wE_sortedSet ?_ | with_reducible refine wE_cb ?_ | with_reducible refine wE_and ?_ | with_reducible refine wE_or ?_ | with_reducible refine wE_not ?_ | with_reducible refine wE_if ?_
  | with_reducible refine wE_tup ?_ | with_reducible refine wE_ty ?_ | with_reducible refine wE_bl ?_ | with_reducible refine wE_non ?_ | with_reducible refine wE_chain ?_ | with_reducible refine wE_un ?_ | with_reducible refine wE_slice ?_)
local macro_rules | `(tactic| walk_at "dS") => `(tactic| first
  | with_reducible refine wS_seq ?_ | with_reducible refine wS_set ?_ | with_reducible refine wS_if ?_ | with_reducible refine wS_drop ?_ | with_reducible refine wS_next ?_ | with_reducible refine wS_ret ?_ | with_reducible refine wS_asg ?_
  | with_reducible refine wS_cont ?_ | with_reducible refine wS_par ?_ | with_reducible refine wS_for ?_)
local macro_rules | `(tactic| walk_at "dT") => `(tactic| first
  | with_reducible refine wT_test ?_ | with_reducible refine wT_B ?_ | with_reducible refine wT_and ?_ | with_reducible refine wT_or ?_ | with_reducible refine wT_not ?_)
local macro_rules | `(tactic| walk_at "dO") => `(tactic| first
  | with_reducible refine wO_int ?_ | with_reducible refine wO_intB ?_ | with_reducible refine wO_eqI ?_ | with_reducible refine wO_eqS ?_ | with_reducible refine wO_neI ?_ | with_reducible refine wO_eqB ?_ | with_reducible refine wO_neB ?_
  | with_reducible refine wO_isN ?_ | with_reducible refine wO_notN ?_ | (refine wO_ixT (by walk_at "ix") ?_))
local macro_rules | `(tactic| walk_at "dC") => `(tactic| first
  | walk_at "isi" | (refine wC_len (.inl rfl) ?_) | with_reducible refine wC_intI ?_ | with_reducible refine wC_intB ?_ | with_reducible refine wC_abs ?_ | with_reducible refine wC_min ?_)
local macro_rules | `(tactic| walk_at "d") => `(tactic| first
  | ((with_reducible refine isE ?_); walk_at "dE")
  | ((with_reducible refine isA ?_); first | with_reducible refine wA_cons ?_ | with_reducible refine wA_nil ?_)
  | ((with_reducible refine isO ?_); walk_at "dO")
  | ((with_reducible refine isS ?_); walk_at "dS")
  | ((with_reducible refine isT ?_); walk_at "dT")
  | ((with_reducible refine isC ?_); walk_at "dC")
  | with_reducible refine wG_name ?_ | ((with_reducible refine isG ?_); refine wG_tup rfl ?_) | with_reducible refine wGs_cons ?_ | with_reducible refine wGs_nil ?_
  | with_reducible refine forL_cons ?_ | with_reducible refine forL_nil ?_
  | with_reducible refine wP_none ?_ | with_reducible refine wP_some ?_)
local macro_rules | `(tactic| walk_at "D") => `(tactic| repeat (first | walk_at "d" | walk_at "t" | walk_at "b"))

section
variable {P : Program} {w : World} {K : PySem.W.Frag} {mg : Str → Option Value} {base : Heap} {cU : Addr}
theorem c__law_forceN (T__law_force : HasFn K mg "_law_force" s__law_force ["_law_house_so", "_law_tale_so", "_law_holds_so", "_law_wait_so", "_law_why_so", "_law_anew_so", "_law_done_so", "_law_row_so"]) (B : Bt mg) : ∀ n : Nat, Cal P w K mg base n "_law_force" ["_law_house_so", "_law_tale_so", "_law_holds_so", "_law_wait_so", "_law_why_so", "_law_anew_so", "_law_done_so", "_law_row_so"] (spD cU (CForce n))
  | 0 => Cal.zero T__law_force fun ds μ Φ Ψ h => h
  | n + 1 => c__law_force T__law_force B (c__law_forceN T__law_force B n)
def CPlayL : Con := fun ds μ Φ _ => ∃ (c : Craft) (wb : Web), ds = [craftD c, webD wb, .tup []] ∧ okCraft c ∧ okWeb c wb ∧ wb.length ≤ 6 ∧
  ∀ (rows : List (List Spot)) (J : List MO) (j : Nat), rows.length = wb.length → Played (news c wb) (looks c wb) rows.flatten → Φ (.tup [.tup (rows.map rowP), .reg j]) (μ ++ J)
theorem c__law_play (T__law_play : HasFn K mg "_law_play" s__law_play ["_law_house_so", "_law_tale_so", "_law_anew_so"]) (B : Bt mg) (c__law_held : Cal P w K mg base 1 "_law_held" ["_law_house_so", "_law_tale_so"] (spD cU CHeldL)) (c__law_force : Cal P w K mg base 10 "_law_force" ["_law_house_so", "_law_tale_so", "_law_holds_so", "_law_wait_so", "_law_why_so", "_law_anew_so", "_law_done_so", "_law_row_so"] (spD cU (CForce 10))) : Cal P w K mg base (11 + 1) "_law_play" ["_law_house_so", "_law_tale_so", "_law_anew_so"] (spD cU (CPlayL)) := by
  refine fnC (11) T__law_play sc__law_play (fun ds μ Φ Ψ h => ?_) (fun f cdv A outer s H E hr => ⟨_,
    (pss_cons (ps_par3 (i := 3) (j := 4) (l := 5) rfl sc__law_play.nd rfl rfl rfl (by decide) (by decide) (by decide) rfl rfl rfl (pa_cons (pe_cal c__law_held (hr.mono (by omega)) (by rfl) (pa_cons (pv 0) (pa_cons (pv 1) pa_nil))) (pa_cons pe_dnewT (pa_cons (pe_lst pa_nil) pa_nil))) (by rfl))
    (pss_cons (ps_for PassesOwn.never rfl (pi_enumTK (K := K) (by rfl) B.enumerate_ (pa_cons (pv 1) pa_nil)) (pg_tupK (K := K) (n := 2) rfl (pgs_cons (pg_name (i := 6) sc__law_play.nd rfl (by first | exact Or.inl rfl | exact Or.inr rfl)) (pgs_cons (pg_name (i := 7) sc__law_play.nd rfl (by first | exact Or.inl rfl | exact Or.inr rfl)) pgs_nil))) (pss_cons (ps_set (i := 8) sc__law_play.nd rfl (by first | exact Or.inl rfl | exact Or.inr rfl) (pe_lst pa_nil))
    (pss_cons (ps_for PassesOwn.never rfl (pi_tupK (K := K) (pe_ix (ix_tupK (K := K)) (pe_ix (ix_tupK (K := K)) (pe_ix (ix_tupK (K := K)) (pv 0) pe_int (fun _ _ => rfl)) (pe_ix (ix_tupK (K := K)) (pv 7) pe_int (fun _ _ => rfl)) (fun _ _ => rfl)) pe_int (fun _ _ => rfl))) (pg_tupK (K := K) (n := 2) rfl (pgs_cons (pg_name (i := 9) sc__law_play.nd rfl (by first | exact Or.inl rfl | exact Or.inr rfl)) (pgs_cons (pg_name (i := 10) sc__law_play.nd rfl (by first | exact Or.inl rfl | exact Or.inr rfl)) pgs_nil))) (pss_cons (ps_set (i := 11) sc__law_play.nd rfl (by first | exact Or.inl rfl | exact Or.inr rfl) (pe_ix (ix_tupK (K := K)) (pe_ix (ix_listK (K := K)) (pv 3) (pe_ix (ix_tupK (K := K)) (pe_ix (ix_tupK (K := K)) (pv 7) pe_int (fun _ _ => rfl)) (pv 9) (fun _ _ => rfl)) (fun _ _ => rfl)) (pv 10) (fun _ _ => rfl)))
    (pss_one (ps_expr (pe_cal c__law_force (hr.mono (by omega)) (by rfl) (pa_cons (pv 0) (pa_cons (pv 1) (pa_cons (pv 3) (pa_cons (pv 11) (pa_cons (pe_tup (pa_cons (pv 6) (pa_cons pe_str (pa_cons (pv 9) (pa_cons (pv 10) pa_nil))))) (pa_cons (pv 2) (pa_cons (pv 4) (pa_cons (pv 8) pa_nil)))))))))))))
    (pss_one (ps_expr (pe_bmK (K := K) PySem.F.plainAttrs_list PySem.F.slot_list_append PySem.F.type_list_append mt_append (pv 5) (pa_cons (pe_callTy (tupleK (K := K)) (by rfl) B.tuple_ (by decide +kernel) (pa_cons (pv 8) pa_nil)) pa_nil)))))))
    (pss_one (ps_ret (pe_tup (pa_cons (pe_callTy (tupleK (K := K)) (by rfl) B.tuple_ (by decide +kernel) (pa_cons (pv 5) pa_nil)) (pa_cons (pv 4) pa_nil))))))), fun ds μ Φ Ψ h => ?_⟩)
  · obtain ⟨c, wb, rfl, _⟩ := h; rfl
  · obtain ⟨c, wb, rfl, okc, okw, few, k⟩ := h
    have okn := news_ok okc okw
    refine wS_seq (wS_par3 ?_)
    walk_at "D"
    refine ⟨c, wb, rfl, okc, okw, ?_⟩
    walk_at "D"
    refine wE_dict ?_
    walk_at "D"
    refine wE_reg (wA_nil ⟨Nat.zero_le _, .nil, ?_⟩)
    walk_at "D"
    refine ⟨_, _, _, rfl, ?_⟩
    walk_at "D"
    refine wI_enumT ?_
    walk_at "D"
    have l1 : ∀ a : MO, (μ ++ [a]).length = μ.length + 1 := fun a => by rw [List.length_append]; rfl
    have l2 : ∀ a b : MO, μ ++ [a] ++ [b] = μ ++ [a, b] := fun a b => by simp
    rw [l1, l2]
    refine forL_inv (fun i δ' μ' => ∃ (a6 a7 a8 a9 a10 a11 : Option Dt) (kvs : List (List Key × Dt)) (rows : List (List Spot)) (J : List MO), δ' = [some (craftD c), some (webD wb), some (.tup []), some (.lst ((holds c wb).map rowH)), some (.reg μ.length), some (.reg (μ.length + 1)), a6, a7, a8, a9, a10, a11] ∧
      μ' = μ ++ [.dct kvs, .lst (rows.map rowP)] ++ J ∧ rows.length = i ∧ Keys kvs rows.flatten ∧ Played (news c wb) (looksN c wb (holds c wb) i) rows.flatten) 0 ⟨none, none, none, none, none, none, [], [], [], rfl, by rw [List.append_nil]; rfl, rfl, rfl, .nil _⟩ (fun i d δ' μ' hi hI => ?_) (fun δ' μ' hI => ?_)
    · obtain ⟨a6, a7, a8, a9, a10, a11, kvs0, rows, J, rfl, rfl, rl, hk0, hp0⟩ := hI
      rw [Nat.zero_add] at rl hp0
      rw [enumD_get] at hi
      cases hf2 : (wb.map verD)[i]? with
      | none => rw [hf2] at hi; cases hi
      | some d' =>
        rw [hf2] at hi
        cases hi
        obtain ⟨v, hv, rfl⟩ := map_get hf2
        obtain ⟨row, h1, h2, h3⟩ := okw.2 i v hv
        have okr := okc.each row (List.mem_of_getElem? h1)
        have hil : i < wb.length := (List.getElem?_eq_some_iff.mp hv).1
        simp only [Nat.zero_add]
        walk_at "D"
        refine wE_reg (wA_nil ⟨Nat.zero_le _, .nil, ?_⟩)
        walk_at "D"
        refine wI_tup ?_
        walk_at "D"
        generalize hM : μ ++ [MO.dct kvs0, .lst (rows.map rowP)] ++ J = M
        have hMd : M[μ.length]? = some (.dct kvs0) := by rw [← hM, List.append_assoc, List.getElem?_append_right (Nat.le_refl _), Nat.sub_self]; rfl
        have hMl : μ.length < M.length := (List.getElem?_eq_some_iff.mp hMd).1
        have hset : ∀ m : MO, M.set μ.length m = μ ++ [m, .lst (rows.map rowP)] ++ J := fun m => by rw [← hM, List.append_assoc, List.set_append_right _ _ (Nat.le_refl _), Nat.sub_self, List.append_assoc]; rfl
        refine forL_inv (fun j δ' μ' => ∃ (a9 a10 a11 : Option Dt) (kvs : List (List Key × Dt)) (rs : List Spot), δ' = [some (craftD c), some (webD wb), some (.tup []), some (.lst ((holds c wb).map rowH)), some (.reg μ.length), some (.reg (μ.length + 1)), some (natD i), some (verD v), some (.reg M.length), a9, a10, a11] ∧
          μ' = M.set μ.length (.dct kvs) ++ [.lst (rs.map spotD)] ∧ Keys kvs (rows.flatten ++ rs) ∧ Played (news c wb) (looksN c wb (holds c wb) i ++ wantsH (holds c wb) v.2 (row.looks.take j)) (rows.flatten ++ rs)) 0
          ⟨_, _, _, kvs0, [], rfl, by rw [set_self hMd]; rfl, by rw [List.append_nil]; exact hk0, by rw [List.take_zero, List.append_nil]; show Played _ (_ ++ []) _; rw [List.append_nil]; exact hp0⟩ (fun j d δ' μ' hj hI => ?_) (fun δ' μ' hI => ?_)
        · obtain ⟨a9, a10, a11, kvs, rs, rfl, rfl, hk, hp⟩ := hI
          rw [Nat.zero_add] at hp
          obtain ⟨p, hpj, rfl⟩ := map_get hj
          have okp := okr.looks.each p (List.mem_of_getElem? hpj)
          obtain ⟨e, h, z, q1, q2, q3, q4, q5⟩ := spot_holds okc okw hv h1 okp
          have tk : wantsH (holds c wb) v.2 (row.looks.take (j + 1)) = wantsH (holds c wb) v.2 (row.looks.take j) ++ z.toList := by
            unfold wantsH
            rw [take_snoc hpj, List.filterMap_append, List.filterMap_cons, q5]
            cases z <;> rfl
          simp only [Nat.zero_add]
          walk_at "D"
          refine wO_ixL rfl (at_map q3) ?_
          walk_at "D"
          refine ⟨c, wb, z, .look i p.1 p.2, μ.length, M.length, kvs, rows.flatten ++ rs, rs, rfl, okc, okw, Nat.ne_of_lt hMl, ?_, ?_, hk, hp.ok, by rw [List.length_append]; omega, fun q hqz => ?_, fun kvs2 X hk2 okd2 hnone hsome => ?_⟩
          · rw [List.getElem?_append_left (by rw [List.length_set]; exact hMl), List.getElem?_set_self hMl]
          · rw [List.getElem?_append_right (by rw [List.length_set]; exact Nat.le_refl _), List.length_set, Nat.sub_self]; rfl
          · subst hqz
            obtain ⟨t1, t2⟩ := hold_news okc okw hv h1 okp q5
            exact ⟨by show q.1 + 2 ≤ 10; omega, look_there okc okw hv h1 okp q5⟩
          · rw [app_set2 hMl]
            refine ⟨_, _, _, kvs2, rs ++ X, rfl, rfl, by rw [← List.append_assoc]; exact hk2, ?_⟩
            rw [tk, ← List.append_assoc, ← List.append_assoc]
            cases z with
            | none => rw [hnone rfl, List.append_nil]; show Played _ (_ ++ []) _; rw [List.append_nil]; exact hp
            | some q => exact hp.step (hsome q rfl)
        · obtain ⟨a9, a10, a11, kvs, rs, rfl, rfl, hk, hp⟩ := hI
          rw [Nat.zero_add, List.length_map, List.take_length] at hp
          rw [hset]
          walk_at "D"
          refine wE_apR (j := μ.length + 1) (ds := rows.map rowP) ?_ (by rw [List.length_map]; omega) ?_
          · rw [List.append_assoc, List.append_assoc, List.getElem?_append_right (by omega), show μ.length + 1 - μ.length = 1 by omega]; rfl
          walk_at "D"
          refine ⟨rfl, rfl, ?_⟩
          walk_at "D"
          refine wC_tuple (ds := rs.map spotD) ?_ ⟨rfl, pu_rowP _, ?_⟩
          · refine lstOf_reg ?_
            rw [← hM, List.length_append, List.length_append, ← List.length_append, ← List.length_append]
            refine Eq.trans (congrArg _ ?_) (last_of (l := μ ++ [MO.dct kvs, .lst (rows.map rowP)] ++ J))
            simp
          · refine ⟨_, _, _, _, _, _, kvs, rows ++ [rs], J ++ [.lst (rs.map spotD)], rfl, ?_, by rw [List.length_append, rl]; rfl, by rw [List.flatten_append]; simpa using hk, ?_⟩
            · rw [List.append_assoc, List.append_assoc, List.set_append_right _ _ (by omega), show μ.length + 1 - μ.length = 1 by omega, List.map_append, List.append_assoc]; rfl
            · rw [List.flatten_append, looksN, looksOf_eq hv h1]
              simpa using hp
    · obtain ⟨a6, a7, a8, a9, a10, a11, kvs, rows, J, rfl, rfl, rl, hk, hp⟩ := hI
      rw [Nat.zero_add, enumD_len, List.length_map] at rl hp
      walk_at "D"
      refine wC_tuple (ds := rows.map rowP) (lstOf_reg ?_) ?_
      · rw [List.append_assoc, List.getElem?_append_right (by omega), show μ.length + 1 - μ.length = 1 by omega]; rfl
      walk_at "D"
      rw [List.append_assoc]
      exact .same (k rows _ _ rl hp)
end
end PB
namespace PB
open PySem PySem.Spec PyProof.Rows L2 DL
/-! what is paid -/
def costOf (nw : List Wait) (p : Spot) : Int := ((nw.find? fun x => decide (x.1 = p)).map (·.2.1)).getD 0
theorem costOf_eq {nw : List Wait} (ok : okNews nw) {x : Wait} (h : x ∈ nw) : costOf nw x.1 = x.2.1 := by
  unfold costOf
  cases e : nw.find? fun y => decide (y.1 = x.1) with
  | none =>
    have := List.find?_eq_none.mp e _ h
    simp at this
  | some y =>
    have h1 := List.mem_of_find?_eq_some e
    have h2 : y.1 = x.1 := by have := List.find?_some e; simpa using this
    have := wait_eq ok h1 h h2
    subst this; rfl
def rowCost (c : Craft) (v : Ver) : Int := ((c.rows[v.1]?).map (·.cost)).getD 0
def paidOf (c : Craft) (wb : Web) (nw : List Wait) : List Ver → List (List Spot) → List Int
  | v :: vs, r :: rs => (rowCost c v + (r.map (costOf nw)).sum) :: paidOf c wb nw vs rs
  | _, _ => []
theorem paidOf_get {c : Craft} {wb : Web} {nw : List Wait} : ∀ {vs : List Ver} {rs : List (List Spot)} {i : Nat} {v : Ver} {r : List Spot}, vs[i]? = some v → rs[i]? = some r → (paidOf c wb nw vs rs)[i]? = some (rowCost c v + (r.map (costOf nw)).sum)
  | [], _, _, _, _, h, _ => by simp at h
  | _ :: _, [], _, _, _, _, h => by simp at h
  | v :: vs, r :: rs, 0, _, _, h1, h2 => by cases h1; cases h2; rfl
  | v :: vs, r :: rs, i + 1, _, _, h1, h2 => paidOf_get (vs := vs) (rs := rs) (i := i) h1 h2
theorem paidOf_len {c : Craft} {wb : Web} {nw : List Wait} : ∀ {vs : List Ver} {rs : List (List Spot)}, rs.length = vs.length → (paidOf c wb nw vs rs).length = vs.length
  | [], _, _ => rfl
  | _ :: _, [], h => by cases h
  | v :: vs, r :: rs, h => by
    show (paidOf c wb nw vs rs).length + 1 = vs.length + 1
    rw [paidOf_len (Nat.succ.inj h)]
theorem sum_snoc {l : List Int} {x : Int} : (l ++ [x]).sum = l.sum + x := by rw [List.sum_append]; simp
local macro_rules | `(tactic| walk_at "ix") => `(tactic| first
  | with_reducible exact at0 | with_reducible exact at1 | with_reducible exact at2 | with_reducible exact at3 | with_reducible exact at4 | with_reducible exact at_map (by assumption) | with_reducible exact at_nat (by assumption)
  | exact at0 | exact at1 | exact at2 | exact at3 | exact at4 | exact at_nat (by assumption) | exact at_map (by assumption) | rfl)
local macro_rules | `(tactic| walk_at "b") => `(tactic| first
  | refine ⟨true, rfl, fun _ => ?_, fun hx => tf hx⟩
  | refine ⟨false, rfl, fun hx => ft hx, fun _ => ?_⟩
  | refine ⟨true, rfl, fun hx => ft hx, fun _ => ?_⟩
  | refine ⟨false, rfl, fun _ => ?_, fun hx => tf hx⟩
  | refine ⟨_, rfl, ?_⟩)
local macro_rules | `(tactic| walk_at "t") => `(tactic| first
  | refine ⟨Nat.le_of_ble_eq_true rfl, ?_⟩
  | refine ⟨fun _ => ?_, fun hx => tf hx⟩
  | refine ⟨fun hx => ft hx, fun _ => ?_⟩)
local macro_rules | `(tactic| walk_at "isi") => `(tactic| first
  | refine wC_isi rfl k_ii ?_ | refine wC_isi rfl k_ib ?_ | refine wC_isi rfl k_tt ?_ | refine wC_isi rfl k_tl ?_ | refine wC_isi rfl k_ll ?_ | refine wC_isi rfl k_lt ?_ | refine wC_isi rfl k_sb ?_ | refine wC_isi rfl k_si ?_
  | refine wC_isi rfl k_bb ?_ | refine wC_isi rfl k_bi ?_ | refine wC_isi rfl k_st ?_ | refine wC_isi rfl k_sl ?_ | refine wC_isi rfl k_il ?_ | refine wC_isi rfl k_it ?_
  | refine wC_isi2 rfl k_tl k_tt ?_ | refine wC_isi2 rfl k_ll k_lt ?_ | refine wC_isi2 rfl k_il k_it ?_ | refine wC_isi2 rfl k_sl k_st ?_ | refine wC_isi2 rfl k_ib k_is ?_ | refine wC_isi2 rfl k_sb k_ss ?_)
local macro_rules | `(tactic| walk_at "dE") => `(tactic| first
  | with_reducible refine wE_var rfl ?_ | with_reducible refine wE_op ?_ | with_reducible refine wE_int ?_ | with_reducible refine wE_call ?_ | with_reducible refine wE_str ?_
  | with_reducible refine wE_lenSet ?_ | with_reducible refine wE_sortedSet ?_ | with_reducible refine wE_cb ?_ | with_reducible refine wE_and ?_ | with_reducible refine wE_or ?_ | with_reducible refine wE_not ?_ | with_reducible refine wE_if ?_
  | with_reducible refine wE_tup ?_ | with_reducible refine wE_ty ?_ | with_reducible refine wE_bl ?_ | with_reducible refine wE_non ?_ | with_reducible refine wE_chain ?_ | with_reducible refine wE_un ?_ | with_reducible refine wE_slice ?_)
local macro_rules | `(tactic| walk_at "dS") => `(tactic| first
  | with_reducible refine wS_seq ?_ | with_reducible refine wS_set ?_ | with_reducible refine wS_if ?_ | with_reducible refine wS_drop ?_ | with_reducible refine wS_next ?_ | with_reducible refine wS_ret ?_ | with_reducible refine wS_asg ?_
  | with_reducible refine wS_cont ?_ | with_reducible refine wS_par ?_ | with_reducible refine wS_for ?_)
local macro_rules | `(tactic| walk_at "dT") => `(tactic| first
  | with_reducible refine wT_test ?_ | with_reducible refine wT_B ?_ | with_reducible refine wT_and ?_ | with_reducible refine wT_or ?_ | with_reducible refine wT_not ?_)
local macro_rules | `(tactic| walk_at "dO") => `(tactic| first
  | with_reducible refine wO_int ?_ | with_reducible refine wO_intB ?_ | with_reducible refine wO_eqI ?_ | with_reducible refine wO_eqS ?_ | with_reducible refine wO_neI ?_ | with_reducible refine wO_eqB ?_ | with_reducible refine wO_neB ?_
  | with_reducible refine wO_isN ?_ | with_reducible refine wO_notN ?_ | (refine wO_ixT (by walk_at "ix") ?_))
local macro_rules | `(tactic| walk_at "dC") => `(tactic| first
  | walk_at "isi" | (refine wC_len (.inl rfl) ?_) | with_reducible refine wC_intI ?_ | with_reducible refine wC_intB ?_ | with_reducible refine wC_abs ?_ | with_reducible refine wC_min ?_)
local macro_rules | `(tactic| walk_at "d") => `(tactic| first
  | ((with_reducible refine isE ?_); walk_at "dE")
  | ((with_reducible refine isA ?_); first | with_reducible refine wA_cons ?_ | with_reducible refine wA_nil ?_)
  | ((with_reducible refine isO ?_); walk_at "dO")
  | ((with_reducible refine isS ?_); walk_at "dS")
  | ((with_reducible refine isT ?_); walk_at "dT")
  | ((with_reducible refine isC ?_); walk_at "dC")
  | with_reducible refine wG_name ?_ | ((with_reducible refine isG ?_); refine wG_tup rfl ?_) | with_reducible refine wGs_cons ?_ | with_reducible refine wGs_nil ?_
  | with_reducible refine forL_cons ?_ | with_reducible refine forL_nil ?_
  | with_reducible refine wP_none ?_ | with_reducible refine wP_some ?_)
local macro_rules | `(tactic| walk_at "D") => `(tactic| repeat (first | walk_at "d" | walk_at "t" | walk_at "b"))

section
variable {P : Program} {w : World} {K : PySem.W.Frag} {mg : Str → Option Value} {base : Heap} {cU : Addr}
/-- where a wait's cost stands -/
theorem news_at {c : Craft} {wb : Web} (okw : okWeb c wb) {x : Wait} (hx : x ∈ news c wb) : ∃ (v : Ver) (row : Row) (ws : List Spot), wb[x.1.1]? = some v ∧ c.rows[v.1]? = some row ∧ row.slots[x.1.2]? = some (.new x.2.1 ws) := by
  have hx1 := newsN_of hx
  have hx2 : x.1.1 < wb.length := newsN_key hx
  have hw : wb[x.1.1]? = some wb[x.1.1] := List.getElem?_eq_getElem hx2
  obtain ⟨row, r1, r2, r3⟩ := okw.2 _ _ hw
  rw [newsOf_eq hw r1] at hx1
  obtain ⟨i, cc', ws0, s1, s2⟩ := newsRow_at hx1
  rw [Nat.zero_add] at s2
  have e1 : x.1.2 = i := congrArg (fun z : Wait => z.1.2) s2
  have e2 : x.2.1 = cc' := congrArg (fun z : Wait => z.2.1) s2
  exact ⟨_, row, ws0, hw, r1, by rw [e1, e2]; exact s1⟩
def RPaidL (ds : List Dt) (r : Dt) : Prop := ∃ (c : Craft) (wb : Web) (rows : List (List Spot)), ds = [craftD c, webD wb, .tup (rows.map rowP)] ∧ okCraft c ∧ okWeb c wb ∧ rows.length = wb.length ∧ (∀ rs ∈ rows, ∀ p ∈ rs, ∃ x ∈ news c wb, x.1 = p) ∧ r = .tup ((paidOf c wb (news c wb) wb rows).map Dt.int)
theorem c__law_paid (T__law_paid : HasFn K mg "_law_paid" s__law_paid ["_law_house_so", "_law_tale_so", "_law_ledger_so"]) (B : Bt mg) : Cal P w K mg base (0 + 1) "_law_paid" ["_law_house_so", "_law_tale_so", "_law_ledger_so"] (spD cU (PC RPaidL)) := by
  refine fnC (0) T__law_paid sc__law_paid (fun ds μ Φ Ψ h => ?_) (fun f cdv A outer s H E hr => ⟨_,
    (pss_cons (ps_set (i := 3) sc__law_paid.nd rfl (by first | exact Or.inl rfl | exact Or.inr rfl) (pe_lst pa_nil))
    (pss_cons (ps_for PassesOwn.never rfl (pi_zipK (K := K) (by rfl) B.zip_ (pa_cons (pv 1) (pa_cons (pv 2) pa_nil))) (pg_tupK (K := K) (n := 2) rfl (pgs_cons (pg_name (i := 4) sc__law_paid.nd rfl (by first | exact Or.inl rfl | exact Or.inr rfl)) (pgs_cons (pg_name (i := 5) sc__law_paid.nd rfl (by first | exact Or.inl rfl | exact Or.inr rfl)) pgs_nil))) (pss_cons (ps_set (i := 6) sc__law_paid.nd rfl (by first | exact Or.inl rfl | exact Or.inr rfl) (pe_ix (ix_tupK (K := K)) (pe_ix (ix_tupK (K := K)) (pe_ix (ix_tupK (K := K)) (pv 0) pe_int (fun _ _ => rfl)) (pe_ix (ix_tupK (K := K)) (pv 4) pe_int (fun _ _ => rfl)) (fun _ _ => rfl)) pe_int (fun _ _ => rfl)))
    (pss_cons (ps_for PassesOwn.never rfl (pi_tupK (K := K) (pv 5)) (pg_name (i := 7) sc__law_paid.nd rfl (by first | exact Or.inl rfl | exact Or.inr rfl)) (pss_one (ps_set (i := 6) sc__law_paid.nd rfl (by first | exact Or.inl rfl | exact Or.inr rfl) (pe_op op_add (pv 6) (pe_ix (ix_tupK (K := K)) (pe_ix (ix_tupK (K := K)) (pe_ix (ix_tupK (K := K)) (pe_ix (ix_tupK (K := K)) (pe_ix (ix_tupK (K := K)) (pv 0) pe_int (fun _ _ => rfl)) (pe_ix (ix_tupK (K := K)) (pe_ix (ix_tupK (K := K)) (pv 1) (pe_ix (ix_tupK (K := K)) (pv 7) pe_int (fun _ _ => rfl)) (fun _ _ => rfl)) pe_int (fun _ _ => rfl)) (fun _ _ => rfl)) pe_int (fun _ _ => rfl)) (pe_ix (ix_tupK (K := K)) (pv 7) pe_int (fun _ _ => rfl)) (fun _ _ => rfl)) pe_int (fun _ _ => rfl))))))
    (pss_one (ps_expr (pe_bmK (K := K) PySem.F.plainAttrs_list PySem.F.slot_list_append PySem.F.type_list_append mt_append (pv 3) (pa_cons (pv 6) pa_nil)))))))
    (pss_one (ps_ret (pe_callTy (tupleK (K := K)) (by rfl) B.tuple_ (by decide +kernel) (pa_cons (pv 3) pa_nil)))))), fun ds μ Φ Ψ h => ?_⟩)
  · obtain ⟨r, ⟨c, wb, rows, rfl, _⟩, _⟩ := h; rfl
  · obtain ⟨r, ⟨c, wb, rows, rfl, okc, okw, rl, hr, rfl⟩, k⟩ := h
    have few := okw.1
    have okn := news_ok okc okw
    walk_at "D"
    refine wE_reg (wA_nil ⟨Nat.zero_le _, .nil, ?_⟩)
    walk_at "D"
    refine wI_zip ?_
    walk_at "D"
    refine ⟨wb.map verD, rows.map rowP, .inl rfl, ?_⟩
    refine forL_inv (fun i δ' μ' => ∃ (a4 a5 a6 a7 : Option Dt), δ' = [some (craftD c), some (webD wb), some (.tup (rows.map rowP)), some (.reg μ.length), a4, a5, a6, a7] ∧ μ' = μ ++ [.lst (((paidOf c wb (news c wb) wb rows).take i).map Dt.int)]) 0 ⟨none, none, none, none, rfl, rfl⟩ (fun i d δ' μ' hi hI => ?_) (fun δ' μ' hI => ?_)
    · obtain ⟨a4, a5, a6, a7, rfl, rfl⟩ := hI
      obtain ⟨a, b, g1, g2, rfl⟩ := DL.zip_get hi
      obtain ⟨v, hv, rfl⟩ := map_get g1
      obtain ⟨rs, hrs, rfl⟩ := map_get g2
      obtain ⟨row, h1, h2, h3⟩ := okw.2 i v hv
      have okr := okc.each row (List.mem_of_getElem? h1)
      have hil : i < wb.length := (List.getElem?_eq_some_iff.mp hv).1
      have hrc : rowCost c v = row.cost := by unfold rowCost; rw [h1]; rfl
      have hg := paidOf_get (c := c) (wb := wb) (nw := news c wb) hv hrs
      have hin := hr rs (List.mem_of_getElem? hrs)
      simp only [Nat.zero_add]
      walk_at "D"
      refine wI_tup ?_
      walk_at "D"
      refine forL_inv (fun j δ' μ' => ∃ (a7 : Option Dt), δ' = [some (craftD c), some (webD wb), some (.tup (rows.map rowP)), some (.reg μ.length), some (verD v), some (rowP rs), some (.int (rowCost c v + ((rs.take j).map (costOf (news c wb))).sum)), a7] ∧ μ' = μ ++ [.lst (((paidOf c wb (news c wb) wb rows).take i).map Dt.int)]) 0 ⟨_, by rw [hrc, List.take_zero, List.map_nil, List.sum_nil, Int.add_zero]; rfl, rfl⟩ (fun j d δ' μ' hj hI => ?_) (fun δ' μ' hI => ?_)
      · obtain ⟨a7, rfl, rfl⟩ := hI
        obtain ⟨p, hp, rfl⟩ := map_get hj
        obtain ⟨x, hx, rfl⟩ := hin p (List.mem_of_getElem? hp)
        obtain ⟨v2, row2, ws, t1, t2, t3⟩ := news_at okw hx
        simp only [Nat.zero_add]
        walk_at "D"
        refine ⟨some (spotD x.1), ?_, rfl⟩
        rw [take_snoc hp, List.map_append, List.map_cons, List.map_nil, sum_snoc, costOf_eq okn hx, ← Int.add_assoc]
        rfl
      · obtain ⟨a7, rfl, rfl⟩ := hI
        rw [Nat.zero_add, List.length_map, List.take_length]
        walk_at "D"
        refine wE_appL (by rw [List.length_map, List.length_take]; omega) ?_
        walk_at "D"
        refine ⟨rfl, rfl, ?_⟩
        walk_at "D"
        refine ⟨rfl, .int _, _, _, _, _, rfl, ?_⟩
        rw [take_snoc hg, List.map_append]; rfl
    · obtain ⟨a4, a5, a6, a7, rfl, rfl⟩ := hI
      have zl : (zipD (wb.map verD) (rows.map rowP)).length = wb.length := by rw [zip_len, List.length_map, List.length_map, rl, Nat.min_self]
      rw [Nat.zero_add, zl, List.take_of_length_le (by rw [paidOf_len rl]; exact Nat.le_refl _)]
      walk_at "D"
      refine wC_tuple (lstOf_reg last_of) (.cut (.tup (PuL.map _ .int _)) ?_)
      rw [List.take_left]
      exact k
def CCostL : Con := fun ds μ Φ _ => ∃ (c : Craft) (wb : Web), ds = [craftD c, webD wb] ∧ okCraft c ∧ okWeb c wb ∧ wb.length ≤ 6 ∧
  ∀ (rows : List (List Spot)), rows.length = wb.length → Played (news c wb) (looks c wb) rows.flatten → Φ (.int (paidOf c wb (news c wb) wb rows).sum) μ
theorem c__law_cost (T__law_cost : HasFn K mg "_law_cost" s__law_cost ["_law_house_so", "_law_tale_so"]) (B : Bt mg) (c__law_paid : Cal P w K mg base 1 "_law_paid" ["_law_house_so", "_law_tale_so", "_law_ledger_so"] (spD cU (PC RPaidL))) (c__law_play : Cal P w K mg base 12 "_law_play" ["_law_house_so", "_law_tale_so", "_law_anew_so"] (spD cU CPlayL)) : Cal P w K mg base (12 + 1) "_law_cost" ["_law_house_so", "_law_tale_so"] (spD cU (CCostL)) := by
  refine fnC (12) T__law_cost sc__law_cost (fun ds μ Φ Ψ h => ?_) (fun f cdv A outer s H E hr => ⟨_,
    (pss_one (ps_ret (pe_callB (sumTK (K := K) rfl) (by rfl) B.sum_ (by decide +kernel) (pa_cons (pe_cal c__law_paid (hr.mono (by omega)) (by rfl) (pa_cons (pv 0) (pa_cons (pv 1) (pa_cons (pe_ix (ix_tupK (K := K)) (pe_cal c__law_play (hr.mono (by omega)) (by rfl) (pa_cons (pv 0) (pa_cons (pv 1) (pa_cons (pe_tup pa_nil) pa_nil)))) pe_int (fun _ _ => rfl)) pa_nil)))) pa_nil)))), fun ds μ Φ Ψ h => ?_⟩)
  · obtain ⟨c, wb, rfl, _⟩ := h; rfl
  · obtain ⟨c, wb, rfl, okc, okw, few, k⟩ := h
    walk_at "D"
    refine ⟨c, wb, rfl, okc, okw, few, fun rows J j rl hp => ?_⟩
    walk_at "D"
    refine ⟨_, ⟨c, wb, rows, rfl, okc, okw, rl, fun rs hrs p hps => hp.ok.sub p (List.mem_flatten.mpr ⟨rs, hrs, hps⟩), rfl⟩, ?_⟩
    walk_at "D"
    refine wC_sumT rfl (.cut (.int _) ?_)
    rw [List.take_left]
    exact k rows rl hp
end
end PB
namespace PB
open PySem PySem.Spec PyProof.Rows L2 DL
/-- a wait that is done is forced: nothing more is done -/
theorem forced_in {nw : List Wait} {D X : List Spot} {q : Spot} (okd : okDone nw D) (hq : q ∈ D) (f : Forced nw D q (D ++ X)) : X = [] := by
  cases X with
  | nil => rfl
  | cons x X =>
    have h1 := f.least (fun z => z ∈ D) okd.cl (fun _ h => h) hq x (List.mem_append_right _ List.mem_cons_self)
    exact ((List.nodup_append.mp f.ok.nd).2.2 x h1 x List.mem_cons_self rfl).elim
/-- a wait whose wishes are done is forced: it alone is done -/
theorem forced_one {nw : List Wait} (okn : okNews nw) {D X : List Spot} {q : Spot} {c : Int} {ws : List Spot} (okd : okDone nw D) (hx : (q, c, ws) ∈ nw) (hw : ∀ z ∈ ws, z ∈ D) (hq : q ∉ D) (f : Forced nw D q (D ++ X)) : X = [q] := by
  have all : ∀ x ∈ X, x = q := fun x hX => by
    have h1 := f.least (fun z => z ∈ D ∨ z = q) (fun y hy hc z hz => by
      rcases hc with hc | hc
      · exact .inl (okd.cl y hy hc z hz)
      · have := wait_eq okn hy hx hc
        subst this
        exact .inl (hw z hz)) (fun _ h => .inl h) (.inr rfl) x (List.mem_append_right _ hX)
    rcases h1 with h1 | h1
    · exact ((List.nodup_append.mp f.ok.nd).2.2 x h1 x hX rfl).elim
    · exact h1
  have hin : q ∈ X := (List.mem_append.mp f.has).resolve_left hq
  have nd := (List.nodup_append.mp f.ok.nd).2.1
  cases X with
  | nil => cases hin
  | cons x X =>
    have e1 := all x List.mem_cons_self
    subst e1
    cases X with
    | nil => rfl
    | cons y Y =>
      have e2 := all y (List.mem_cons_of_mem _ List.mem_cons_self)
      subst e2
      exact absurd List.mem_cons_self (List.nodup_cons.mp nd).1
abbrev fsts (l : List Wait) : List Spot := l.map (·.1)
/-- row by row what is made -/
def madeN (c : Craft) (wb : Web) (n : Nat) : List (List Spot) := (List.range n).map fun k => fsts (newsOf c wb (holds c wb) k)
theorem madeN_succ (c : Craft) (wb : Web) (n : Nat) : madeN c wb (n + 1) = madeN c wb n ++ [fsts (newsOf c wb (holds c wb) n)] := by
  unfold madeN
  rw [List.range_succ, List.map_append]; rfl
theorem news_costs {nw : List Wait} (okn : okNews nw) {l : List Wait} (h : ∀ x ∈ l, x ∈ nw) : (fsts l).map (costOf nw) = l.map (·.2.1) := by
  rw [List.map_map]
  exact List.map_congr_left fun x hx => costOf_eq okn (h x hx)
theorem newsRow_costs (H : List HRow) (v : Nat) (els : List Nat) : ∀ (s : Nat) (fs : List Fil), (newsRow H v els s fs).map (·.2.1) = newCosts fs
  | _, [] => rfl
  | s, .new c ws :: r => by rw [newsRow, List.map_cons, newsRow_costs H v els (s + 1) r]; rfl
  | s, .none :: r => newsRow_costs H v els (s + 1) r
  | s, .kept _ _ :: r => newsRow_costs H v els (s + 1) r
theorem made_paid {c : Craft} {wb : Web} (okc : okCraft c) (okw : okWeb c wb) : paidOf c wb (news c wb) wb (madeN c wb wb.length) = atOnce c wb := by
  have okn := news_ok okc okw
  refine List.ext_getElem? fun i => ?_
  have ml : (madeN c wb wb.length).length = wb.length := by unfold madeN; rw [List.length_map, List.length_range]
  by_cases hi : i < wb.length
  · have hw : wb[i]? = some wb[i] := List.getElem?_eq_getElem hi
    obtain ⟨row, h1, h2, h3⟩ := okw.2 i _ hw
    have hm : (madeN c wb wb.length)[i]? = some (fsts (newsOf c wb (holds c wb) i)) := by unfold madeN; rw [List.getElem?_map, List.getElem?_range hi]; rfl
    rw [paidOf_get hw hm, news_costs okn fun x hx => newsN_has hx hi, newsOf_eq hw h1, newsRow_costs]
    unfold atOnce
    rw [List.getElem?_map, hw]
    show _ = some (verOnce c wb[i])
    unfold verOnce rowCost
    rw [h1]; rfl
  · rw [List.getElem?_eq_none (by rw [paidOf_len ml]; omega), List.getElem?_eq_none (by unfold atOnce; rw [List.length_map]; omega)]
local macro_rules | `(tactic| walk_at "ix") => `(tactic| first
  | with_reducible exact at0 | with_reducible exact at1 | with_reducible exact at2 | with_reducible exact at3 | with_reducible exact at4 | with_reducible exact at_map (by assumption) | with_reducible exact at_nat (by assumption)
  | exact at0 | exact at1 | exact at2 | exact at3 | exact at4 | exact at_nat (by assumption) | exact at_map (by assumption) | rfl)
local macro_rules | `(tactic| walk_at "b") => `(tactic| first
  | refine ⟨true, rfl, fun _ => ?_, fun hx => tf hx⟩
  | refine ⟨false, rfl, fun hx => ft hx, fun _ => ?_⟩
  | refine ⟨true, rfl, fun hx => ft hx, fun _ => ?_⟩
  | refine ⟨false, rfl, fun _ => ?_, fun hx => tf hx⟩
  | refine ⟨_, rfl, ?_⟩)
local macro_rules | `(tactic| walk_at "t") => `(tactic| first
  | refine ⟨Nat.le_of_ble_eq_true rfl, ?_⟩
  | refine ⟨fun _ => ?_, fun hx => tf hx⟩
  | refine ⟨fun hx => ft hx, fun _ => ?_⟩)
local macro_rules | `(tactic| walk_at "isi") => `(tactic| first
  | refine wC_isi rfl k_ii ?_ | refine wC_isi rfl k_ib ?_ | refine wC_isi rfl k_tt ?_ | refine wC_isi rfl k_tl ?_ | refine wC_isi rfl k_ll ?_ | refine wC_isi rfl k_lt ?_ | refine wC_isi rfl k_sb ?_ | refine wC_isi rfl k_si ?_
  | refine wC_isi rfl k_bb ?_ | refine wC_isi rfl k_bi ?_ | refine wC_isi rfl k_st ?_ | refine wC_isi rfl k_sl ?_ | refine wC_isi rfl k_il ?_ | refine wC_isi rfl k_it ?_
  | refine wC_isi2 rfl k_tl k_tt ?_ | refine wC_isi2 rfl k_ll k_lt ?_ | refine wC_isi2 rfl k_il k_it ?_ | refine wC_isi2 rfl k_sl k_st ?_ | refine wC_isi2 rfl k_ib k_is ?_ | refine wC_isi2 rfl k_sb k_ss ?_)
local macro_rules | `(tactic| walk_at "dE") => `(tactic| first
  | with_reducible refine wE_var rfl ?_ | with_reducible refine wE_op ?_ | with_reducible refine wE_int ?_ | with_reducible refine wE_call ?_ | with_reducible refine wE_str ?_
  | with_reducible refine wE_lenSet ?_ | with_reducible refine wE_sortedSet ?_ | with_reducible refine wE_cb ?_ | with_reducible refine wE_and ?_ | with_reducible refine wE_or ?_ | with_reducible refine wE_not ?_ | with_reducible refine wE_if ?_
  | with_reducible refine wE_tup ?_ | with_reducible refine wE_ty ?_ | with_reducible refine wE_bl ?_ | with_reducible refine wE_non ?_ | with_reducible refine wE_chain ?_ | with_reducible refine wE_un ?_ | with_reducible refine wE_slice ?_)
local macro_rules | `(tactic| walk_at "dS") => `(tactic| first
  | with_reducible refine wS_seq ?_ | with_reducible refine wS_set ?_ | with_reducible refine wS_if ?_ | with_reducible refine wS_drop ?_ | with_reducible refine wS_next ?_ | with_reducible refine wS_ret ?_ | with_reducible refine wS_asg ?_
  | with_reducible refine wS_cont ?_ | with_reducible refine wS_par ?_ | with_reducible refine wS_for ?_)
local macro_rules | `(tactic| walk_at "dT") => `(tactic| first
  | with_reducible refine wT_test ?_ | with_reducible refine wT_B ?_ | with_reducible refine wT_and ?_ | with_reducible refine wT_or ?_ | with_reducible refine wT_not ?_)
local macro_rules | `(tactic| walk_at "dO") => `(tactic| first
  | with_reducible refine wO_int ?_ | with_reducible refine wO_intB ?_ | with_reducible refine wO_eqI ?_ | with_reducible refine wO_eqS ?_ | with_reducible refine wO_neI ?_ | with_reducible refine wO_eqB ?_ | with_reducible refine wO_neB ?_
  | with_reducible refine wO_isN ?_ | with_reducible refine wO_notN ?_ | (refine wO_ixT (by walk_at "ix") ?_))
local macro_rules | `(tactic| walk_at "dC") => `(tactic| first
  | walk_at "isi" | (refine wC_len (.inl rfl) ?_) | with_reducible refine wC_intI ?_ | with_reducible refine wC_intB ?_ | with_reducible refine wC_abs ?_ | with_reducible refine wC_min ?_)
local macro_rules | `(tactic| walk_at "d") => `(tactic| first
  | ((with_reducible refine isE ?_); walk_at "dE")
  | ((with_reducible refine isA ?_); first | with_reducible refine wA_cons ?_ | with_reducible refine wA_nil ?_)
  | ((with_reducible refine isO ?_); walk_at "dO")
  | ((with_reducible refine isS ?_); walk_at "dS")
  | ((with_reducible refine isT ?_); walk_at "dT")
  | ((with_reducible refine isC ?_); walk_at "dC")
  | with_reducible refine wG_name ?_ | ((with_reducible refine isG ?_); refine wG_tup rfl ?_) | with_reducible refine wGs_cons ?_ | with_reducible refine wGs_nil ?_
  | with_reducible refine forL_cons ?_ | with_reducible refine forL_nil ?_
  | with_reducible refine wP_none ?_ | with_reducible refine wP_some ?_)
local macro_rules | `(tactic| walk_at "D") => `(tactic| repeat (first | walk_at "d" | walk_at "t" | walk_at "b"))

section
variable {P : Program} {w : World} {K : PySem.W.Frag} {mg : Str → Option Value} {base : Heap} {cU : Addr}
def ROnceL (ds : List Dt) (r : Dt) : Prop := ∃ (c : Craft) (wb : Web), ds = [craftD c, webD wb] ∧ okCraft c ∧ okWeb c wb ∧ wb.length ≤ 6 ∧ r = .tup ((atOnce c wb).map Dt.int)
theorem c__law_at_once_so (T__law_at_once_so : HasFn K mg "_law_at_once_so" s__law_at_once_so ["_law_house_so", "_law_tale_so"]) (B : Bt mg) (c__law_held : Cal P w K mg base 1 "_law_held" ["_law_house_so", "_law_tale_so"] (spD cU CHeldL)) (c__law_force : Cal P w K mg base 10 "_law_force" ["_law_house_so", "_law_tale_so", "_law_holds_so", "_law_wait_so", "_law_why_so", "_law_anew_so", "_law_done_so", "_law_row_so"] (spD cU (CForce 10))) (c__law_paid : Cal P w K mg base 1 "_law_paid" ["_law_house_so", "_law_tale_so", "_law_ledger_so"] (spD cU (PC RPaidL))) : Cal P w K mg base (11 + 1) "_law_at_once_so" ["_law_house_so", "_law_tale_so"] (spD cU (PC ROnceL)) := by
  refine fnC (11) T__law_at_once_so sc__law_at_once_so (fun ds μ Φ Ψ h => ?_) (fun f cdv A outer s H E hr => ⟨_,
    (pss_cons (ps_par3 (i := 2) (j := 3) (l := 4) rfl sc__law_at_once_so.nd rfl rfl rfl (by decide) (by decide) (by decide) rfl rfl rfl (pa_cons (pe_cal c__law_held (hr.mono (by omega)) (by rfl) (pa_cons (pv 0) (pa_cons (pv 1) pa_nil))) (pa_cons pe_dnewT (pa_cons (pe_lst pa_nil) pa_nil))) (by rfl))
    (pss_cons (ps_for PassesOwn.never rfl (pi_enumTK (K := K) (by rfl) B.enumerate_ (pa_cons (pv 1) pa_nil)) (pg_tupK (K := K) (n := 2) rfl (pgs_cons (pg_name (i := 5) sc__law_at_once_so.nd rfl (by first | exact Or.inl rfl | exact Or.inr rfl)) (pgs_cons (pg_name (i := 6) sc__law_at_once_so.nd rfl (by first | exact Or.inl rfl | exact Or.inr rfl)) pgs_nil))) (pss_cons (ps_set (i := 7) sc__law_at_once_so.nd rfl (by first | exact Or.inl rfl | exact Or.inr rfl) (pe_lst pa_nil))
    (pss_cons (ps_for PassesOwn.never rfl (pi_tupK (K := K) (pe_ix (ix_tupK (K := K)) (pe_ix (ix_tupK (K := K)) (pe_ix (ix_tupK (K := K)) (pv 0) pe_int (fun _ _ => rfl)) (pe_ix (ix_tupK (K := K)) (pv 6) pe_int (fun _ _ => rfl)) (fun _ _ => rfl)) pe_int (fun _ _ => rfl))) (pg_tupK (K := K) (n := 2) rfl (pgs_cons (pg_name (i := 8) sc__law_at_once_so.nd rfl (by first | exact Or.inl rfl | exact Or.inr rfl)) (pgs_cons (pg_name (i := 9) sc__law_at_once_so.nd rfl (by first | exact Or.inl rfl | exact Or.inr rfl)) pgs_nil))) (pss_cons (ps_set (i := 10) sc__law_at_once_so.nd rfl (by first | exact Or.inl rfl | exact Or.inr rfl) (pe_ix (ix_tupK (K := K)) (pe_ix (ix_listK (K := K)) (pv 2) (pe_ix (ix_tupK (K := K)) (pe_ix (ix_tupK (K := K)) (pv 6) pe_int (fun _ _ => rfl)) (pv 8) (fun _ _ => rfl)) (fun _ _ => rfl)) (pv 9) (fun _ _ => rfl)))
    (pss_one (ps_expr (pe_cal c__law_force (hr.mono (by omega)) (by rfl) (pa_cons (pv 0) (pa_cons (pv 1) (pa_cons (pv 2) (pa_cons (pv 10) (pa_cons (pe_tup (pa_cons (pv 5) (pa_cons pe_str (pa_cons (pv 8) (pa_cons (pv 9) pa_nil))))) (pa_cons (pe_tup pa_nil) (pa_cons (pv 3) (pa_cons (pv 7) pa_nil)))))))))))))
    (pss_cons (ps_for PassesOwn.never rfl (pi_enumTK (K := K) (by rfl) B.enumerate_ (pa_cons (pe_ix (ix_tupK (K := K)) (pe_ix (ix_tupK (K := K)) (pe_ix (ix_tupK (K := K)) (pv 0) pe_int (fun _ _ => rfl)) (pe_ix (ix_tupK (K := K)) (pv 6) pe_int (fun _ _ => rfl)) (fun _ _ => rfl)) pe_int (fun _ _ => rfl)) pa_nil)) (pg_tupK (K := K) (n := 2) rfl (pgs_cons (pg_name (i := 9) sc__law_at_once_so.nd rfl (by first | exact Or.inl rfl | exact Or.inr rfl)) (pgs_cons (pg_name (i := 11) sc__law_at_once_so.nd rfl (by first | exact Or.inl rfl | exact Or.inr rfl)) pgs_nil))) (pss_one (ps_if (pt_cmpR op_eq (pe_ix (ix_tupK (K := K)) (pv 11) pe_int (fun _ _ => rfl)) pe_str (nomark _)) (pss_one (ps_expr (pe_cal c__law_force (hr.mono (by omega)) (by rfl) (pa_cons (pv 0) (pa_cons (pv 1) (pa_cons (pv 2) (pa_cons (pe_tup (pa_cons (pv 5) (pa_cons (pv 9) pa_nil))) (pa_cons (pe_tup (pa_cons (pv 5) (pa_cons pe_str (pa_cons pe_int (pa_cons (pv 9) pa_nil))))) (pa_cons (pe_tup pa_nil) (pa_cons (pv 3) (pa_cons (pv 7) pa_nil))))))))))) pss_nil)))
    (pss_one (ps_expr (pe_bmK (K := K) PySem.F.plainAttrs_list PySem.F.slot_list_append PySem.F.type_list_append mt_append (pv 4) (pa_cons (pe_callTy (tupleK (K := K)) (by rfl) B.tuple_ (by decide +kernel) (pa_cons (pv 7) pa_nil)) pa_nil))))))))
    (pss_one (ps_ret (pe_cal c__law_paid (hr.mono (by omega)) (by rfl) (pa_cons (pv 0) (pa_cons (pv 1) (pa_cons (pe_callTy (tupleK (K := K)) (by rfl) B.tuple_ (by decide +kernel) (pa_cons (pv 4) pa_nil)) pa_nil)))))))), fun ds μ Φ Ψ h => ?_⟩)
  · obtain ⟨r, ⟨c, wb, rfl, _⟩, _⟩ := h; rfl
  · obtain ⟨r, ⟨c, wb, rfl, okc, okw, few, rfl⟩, k⟩ := h
    have okn := news_ok okc okw
    refine wS_seq (wS_par3 ?_)
    walk_at "D"
    refine ⟨c, wb, rfl, okc, okw, ?_⟩
    walk_at "D"
    refine wE_dict ?_
    walk_at "D"
    refine wE_reg (wA_nil ⟨Nat.zero_le _, .nil, ?_⟩)
    walk_at "D"
    refine ⟨_, _, _, rfl, ?_⟩
    walk_at "D"
    refine wI_enumT ?_
    walk_at "D"
    have l1 : ∀ a : MO, (μ ++ [a]).length = μ.length + 1 := fun a => by rw [List.length_append]; rfl
    have l2 : ∀ a b : MO, μ ++ [a] ++ [b] = μ ++ [a, b] := fun a b => by simp
    rw [l1, l2]
    have ml : ∀ n, (madeN c wb n).length = n := fun n => by unfold madeN; rw [List.length_map, List.length_range]
    refine forL_inv (fun i δ' μ' => ∃ (a5 a6 a7 a8 a9 a10 a11 : Option Dt) (kvs : List (List Key × Dt)) (J : List MO), δ' = [some (craftD c), some (webD wb), some (.lst ((holds c wb).map rowH)), some (.reg μ.length), some (.reg (μ.length + 1)), a5, a6, a7, a8, a9, a10, a11] ∧
      μ' = μ ++ [.dct kvs, .lst ((madeN c wb i).map rowP)] ++ J ∧ Keys kvs (fsts (newsN c wb (holds c wb) i)) ∧ okDone (news c wb) (fsts (newsN c wb (holds c wb) i))) 0 ⟨none, none, none, none, none, none, none, [], [], rfl, by rw [List.append_nil]; rfl, rfl, ⟨.nil, (fun _ h => nomatch h), fun _ _ h => nomatch h⟩⟩ (fun i d δ' μ' hi hI => ?_) (fun δ' μ' hI => ?_)
    · obtain ⟨a5, a6, a7, a8, a9, a10, a11, kvs0, J, rfl, rfl, hk0, hp0⟩ := hI
      rw [Nat.zero_add] at hk0 hp0
      rw [enumD_get] at hi
      cases hf2 : (wb.map verD)[i]? with
      | none => rw [hf2] at hi; cases hi
      | some d' =>
        rw [hf2] at hi
        cases hi
        obtain ⟨v, hv, rfl⟩ := map_get hf2
        obtain ⟨row, h1, h2, h3⟩ := okw.2 i v hv
        have okr := okc.each row (List.mem_of_getElem? h1)
        have hil : i < wb.length := (List.getElem?_eq_some_iff.mp hv).1
        simp only [Nat.zero_add]
        walk_at "D"
        refine wE_reg (wA_nil ⟨Nat.zero_le _, .nil, ?_⟩)
        walk_at "D"
        refine wI_tup ?_
        walk_at "D"
        generalize hM : μ ++ [MO.dct kvs0, .lst ((madeN c wb i).map rowP)] ++ J = M
        have hMd : M[μ.length]? = some (.dct kvs0) := by rw [← hM, List.append_assoc, List.getElem?_append_right (Nat.le_refl _), Nat.sub_self]; rfl
        have hMl : μ.length < M.length := (List.getElem?_eq_some_iff.mp hMd).1
        have hset : ∀ m : MO, M.set μ.length m = μ ++ [m, .lst ((madeN c wb i).map rowP)] ++ J := fun m => by rw [← hM, List.append_assoc, List.set_append_right _ _ (Nat.le_refl _), Nat.sub_self, List.append_assoc]; rfl
        have gd : ∀ a r : MO, (M.set μ.length a ++ [r])[μ.length]? = some a := fun a r => by rw [List.getElem?_append_left (by rw [List.length_set]; exact hMl), List.getElem?_set_self hMl]
        have gr : ∀ a r : MO, (M.set μ.length a ++ [r])[M.length]? = some r := fun a r => by rw [List.getElem?_append_right (by rw [List.length_set]; exact Nat.le_refl _), List.length_set, Nat.sub_self]; rfl
        -- the looks find all done
        refine forL_inv (fun j δ' μ' => ∃ (a8 a9 a10 : Option Dt) (kvs : List (List Key × Dt)), δ' = [some (craftD c), some (webD wb), some (.lst ((holds c wb).map rowH)), some (.reg μ.length), some (.reg (μ.length + 1)), some (natD i), some (verD v), some (.reg M.length), a8, a9, a10, a11] ∧
          μ' = M.set μ.length (.dct kvs) ++ [.lst (([] : List Spot).map spotD)] ∧ Keys kvs (fsts (newsN c wb (holds c wb) i))) 0
          ⟨_, _, _, kvs0, rfl, by rw [set_self hMd]; rfl, hk0⟩ (fun j d δ' μ' hj hI => ?_) (fun δ' μ' hI => ?_)
        · obtain ⟨a8, a9, a10, kvs, rfl, rfl, hk⟩ := hI
          obtain ⟨p, hpj, rfl⟩ := map_get hj
          have okp := okr.looks.each p (List.mem_of_getElem? hpj)
          obtain ⟨e, h, z, q1, q2, q3, q4, q5⟩ := spot_holds okc okw hv h1 okp
          simp only [Nat.zero_add]
          walk_at "D"
          refine wO_ixL rfl (at_map q3) ?_
          walk_at "D"
          refine ⟨c, wb, z, .look i p.1 p.2, μ.length, M.length, kvs, fsts (newsN c wb (holds c wb) i), [], rfl, okc, okw, Nat.ne_of_lt hMl, gd _ _, gr _ _, hk, hp0, Nat.zero_le _, fun q hqz => ?_, fun kvs2 X hk2 okd2 hnone hsome => ?_⟩
          · subst hqz
            obtain ⟨t1, t2⟩ := hold_news okc okw hv h1 okp q5
            exact ⟨by show q.1 + 2 ≤ 10; omega, look_there okc okw hv h1 okp q5⟩
          · have hX : X = [] := by
              cases z with
              | none => exact hnone rfl
              | some q =>
                obtain ⟨t1, x, t2, t3⟩ := hold_news okc okw hv h1 okp q5
                refine forced_in hp0 ?_ (hsome q rfl)
                exact List.mem_map.mpr ⟨x, newsN_has t2 t1, t3⟩
            subst hX
            rw [app_set2 hMl]
            rw [List.append_nil] at hk2
            exact ⟨_, _, _, kvs2, rfl, rfl, hk2⟩
        obtain ⟨a8, a9, a10, kvs1, rfl, rfl, hk1⟩ := hI

        walk_at "D"
        refine wI_enumT ?_
        walk_at "D"
        -- then each new one is done
        refine forL_inv (fun j δ' μ' => ∃ (a8 a9 a10 a11 : Option Dt) (kvs : List (List Key × Dt)), δ' = [some (craftD c), some (webD wb), some (.lst ((holds c wb).map rowH)), some (.reg μ.length), some (.reg (μ.length + 1)), some (natD i), some (verD v), some (.reg M.length), a8, a9, a10, a11] ∧
          μ' = M.set μ.length (.dct kvs) ++ [.lst ((fsts (newsRow (holds c wb) i v.2 0 (row.slots.take j))).map spotD)] ∧ Keys kvs (fsts (newsN c wb (holds c wb) i) ++ fsts (newsRow (holds c wb) i v.2 0 (row.slots.take j))) ∧
          okDone (news c wb) (fsts (newsN c wb (holds c wb) i) ++ fsts (newsRow (holds c wb) i v.2 0 (row.slots.take j)))) 0
          ⟨_, _, _, _, kvs1, rfl, by rw [List.take_zero]; rfl, by rw [List.take_zero]; show Keys _ (_ ++ []); rw [List.append_nil]; exact hk1, by rw [List.take_zero]; show okDone _ (_ ++ []); rw [List.append_nil]; exact hp0⟩ (fun j d δ' μ' hj hI => ?_) (fun δ' μ' hI => ?_)
        · obtain ⟨a8, a9, a10, a11, kvs, rfl, rfl, hk, hp⟩ := hI
          rw [Nat.zero_add] at hk hp
          rw [enumD_get] at hj
          cases hf : (row.slots.map filD)[j]? with
          | none => rw [hf] at hj; cases hj
          | some d' =>
            rw [hf] at hj
            cases hj
            obtain ⟨fl, hfl, rfl⟩ := map_get hf
            have hjl : j < row.slots.length := (List.getElem?_eq_some_iff.mp hfl).1
            have tk : newsRow (holds c wb) i v.2 0 (row.slots.take (j + 1)) = newsRow (holds c wb) i v.2 0 (row.slots.take j) ++ newsRow (holds c wb) i v.2 j [fl] := by
              rw [take_snoc hfl, newsRow_app, List.length_take, Nat.min_eq_left (by omega), Nat.zero_add]
            simp only [Nat.zero_add]
            cases fl with
            | none =>
              have tk' : newsRow (holds c wb) i v.2 0 (row.slots.take (j + 1)) = newsRow (holds c wb) i v.2 0 (row.slots.take j) := by rw [tk]; simp [newsRow]
              walk_at "D"
              exact ⟨_, _, _, _, kvs, rfl, by rw [tk'], by rw [tk']; exact hk, by rw [tk']; exact hp⟩
            | kept p q =>
              have tk' : newsRow (holds c wb) i v.2 0 (row.slots.take (j + 1)) = newsRow (holds c wb) i v.2 0 (row.slots.take j) := by rw [tk]; simp [newsRow]
              walk_at "D"
              exact ⟨_, _, _, _, kvs, rfl, by rw [tk'], by rw [tk']; exact hk, by rw [tk']; exact hp⟩
            | new cc ws =>
              obtain ⟨o1, o2, o3⟩ := okr.slots _ (List.mem_of_getElem? hfl)
              have hnew : ((i, j), cc, wantsH (holds c wb) v.2 ws) ∈ newsOf c wb (holds c wb) i := by
                rw [newsOf_eq hv h1]
                have := newsRow_has (H := holds c wb) (v := i) (els := v.2) (s := 0) hfl
                rwa [Nat.zero_add] at this
              have hnw : ((i, j), cc, wantsH (holds c wb) v.2 ws) ∈ news c wb := newsN_has hnew hil
              have hnot : (i, j) ∉ fsts (newsN c wb (holds c wb) i) ++ fsts (newsRow (holds c wb) i v.2 0 (row.slots.take j)) := fun hin => by
                rcases List.mem_append.mp hin with hin | hin
                · obtain ⟨x, hx, e⟩ := List.mem_map.mp hin
                  have := newsN_key hx
                  rw [e] at this; exact Nat.lt_irrefl _ this
                · obtain ⟨x, hx, e⟩ := List.mem_map.mp hin
                  have h6 := newsRow_lt hx
                  rw [e, List.length_take] at h6
                  have : j < 0 + min j row.slots.length := h6
                  omega
              have hw : ∀ z ∈ wantsH (holds c wb) v.2 ws, z ∈ fsts (newsN c wb (holds c wb) i) ++ fsts (newsRow (holds c wb) i v.2 0 (row.slots.take j)) := fun z hz => by
                obtain ⟨p, hp, g⟩ := List.mem_filterMap.mp hz
                obtain ⟨t1, x, t2, t3⟩ := hold_news okc okw hv h1 (o2.each p hp) g
                exact List.mem_append_left _ (List.mem_map.mpr ⟨x, newsN_has t2 t1, t3⟩)
              walk_at "D"
              refine ⟨c, wb, some (i, j), .look i 0 j, μ.length, M.length, kvs, _, fsts (newsRow (holds c wb) i v.2 0 (row.slots.take j)), rfl, okc, okw, Nat.ne_of_lt hMl, gd _ _, gr _ _, hk, hp, by rw [List.length_append]; omega, fun q hqz => ?_, fun kvs2 X hk2 okd2 hnone hsome => ?_⟩
              · cases hqz
                exact ⟨by show i + 2 ≤ 10; omega, _, hnw, rfl⟩
              · have hX := forced_one okn hp hnw hw hnot (hsome (i, j) rfl)
                subst hX
                have tk2 : fsts (newsRow (holds c wb) i v.2 0 (row.slots.take (j + 1))) = fsts (newsRow (holds c wb) i v.2 0 (row.slots.take j)) ++ [(i, j)] := by
                  rw [tk]; unfold fsts; rw [List.map_append]; rfl
                rw [app_set2 hMl]
                exact ⟨_, _, _, _, kvs2, rfl, by rw [tk2], by rw [tk2, ← List.append_assoc]; exact hk2, by rw [tk2, ← List.append_assoc]; exact okd2⟩
        · obtain ⟨a8, a9, a10, a11, kvs, rfl, rfl, hk, hp⟩ := hI
          rw [Nat.zero_add, enumD_len, List.length_map, List.take_length, ← newsOf_eq hv h1] at hk hp ⊢
          have e1 : fsts (newsN c wb (holds c wb) i) ++ fsts (newsOf c wb (holds c wb) i) = fsts (newsN c wb (holds c wb) (i + 1)) := by
            unfold fsts; rw [newsN, List.map_append]
          rw [e1] at hk hp
          walk_at "D"
          refine wE_apR (j := μ.length + 1) (ds := (madeN c wb i).map rowP) ?_ (by rw [List.length_map, ml]; omega) ?_
          · rw [hset, List.append_assoc, List.append_assoc, List.getElem?_append_right (by omega), show μ.length + 1 - μ.length = 1 by omega]; rfl
          walk_at "D"
          refine ⟨rfl, rfl, ?_⟩
          walk_at "D"
          refine wC_tuple (ds := (fsts (newsOf c wb (holds c wb) i)).map spotD) (lstOf_reg (gr _ _)) ⟨rfl, pu_rowP _, ?_⟩
          refine ⟨_, _, _, _, _, _, _, kvs, J ++ [.lst ((fsts (newsOf c wb (holds c wb) i)).map spotD)], rfl, ?_, hk, hp⟩
          rw [hset, List.append_assoc, List.append_assoc, List.set_append_right _ _ (by omega), show μ.length + 1 - μ.length = 1 by omega, madeN_succ, List.map_append, List.append_assoc]; rfl
    · obtain ⟨a5, a6, a7, a8, a9, a10, a11, kvs, J, rfl, rfl, hk, hp⟩ := hI
      rw [Nat.zero_add, enumD_len, List.length_map]
      walk_at "D"
      refine wC_tuple (ds := (madeN c wb wb.length).map rowP) (lstOf_reg ?_) ?_
      · rw [List.append_assoc, List.getElem?_append_right (by omega), show μ.length + 1 - μ.length = 1 by omega]; rfl
      walk_at "D"
      refine ⟨_, ⟨c, wb, madeN c wb wb.length, rfl, okc, okw, ml _, fun rs hrs p hps => ?_, rfl⟩, .cut (.tup (PuL.map _ .int _)) ?_⟩
      · obtain ⟨n, hn, rfl⟩ := List.mem_map.mp hrs
        obtain ⟨x, hx, rfl⟩ := List.mem_map.mp hps
        exact ⟨x, newsN_has hx (List.mem_range.mp hn), rfl⟩
      · rw [made_paid okc okw, List.append_assoc, List.take_left]
        exact k
end
end PB
namespace PB
open PySem PySem.Spec PyProof.Rows L2 DL
local macro_rules | `(tactic| walk_at "ix") => `(tactic| first
  | with_reducible exact at0 | with_reducible exact at1 | with_reducible exact at2 | with_reducible exact at3 | with_reducible exact at4 | with_reducible exact at_map (by assumption) | with_reducible exact at_nat (by assumption)
  | exact at0 | exact at1 | exact at2 | exact at3 | exact at4 | exact at_nat (by assumption) | exact at_map (by assumption) | rfl)
local macro_rules | `(tactic| walk_at "b") => `(tactic| first
  | refine ⟨true, rfl, fun _ => ?_, fun hx => tf hx⟩
  | refine ⟨false, rfl, fun hx => ft hx, fun _ => ?_⟩
  | refine ⟨true, rfl, fun hx => ft hx, fun _ => ?_⟩
  | refine ⟨false, rfl, fun _ => ?_, fun hx => tf hx⟩
  | refine ⟨_, rfl, ?_⟩)
local macro_rules | `(tactic| walk_at "t") => `(tactic| first
  | refine ⟨Nat.le_of_ble_eq_true rfl, ?_⟩
  | refine ⟨fun _ => ?_, fun hx => tf hx⟩
  | refine ⟨fun hx => ft hx, fun _ => ?_⟩)
local macro_rules | `(tactic| walk_at "isi") => `(tactic| first
  | refine wC_isi rfl k_ii ?_ | refine wC_isi rfl k_ib ?_ | refine wC_isi rfl k_tt ?_ | refine wC_isi rfl k_tl ?_ | refine wC_isi rfl k_ll ?_ | refine wC_isi rfl k_lt ?_ | refine wC_isi rfl k_sb ?_ | refine wC_isi rfl k_si ?_
  | refine wC_isi rfl k_bb ?_ | refine wC_isi rfl k_bi ?_ | refine wC_isi rfl k_st ?_ | refine wC_isi rfl k_sl ?_ | refine wC_isi rfl k_il ?_ | refine wC_isi rfl k_it ?_
  | refine wC_isi2 rfl k_tl k_tt ?_ | refine wC_isi2 rfl k_ll k_lt ?_ | refine wC_isi2 rfl k_il k_it ?_ | refine wC_isi2 rfl k_sl k_st ?_ | refine wC_isi2 rfl k_ib k_is ?_ | refine wC_isi2 rfl k_sb k_ss ?_)
local macro_rules | `(tactic| walk_at "dE") => `(tactic| first
  | with_reducible refine wE_var rfl ?_ | with_reducible refine wE_op ?_ | with_reducible refine wE_int ?_ | with_reducible refine wE_call ?_ | with_reducible refine wE_str ?_
  | with_reducible refine wE_lenSet ?_ | with_reducible refine wE_sortedSet ?_ | with_reducible refine wE_cb ?_ | with_reducible refine wE_and ?_ | with_reducible refine wE_or ?_ | with_reducible refine wE_not ?_ | with_reducible refine wE_if ?_
  | with_reducible refine wE_tup ?_ | with_reducible refine wE_ty ?_ | with_reducible refine wE_bl ?_ | with_reducible refine wE_non ?_ | with_reducible refine wE_chain ?_ | with_reducible refine wE_un ?_ | with_reducible refine wE_slice ?_)
local macro_rules | `(tactic| walk_at "dS") => `(tactic| first
  | with_reducible refine wS_seq ?_ | with_reducible refine wS_set ?_ | with_reducible refine wS_if ?_ | with_reducible refine wS_drop ?_ | with_reducible refine wS_next ?_ | with_reducible refine wS_ret ?_ | with_reducible refine wS_asg ?_
  | with_reducible refine wS_cont ?_ | with_reducible refine wS_par ?_ | with_reducible refine wS_for ?_)
local macro_rules | `(tactic| walk_at "dT") => `(tactic| first
  | with_reducible refine wT_test ?_ | with_reducible refine wT_B ?_ | with_reducible refine wT_and ?_ | with_reducible refine wT_or ?_ | with_reducible refine wT_not ?_)
local macro_rules | `(tactic| walk_at "dO") => `(tactic| first
  | with_reducible refine wO_int ?_ | with_reducible refine wO_intB ?_ | with_reducible refine wO_eqI ?_ | with_reducible refine wO_eqS ?_ | with_reducible refine wO_neI ?_ | with_reducible refine wO_eqB ?_ | with_reducible refine wO_neB ?_
  | with_reducible refine wO_isN ?_ | with_reducible refine wO_notN ?_ | (refine wO_ixT (by walk_at "ix") ?_))
local macro_rules | `(tactic| walk_at "dC") => `(tactic| first
  | walk_at "isi" | (refine wC_len (.inl rfl) ?_) | with_reducible refine wC_intI ?_ | with_reducible refine wC_intB ?_ | with_reducible refine wC_abs ?_ | with_reducible refine wC_min ?_)
local macro_rules | `(tactic| walk_at "d") => `(tactic| first
  | ((with_reducible refine isE ?_); walk_at "dE")
  | ((with_reducible refine isA ?_); first | with_reducible refine wA_cons ?_ | with_reducible refine wA_nil ?_)
  | ((with_reducible refine isO ?_); walk_at "dO")
  | ((with_reducible refine isS ?_); walk_at "dS")
  | ((with_reducible refine isT ?_); walk_at "dT")
  | ((with_reducible refine isC ?_); walk_at "dC")
  | with_reducible refine wG_name ?_ | ((with_reducible refine isG ?_); refine wG_tup rfl ?_) | with_reducible refine wGs_cons ?_ | with_reducible refine wGs_nil ?_
  | with_reducible refine forL_cons ?_ | with_reducible refine forL_nil ?_
  | with_reducible refine wP_none ?_ | with_reducible refine wP_some ?_)
local macro_rules | `(tactic| walk_at "D") => `(tactic| repeat (first | walk_at "d" | walk_at "t" | walk_at "b"))

section
variable {P : Program} {w : World} {K : PySem.W.Frag} {mg : Str → Option Value} {base : Heap} {cU : Addr}
theorem newsN_slot {c : Craft} {wb : Web} {H : List HRow} (okc : okCraft c) (okw : okWeb c wb) {n : Nat} {x : Wait} (hx : x ∈ newsN c wb H n) : x.1.2 < 10 := by
  have h1 := newsN_of hx
  unfold newsOf at h1
  cases e : wb[x.1.1]? with
  | none => rw [e] at h1; cases h1
  | some ver =>
    rw [e] at h1; dsimp only at h1
    cases e2 : c.rows[ver.1]? with
    | none => rw [e2] at h1; cases h1
    | some row =>
      rw [e2] at h1
      have := newsRow_lt h1
      have := okc.small.2.2 row (List.mem_of_getElem? e2)
      omega
def CUnf : Con := fun ds μ Φ _ => ∃ (c : Craft) (wb : Web), ds = [craftD c, webD wb] ∧ okCraft c ∧ okWeb c wb ∧ wb.length ≤ 6 ∧
  ∀ (D us : List Spot), Played (news c wb) (looks c wb) D → us.Perm (((news c wb).map (·.1)).filter fun p => !decide (p ∈ D)) → Φ (.tup (us.map spotD)) μ
theorem keys_filter {nw : List Wait} {kvs : List (List Key × Dt)} {D : List Spot} (hk : Keys kvs D) : ((nw.map entD).filter fun kv => !(valD kvs kv.1).isSome).map (fun kv => Dt.tup (kv.1.map kD)) = ((nw.map (·.1)).filter fun p => !decide (p ∈ D)).map spotD := by
  induction nw with
  | nil => rfl
  | cons x r ih =>
    have h := hk.some x.1
    rw [List.map_cons, List.filter_cons, List.map_cons, List.filter_cons]
    by_cases hx : x.1 ∈ D
    · rw [if_neg (by show ¬ (!(valD kvs (keyK x.1)).isSome) = true; rw [h, decide_eq_true hx]; simp), if_neg (by rw [decide_eq_true hx]; simp)]
      exact ih
    · rw [if_pos (by show (!(valD kvs (keyK x.1)).isSome) = true; rw [h, decide_eq_false hx]; rfl), if_pos (by rw [decide_eq_false hx]; rfl), List.map_cons, List.map_cons, ih]
      rfl
theorem c_unforced (T_unforced : HasFn K mg "unforced" s_unforced ["craft", "web"]) (B : Bt mg) (c_sure_web : Cal P w K mg base 11 "sure_web" ["craft", "web"] (spD cU (PC RSureW))) (c_played : Cal P w K mg base 12 "played" ["craft", "web"] (spD cU CPlayed)) (c_set_of : Cal P w K mg base 1 "set_of" ["row"] (spD cU CSet)) : Cal P w K mg base (13 + 1) "unforced" ["craft", "web"] (spD cU (CUnf)) := by
  refine fnC (13) T_unforced sc_unforced (fun ds μ Φ Ψ h => ?_) (fun f cdv A outer s H E hr => ⟨_,
    (pss_cons (ps_asg (pe_cal c_sure_web (hr.mono (by omega)) (by rfl) (pa_cons (pv 0) (pa_cons (pv 1) pa_nil))) (pg_tupK (K := K) (n := 2) rfl (pgs_cons (pg_name (i := 2) sc_unforced.nd rfl (by first | exact Or.inl rfl | exact Or.inr rfl)) (pgs_cons (pg_name (i := 3) sc_unforced.nd rfl (by first | exact Or.inl rfl | exact Or.inr rfl)) pgs_nil))))
    (pss_cons (ps_asg (pe_cal c_played (hr.mono (by omega)) (by rfl) (pa_cons (pv 2) (pa_cons (pv 3) pa_nil))) (pg_tupK (K := K) (n := 3) rfl (pgs_cons (pg_name (i := 4) sc_unforced.nd rfl (by first | exact Or.inl rfl | exact Or.inr rfl)) (pgs_cons (pg_name (i := 5) sc_unforced.nd rfl (by first | exact Or.inl rfl | exact Or.inr rfl)) (pgs_cons (pg_name (i := 6) sc_unforced.nd rfl (by first | exact Or.inl rfl | exact Or.inr rfl)) pgs_nil)))))
    (pss_one (ps_ret (pe_cal c_set_of (hr.mono (by omega)) (by rfl) (pa_cons (pe_lock (pe_lc (own := [("one", 7)]) (g := (gName 7)) rfl sc_unforced.nd (pi_keys (pv 6)) (blkOk_by (own := [("one", 7)]) (N := ["craft", "web", "own", "line", "_", "done", "news", "one"]) (sc := defScope s_unforced) (by decide +kernel)) (fun _ _ _ _ _ => (pg_name (i := 7) sc_unforced.nd rfl (by first | exact Or.inl rfl | exact Or.inr rfl))) (fun _ _ _ _ _ => (pts_one (pt_cmp (pc_dnotin (hu_of hr) (pv 7) (pv 5))))) (fun _ _ _ _ _ => (pv 7)))) pa_nil)))))), fun ds μ Φ Ψ h => ?_⟩)
  · obtain ⟨c, wb, rfl, _⟩ := h; rfl
  · obtain ⟨c, wb, rfl, okc, okw, few, k⟩ := h
    walk_at "D"
    refine ⟨_, ⟨_, _, c, wb, rfl, (to_craft okc).td, (to_craft okc).same, okc, (to_web okc okw).td, (to_web okc okw).same, okw, rfl⟩, ?_⟩
    walk_at "D"
    refine ⟨c, wb, rfl, okc, okw, fun D kvs rows hp hk hr => ?_⟩
    walk_at "D"
    refine wE_keysNot (i := 6) (m := 5) (k := 7) (jn := μ.length + 2) (jd := μ.length) (kvn := (news c wb).map entD) (kvd := kvs) rfl rfl (Nat.le_of_ble_eq_true rfl) (by decide) (by decide) (by omega) ?_ ?_ ?_ ?_
    · rw [List.getElem?_append_right (by omega), show μ.length + 2 - μ.length = 2 by omega]; rfl
    · rw [List.getElem?_append_right (Nat.le_refl _), Nat.sub_self]; rfl
    · rw [List.length_map]; have := (news_ok okc okw).few; omega
    rw [keys_filter hk]
    walk_at "D"
    have nl := news_len c wb okc (holds c wb) wb.length
    refine ⟨?_, (newsN_nd _ _ _ _).filter _, fun p hp => ?_, fun us hu => ?_⟩
    · have := List.length_filter_le (fun p => !decide (p ∈ D)) ((news c wb).map (·.1))
      rw [List.length_map] at this
      have h2 : (news c wb).length ≤ wb.length * 10 := nl
      omega
    · obtain ⟨x, hx, rfl⟩ := List.mem_map.mp (List.mem_filter.mp hp).1
      have h1 := newsN_key hx
      have h2 := newsN_slot okc okw hx
      omega
    · refine .cut (.tup (PuL.map _ pu_spot _)) ?_
      rw [List.take_left]
      exact k D us hp hu
end
end PB
/-! P7: the plain join: all that is made is done or left -/
namespace PB
open PySem PySem.Spec PyProof.Rows L2 DL
theorem perm_sum {l l' : List Int} (h : l.Perm l') : l.sum = l'.sum := by
  induction h with
  | nil => rfl
  | cons x _ ih => rw [List.sum_cons, List.sum_cons, ih]
  | swap x y l => rw [List.sum_cons, List.sum_cons, List.sum_cons, List.sum_cons]; omega
  | trans _ _ h1 h2 => rw [h1, h2]
theorem paid_sum {c : Craft} {wb : Web} {nw : List Wait} : ∀ {vs : List Ver} {rs : List (List Spot)}, rs.length = vs.length → (paidOf c wb nw vs rs).sum = (vs.map (rowCost c)).sum + (rs.flatten.map (costOf nw)).sum
  | [], [], _ => rfl
  | [], _ :: _, h => by cases h
  | _ :: _, [], h => by cases h
  | v :: vs, r :: rs, h => by
    show ((rowCost c v + (r.map (costOf nw)).sum) :: paidOf c wb nw vs rs).sum = _
    rw [List.sum_cons, paid_sum (Nat.succ.inj h), List.map_cons, List.sum_cons, List.flatten_cons, List.map_append, List.sum_append]
    omega
theorem made_flat (c : Craft) (wb : Web) : ∀ n, (madeN c wb n).flatten = fsts (newsN c wb (holds c wb) n)
  | 0 => rfl
  | n + 1 => by
    rw [madeN_succ, List.flatten_append, made_flat c wb n, newsN]
    unfold fsts
    rw [List.map_append]
    simp
theorem once_sum {c : Craft} {wb : Web} (okc : okCraft c) (okw : okWeb c wb) {rows : List (List Spot)} {D us : List Spot} (rl : rows.length = wb.length) (hp : Played (news c wb) (looks c wb) rows.flatten) (hD : Played (news c wb) (looks c wb) D)
    (hu : us.Perm (((news c wb).map (·.1)).filter fun p => !decide (p ∈ D))) : (atOnce c wb).sum = (paidOf c wb (news c wb) wb rows).sum + (us.map (costOf (news c wb))).sum := by
  have ml : (madeN c wb wb.length).length = wb.length := by unfold madeN; rw [List.length_map, List.length_range]
  have okn := news_ok okc okw
  rw [← made_paid okc okw, paid_sum ml, paid_sum rl, made_flat, Int.add_assoc]
  congr 1
  rw [← List.sum_append, ← List.map_append]
  refine perm_sum (List.Perm.map _ ?_)
  have ndu : us.Nodup := hu.nodup_iff.mpr (okn.nd.filter _)
  have inu : ∀ p, p ∈ us ↔ p ∈ fsts (news c wb) ∧ p ∉ D := fun p => by
    rw [hu.mem_iff, List.mem_filter]
    simp [fsts]
  refine (List.perm_ext_iff_of_nodup okn.nd (List.nodup_append.mpr ⟨hp.ok.nd, ndu, fun a ha b hb e => ?_⟩)).mpr fun p => ⟨fun h => ?_, fun h => ?_⟩
  · subst e
    exact ((inu a).mp hb).2 ((hp.mem hD a).mp ha)
  · by_cases hd : p ∈ D
    · exact List.mem_append_left _ ((hp.mem hD p).mpr hd)
    · exact List.mem_append_right _ ((inu p).mpr ⟨h, hd⟩)
  · rcases List.mem_append.mp h with h | h
    · obtain ⟨x, hx, e⟩ := hp.ok.sub p h
      exact List.mem_map.mpr ⟨x, hx, e⟩
    · exact ((inu p).mp h).1
theorem once_take (c : Craft) (wb : Web) (n : Nat) : atOnce c (wb.take n) = (atOnce c wb).take n := by unfold atOnce; rw [List.map_take]
theorem okWeb.take {c : Craft} {wb : Web} (h : okWeb c wb) (n : Nat) : okWeb c (wb.take n) := by
  refine ⟨by rw [List.length_take]; have := h.1; omega, fun i v hv => ?_⟩
  have hi := (List.getElem?_eq_some_iff.mp hv).1
  rw [List.length_take] at hi
  rw [List.getElem?_take_of_lt (by omega)] at hv
  rw [List.take_take, Nat.min_eq_left (by omega)]
  exact h.2 i v hv
end PB
namespace PB
open PySem PySem.Spec PyProof.Rows L2 DL
/-! the law's own draws -/
def TinL (t : List Dt) (n : Nat) : Prop := ∃ a b c : Int, t = [.int a, .int b, .int c] ∧ 0 ≤ a ∧ 0 ≤ b ∧ b < 2 ^ 62 ∧ 0 ≤ c ∧ c + n ≤ 2 ^ 60
theorem TinL.mono {t : List Dt} {m n : Nat} (h : TinL t m) (k : n ≤ m) : TinL t n := by
  obtain ⟨a, b, c, h0, h1, h2, h3, h4, h5⟩ := h
  exact ⟨a, b, c, h0, h1, h2, h3, h4, by omega⟩
local macro_rules | `(tactic| walk_at "ix") => `(tactic| first
  | with_reducible exact at0 | with_reducible exact at1 | with_reducible exact at2 | with_reducible exact at3 | with_reducible exact at4 | with_reducible exact at_map (by assumption) | with_reducible exact at_nat (by assumption)
  | exact at0 | exact at1 | exact at2 | exact at3 | exact at4 | exact at_nat (by assumption) | exact at_map (by assumption) | rfl)
local macro_rules | `(tactic| walk_at "b") => `(tactic| first
  | refine ⟨true, rfl, fun _ => ?_, fun hx => tf hx⟩
  | refine ⟨false, rfl, fun hx => ft hx, fun _ => ?_⟩
  | refine ⟨true, rfl, fun hx => ft hx, fun _ => ?_⟩
  | refine ⟨false, rfl, fun _ => ?_, fun hx => tf hx⟩
  | refine ⟨_, rfl, ?_⟩)
local macro_rules | `(tactic| walk_at "t") => `(tactic| first
  | refine ⟨Nat.le_of_ble_eq_true rfl, ?_⟩
  | refine ⟨fun _ => ?_, fun hx => tf hx⟩
  | refine ⟨fun hx => ft hx, fun _ => ?_⟩)
local macro_rules | `(tactic| walk_at "isi") => `(tactic| first
  | refine wC_isi rfl k_ii ?_ | refine wC_isi rfl k_ib ?_ | refine wC_isi rfl k_tt ?_ | refine wC_isi rfl k_tl ?_ | refine wC_isi rfl k_ll ?_ | refine wC_isi rfl k_lt ?_ | refine wC_isi rfl k_sb ?_ | refine wC_isi rfl k_si ?_
  | refine wC_isi rfl k_bb ?_ | refine wC_isi rfl k_bi ?_ | refine wC_isi rfl k_st ?_ | refine wC_isi rfl k_sl ?_ | refine wC_isi rfl k_il ?_ | refine wC_isi rfl k_it ?_
  | refine wC_isi2 rfl k_tl k_tt ?_ | refine wC_isi2 rfl k_ll k_lt ?_ | refine wC_isi2 rfl k_il k_it ?_ | refine wC_isi2 rfl k_sl k_st ?_ | refine wC_isi2 rfl k_ib k_is ?_ | refine wC_isi2 rfl k_sb k_ss ?_)
local macro_rules | `(tactic| walk_at "dE") => `(tactic| first
  | with_reducible refine wE_var rfl ?_ | with_reducible refine wE_op ?_ | with_reducible refine wE_int ?_ | with_reducible refine wE_call ?_ | with_reducible refine wE_str ?_
  | with_reducible refine wE_lenSet ?_ | with_reducible refine wE_sortedSet ?_ | with_reducible refine wE_cb ?_ | with_reducible refine wE_and ?_ | with_reducible refine wE_or ?_ | with_reducible refine wE_not ?_ | with_reducible refine wE_if ?_
  | with_reducible refine wE_tup ?_ | with_reducible refine wE_ty ?_ | with_reducible refine wE_bl ?_ | with_reducible refine wE_non ?_ | with_reducible refine wE_chain ?_ | with_reducible refine wE_un ?_ | with_reducible refine wE_slice ?_)
local macro_rules | `(tactic| walk_at "dS") => `(tactic| first
  | with_reducible refine wS_seq ?_ | with_reducible refine wS_set ?_ | with_reducible refine wS_if ?_ | with_reducible refine wS_drop ?_ | with_reducible refine wS_next ?_ | with_reducible refine wS_ret ?_ | with_reducible refine wS_asg ?_
  | with_reducible refine wS_cont ?_ | with_reducible refine wS_par ?_ | with_reducible refine wS_for ?_)
local macro_rules | `(tactic| walk_at "dT") => `(tactic| first
  | with_reducible refine wT_test ?_ | with_reducible refine wT_B ?_ | with_reducible refine wT_and ?_ | with_reducible refine wT_or ?_ | with_reducible refine wT_not ?_)
local macro_rules | `(tactic| walk_at "dO") => `(tactic| first
  | with_reducible refine wO_int ?_ | with_reducible refine wO_intB ?_ | with_reducible refine wO_eqI ?_ | with_reducible refine wO_eqS ?_ | with_reducible refine wO_neI ?_ | with_reducible refine wO_eqB ?_ | with_reducible refine wO_neB ?_
  | with_reducible refine wO_isN ?_ | with_reducible refine wO_notN ?_ | (refine wO_ixT (by walk_at "ix") ?_))
local macro_rules | `(tactic| walk_at "dC") => `(tactic| first
  | walk_at "isi" | (refine wC_len (.inl rfl) ?_) | with_reducible refine wC_intI ?_ | with_reducible refine wC_intB ?_ | with_reducible refine wC_abs ?_ | with_reducible refine wC_min ?_)
local macro_rules | `(tactic| walk_at "d") => `(tactic| first
  | ((with_reducible refine isE ?_); walk_at "dE")
  | ((with_reducible refine isA ?_); first | with_reducible refine wA_cons ?_ | with_reducible refine wA_nil ?_)
  | ((with_reducible refine isO ?_); walk_at "dO")
  | ((with_reducible refine isS ?_); walk_at "dS")
  | ((with_reducible refine isT ?_); walk_at "dT")
  | ((with_reducible refine isC ?_); walk_at "dC")
  | with_reducible refine wG_name ?_ | ((with_reducible refine isG ?_); refine wG_tup rfl ?_) | with_reducible refine wGs_cons ?_ | with_reducible refine wGs_nil ?_
  | with_reducible refine forL_cons ?_ | with_reducible refine forL_nil ?_
  | with_reducible refine wP_none ?_ | with_reducible refine wP_some ?_)
local macro_rules | `(tactic| walk_at "D") => `(tactic| repeat (first | walk_at "d" | walk_at "t" | walk_at "b"))

section
variable {P : Program} {w : World} {K : PySem.W.Frag} {mg : Str → Option Value} {base : Heap} {cU : Addr}
theorem wO_modN {x : Int} {b : Nat} {μ : List MO} {Φ : DK} (hb : 0 < b) (k : ∀ r : Nat, r < b → Φ (natD r) μ) : wO (rI (fun _ j => 0 < j) fun i j => .int (i % j)) (.int x) (.int (b : Int)) μ Φ := by
  have h1 := Int.emod_nonneg x (show (b : Int) ≠ 0 by omega)
  have h2 := Int.emod_lt_of_pos x (show (0 : Int) < b by omega)
  refine wO_intC (by show (0 : Int) < b; omega) ?_
  have e : x % (b : Int) = ((x % (b : Int)).toNat : Int) := by omega
  rw [e]
  exact k _ (by omega)
def CTake : Con := fun ds μ Φ _ => ∃ (t : List Dt) (ν : List MO) (n b : Nat), ds = [.reg 0, natD b] ∧ μ = .lst t :: ν ∧ TinL t (n + 1) ∧ 0 < b ∧ b < 1000000 ∧ ∀ (r : Nat) (t' : List Dt), r < b → TinL t' n → Φ (natD r) (.lst t' :: ν)
theorem nat_mod {x : Int} {b : Nat} (h : 0 < b) : ∃ r : Nat, x % (b : Int) = r ∧ r < b := by
  have h1 := Int.emod_nonneg x (show (b : Int) ≠ 0 by omega)
  have h2 := Int.emod_lt_of_pos x (show (0 : Int) < b by omega)
  exact ⟨(x % (b : Int)).toNat, by omega, by omega⟩
theorem c__law_take (T__law_take : HasFn K mg "_law_take" s__law_take ["_law_tin", "_law_below_so"]) (B : Bt mg) : Cal P w K mg base (0 + 1) "_law_take" ["_law_tin", "_law_below_so"] (spD cU (CTake)) := by
  refine fnC (0) T__law_take sc__law_take (fun ds μ Φ Ψ h => ?_) (fun f cdv A outer s H E hr => ⟨_,
    (pss_cons (ps_if (pt_cmpR op_gt (pe_ix (ix_listK (K := K)) (pv 0) pe_int (fun _ _ => rfl)) pe_int (nomark _)) (pss_cons (ps_set (i := 2) sc__law_take.nd rfl (by first | exact Or.inl rfl | exact Or.inr rfl) (pe_op op_mod (pe_callTy call_int1 (by rfl) B.int_ (by decide +kernel) (pa_cons (pe_ix (ix_listK (K := K)) (pv 0) pe_int (fun _ _ => rfl)) pa_nil)) (pv 1)))
    (pss_cons (ps_asg (pe_op op_fdiv (pe_ix (ix_listK (K := K)) (pv 0) pe_int (fun _ _ => rfl)) (pv 1)) (pg_sub (pv 0) pe_int set_list))
    (pss_one (ps_ret (pv 2))))) pss_nil)
    (pss_cons (ps_asg (pe_op op_add (pe_ix (ix_listK (K := K)) (pv 0) pe_int (fun _ _ => rfl)) pe_int) (pg_sub (pv 0) pe_int set_list))
    (pss_cons (ps_set (i := 3) sc__law_take.nd rfl (by first | exact Or.inl rfl | exact Or.inr rfl) (pe_op op_mod (pe_callTy call_int1 (by rfl) B.int_ (by decide +kernel) (pa_cons (pe_op op_mul (pe_op op_add (pe_ix (ix_listK (K := K)) (pv 0) pe_int (fun _ _ => rfl)) (pe_op op_mul pe_int (pe_ix (ix_listK (K := K)) (pv 0) pe_int (fun _ _ => rfl)))) (pe_op op_add pe_int (pe_ix (ix_listK (K := K)) (pv 0) pe_int (fun _ _ => rfl)))) pa_nil)) pe_int))
    (pss_cons (ps_set (i := 4) sc__law_take.nd rfl (by first | exact Or.inl rfl | exact Or.inr rfl) (pe_op op_add (pe_op op_mod (pe_callTy call_int1 (by rfl) B.int_ (by decide +kernel) (pa_cons (pv 3) pa_nil)) pe_int) pe_int))
    (pss_cons (ps_set (i := 5) sc__law_take.nd rfl (by first | exact Or.inl rfl | exact Or.inr rfl) (pe_op op_mod (pe_callTy call_int1 (by rfl) B.int_ (by decide +kernel) (pa_cons (pe_op op_mul (pe_op op_add (pe_op op_add (pv 3) (pe_ix (ix_listK (K := K)) (pv 0) pe_int (fun _ _ => rfl))) (pe_op op_fdiv (pe_ix (ix_listK (K := K)) (pv 0) pe_int (fun _ _ => rfl)) pe_int)) (pv 4)) pa_nil)) pe_int))
    (pss_one (ps_ret (pe_op op_mod (pe_callTy call_int1 (by rfl) B.int_ (by decide +kernel) (pa_cons (pe_op op_fdiv (pe_op op_mod (pe_callTy call_int1 (by rfl) B.int_ (by decide +kernel) (pa_cons (pe_op op_add (pe_op op_mul (pv 5) pe_int) (pv 3)) pa_nil)) pe_int) pe_int) pa_nil)) (pv 1))))))))), fun ds μ Φ Ψ h => ?_⟩)
  · obtain ⟨t, ν, n, b, rfl, _⟩ := h; rfl
  · obtain ⟨t, ν, n, b, rfl, rfl, ⟨x0, x1, x2, rfl, p0, p1, p2, p3, p4⟩, hb, hb2, k⟩ := h
    have l0 : ∀ (a b c : Int), lstOf (MO.lst [.int a, .int b, .int c] :: ν) (.reg 0) = some [.int a, .int b, .int c] := fun _ _ _ => rfl
    walk_at "D"
    refine wO_ixL (l0 _ _ _) at0 ?_
    walk_at "D"
    by_cases h0 : x0 > 0
    · refine pt (dt h0) ?_
      walk_at "D"
      refine wO_ixL (l0 _ _ _) at0 ?_
      walk_at "D"
      refine wO_modN hb fun r hrb => ?_
      walk_at "D"
      refine wO_ixL (l0 _ _ _) at0 ?_
      walk_at "D"
      refine wO_intC ⟨by omega, by omega⟩ ?_
      refine wG_set ?_
      walk_at "D"
      refine ⟨0, _, 0, 0, rfl, rfl, rfl, rfl, .int _, ?_⟩
      walk_at "D"
      exact .same (k r _ hrb ⟨x0 / b, x1, x2, rfl, Int.ediv_nonneg p0 (by omega), p1, p2, p3, by omega⟩)
    · refine pf (df h0) ?_
      have z1 : 0 ≤ x2 + 1 ∧ x2 + 1 ≤ 2 ^ 60 := by omega
      walk_at "D"
      refine wO_ixL (l0 _ _ _) at2 ?_
      walk_at "D"
      refine wG_set ?_
      walk_at "D"
      refine ⟨0, _, 2, 2, rfl, rfl, rfl, rfl, .int _, ?_⟩
      have e1 : (MO.lst [Dt.int x0, .int x1, .int x2] :: ν).set 0 (.lst ([Dt.int x0, .int x1, .int x2].set 2 (.int (x2 + 1)))) = .lst [.int x0, .int x1, .int (x2 + 1)] :: ν := rfl
      rw [e1]
      walk_at "D"
      refine wO_ixL (l0 _ _ _) at1 ?_
      walk_at "D"
      refine wO_ixL (l0 _ _ _) at2 ?_
      walk_at "D"
      refine wO_intC (.inl ⟨by omega, by omega⟩) ?_
      walk_at "D"
      refine wO_ixL (l0 _ _ _) at2 ?_
      walk_at "D"
      refine wO_intC (.inr ⟨by omega, by omega⟩) ?_
      walk_at "D"
      refine wO_modN (b := 2147483647) (by decide) fun once ho => ?_
      walk_at "D"
      refine wO_modN (b := 40009) (by decide) fun wide hw => ?_
      walk_at "D"
      refine wO_ixL (l0 _ _ _) at2 ?_
      walk_at "D"
      refine wO_ixL (l0 _ _ _) at1 ?_
      walk_at "D"
      refine wO_intC ⟨by decide, by decide⟩ ?_
      walk_at "D"
      refine wO_intC (.inr ⟨by omega, by omega⟩) ?_
      walk_at "D"
      refine wO_modN (b := 2147483629) (by decide) fun twice ht => ?_
      walk_at "D"
      refine wO_intC (.inr ⟨by omega, by omega⟩) ?_
      walk_at "D"
      refine wO_modN (b := 2147483587) (by decide) fun more hm => ?_
      walk_at "D"
      refine wO_intC ⟨by decide, by decide⟩ ?_
      walk_at "D"
      refine wO_modN hb fun r hrb => ?_
      walk_at "D"
      exact .same (k r _ hrb ⟨x0, x1, x2 + 1, rfl, p0, p1, p2, by omega, by omega⟩)
def CBox : Con := fun ds μ Φ _ => ∃ (x : Int), ds = [.lst [.int x], .int 0] ∧ ∀ t, TinL t (2 ^ 59) → Φ (.reg μ.length) (μ ++ [.lst t])
theorem c__law_box (T__law_box : HasFn K mg "_law_box" s__law_box ["_law_script", "_law_k"]) (B : Bt mg) : Cal P w K mg base (0 + 1) "_law_box" ["_law_script", "_law_k"] (spD cU (CBox)) := by
  refine fnC (0) T__law_box sc__law_box (fun ds μ Φ Ψ h => ?_) (fun f cdv A outer s H E hr => ⟨_,
    (pss_cons (ps_set (i := 2) sc__law_box.nd rfl (by first | exact Or.inl rfl | exact Or.inr rfl) (pe_ifExp (pt_cmpR op_lt (pv 1) (pe_callB (lenK (K := K)) (by rfl) B.len_ (by decide +kernel) (pa_cons (pv 0) pa_nil)) (nomark _)) (pe_ix (ix_listK (K := K)) (pv 0) (pv 1) (fun _ _ => rfl)) pe_int))
    (pss_one (ps_ret (pe_lst (pa_cons (pe_op op_mul (pe_callB call_abs (by rfl) B.abs_ (by decide +kernel) (pa_cons (pv 2) pa_nil)) (pe_callTy call_int1 (by rfl) B.int_ (by decide +kernel) (pa_cons (pe_cmpR op_ge (pe_callB call_abs (by rfl) B.abs_ (by decide +kernel) (pa_cons (pv 2) pa_nil)) (pe_op op_pow pe_int pe_int) (nomark _)) pa_nil))) (pa_cons (pe_op op_add (pe_op op_add (pe_op op_mod (pe_callTy call_int1 (by rfl) B.int_ (by decide +kernel) (pa_cons (pv 2) pa_nil)) pe_int) (pe_op op_mul pe_int (pv 1))) pe_int) (pa_cons pe_int pa_nil))))))), fun ds μ Φ Ψ h => ?_⟩)
  · obtain ⟨x, rfl, _⟩ := h; rfl
  · obtain ⟨x, rfl, k⟩ := h
    walk_at "D"
    refine wC_len (.inr rfl) ?_
    walk_at "D"
    refine wO_ixL rfl at0 ?_
    walk_at "D"
    refine wE_reg ?_
    walk_at "D"
    refine wO_intC ⟨by decide, by decide, by decide⟩ ?_
    walk_at "D"
    refine wO_intC (.inr (by split <;> omega)) ?_
    walk_at "D"
    refine wO_modN (b := 2305843009213693951) (by decide) fun r hr => ?_
    walk_at "D"
    refine wO_intC (.inr ⟨by decide, by decide⟩) ?_
    walk_at "D"
    refine ⟨.cons (.int _) (.cons (.int _) (.cons (.int _) .nil)), .same (k _ ⟨_, _, _, rfl, ?_, by omega, by omega, by omega, by omega⟩)⟩
    refine Int.mul_nonneg ?_ ?_
    · split <;> omega
    · split <;> omega
def COf : Con := fun ds μ Φ _ => ∃ (t : List Dt) (ν : List MO) (n : Nat) (es : List Dt), ds = [.reg 0, .lst es] ∧ μ = .lst t :: ν ∧ TinL t (n + 1) ∧ es ≠ [] ∧ es.length < 1000000 ∧ ∀ (e : Dt) (t' : List Dt), e ∈ es → TinL t' n → Φ e (.lst t' :: ν)
theorem c__law_of (T__law_of : HasFn K mg "_law_of" s__law_of ["_law_tin", "_law_goods_so"]) (B : Bt mg) (c__law_take : Cal P w K mg base 1 "_law_take" ["_law_tin", "_law_below_so"] (spD cU CTake)) : Cal P w K mg base (1 + 1) "_law_of" ["_law_tin", "_law_goods_so"] (spD cU (COf)) := by
  refine fnC (1) T__law_of sc__law_of (fun ds μ Φ Ψ h => ?_) (fun f cdv A outer s H E hr => ⟨_,
    (pss_one (ps_ret (pe_ix (ix_listK (K := K)) (pv 1) (pe_cal c__law_take (hr.mono (by omega)) (by rfl) (pa_cons (pv 0) (pa_cons (pe_callB (lenK (K := K)) (by rfl) B.len_ (by decide +kernel) (pa_cons (pv 1) pa_nil)) pa_nil))) (fun _ _ => rfl)))), fun ds μ Φ Ψ h => ?_⟩)
  · obtain ⟨t, ν, n, es, rfl, _⟩ := h; rfl
  · obtain ⟨t, ν, n, es, rfl, rfl, ht, hne, hl, k⟩ := h
    have hp : 0 < es.length := List.length_pos_iff.mpr hne
    walk_at "D"
    refine wC_len (.inr rfl) ?_
    walk_at "D"
    refine ⟨t, ν, n, es.length, rfl, rfl, ht, hp, hl, fun r t' hr ht' => ?_⟩
    walk_at "D"
    refine wO_ixL rfl (at_nat (List.getElem?_eq_getElem hr)) ?_
    walk_at "D"
    exact .same (k _ t' (List.getElem_mem hr) ht')
end
end PB
namespace PB
open PySem PySem.Spec PyProof.Rows L2 DL
theorem r1_0 {a x : MO} {ν : List MO} : (a :: (ν ++ [x]))[ν.length + 1]? = some x := by rw [List.getElem?_cons_succ]; exact last_of
theorem r1s {a x z : MO} {ν : List MO} : (a :: (ν ++ [x])).set (ν.length + 1) z = a :: (ν ++ [z]) := by rw [List.set_cons_succ]; rw [List.set_append_right _ _ (Nat.le_refl _), Nat.sub_self]; rfl
theorem r2_0 {a x y : MO} {ν : List MO} : (a :: (ν ++ [x, y]))[ν.length + 1]? = some x := by rw [List.getElem?_cons_succ, List.getElem?_append_right (Nat.le_refl _), Nat.sub_self]; rfl
theorem r2_1 {a x y : MO} {ν : List MO} : (a :: (ν ++ [x, y]))[ν.length + 2]? = some y := by rw [List.getElem?_cons_succ, List.getElem?_append_right (by omega), show ν.length + 1 - ν.length = 1 by omega]; rfl
theorem r2s0 {a x y z : MO} {ν : List MO} : (a :: (ν ++ [x, y])).set (ν.length + 1) z = a :: (ν ++ [z, y]) := by rw [List.set_cons_succ, List.set_append_right _ _ (Nat.le_refl _), Nat.sub_self]; rfl
theorem r2s1 {a x y z : MO} {ν : List MO} : (a :: (ν ++ [x, y])).set (ν.length + 2) z = a :: (ν ++ [x, z]) := by rw [List.set_cons_succ, List.set_append_right _ _ (by omega), show ν.length + 1 - ν.length = 1 by omega]; rfl
theorem cut1 {a : MO} {ν r : List MO} : (a :: (ν ++ r)).take (ν.length + 1) = a :: ν := by rw [List.take_succ_cons, List.take_left]
local macro_rules | `(tactic| walk_at "ix") => `(tactic| first
  | with_reducible exact at0 | with_reducible exact at1 | with_reducible exact at2 | with_reducible exact at3 | with_reducible exact at4 | with_reducible exact at_map (by assumption) | with_reducible exact at_nat (by assumption)
  | exact at0 | exact at1 | exact at2 | exact at3 | exact at4 | exact at_nat (by assumption) | exact at_map (by assumption) | rfl)
local macro_rules | `(tactic| walk_at "b") => `(tactic| first
  | refine ⟨true, rfl, fun _ => ?_, fun hx => tf hx⟩
  | refine ⟨false, rfl, fun hx => ft hx, fun _ => ?_⟩
  | refine ⟨true, rfl, fun hx => ft hx, fun _ => ?_⟩
  | refine ⟨false, rfl, fun _ => ?_, fun hx => tf hx⟩
  | refine ⟨_, rfl, ?_⟩)
local macro_rules | `(tactic| walk_at "t") => `(tactic| first
  | refine ⟨Nat.le_of_ble_eq_true rfl, ?_⟩
  | refine ⟨fun _ => ?_, fun hx => tf hx⟩
  | refine ⟨fun hx => ft hx, fun _ => ?_⟩)
local macro_rules | `(tactic| walk_at "isi") => `(tactic| first
  | refine wC_isi rfl k_ii ?_ | refine wC_isi rfl k_ib ?_ | refine wC_isi rfl k_tt ?_ | refine wC_isi rfl k_tl ?_ | refine wC_isi rfl k_ll ?_ | refine wC_isi rfl k_lt ?_ | refine wC_isi rfl k_sb ?_ | refine wC_isi rfl k_si ?_
  | refine wC_isi rfl k_bb ?_ | refine wC_isi rfl k_bi ?_ | refine wC_isi rfl k_st ?_ | refine wC_isi rfl k_sl ?_ | refine wC_isi rfl k_il ?_ | refine wC_isi rfl k_it ?_
  | refine wC_isi2 rfl k_tl k_tt ?_ | refine wC_isi2 rfl k_ll k_lt ?_ | refine wC_isi2 rfl k_il k_it ?_ | refine wC_isi2 rfl k_sl k_st ?_ | refine wC_isi2 rfl k_ib k_is ?_ | refine wC_isi2 rfl k_sb k_ss ?_)
local macro_rules | `(tactic| walk_at "dE") => `(tactic| first
  | with_reducible refine wE_var rfl ?_ | with_reducible refine wE_op ?_ | with_reducible refine wE_int ?_ | with_reducible refine wE_call ?_ | with_reducible refine wE_str ?_
  | with_reducible refine wE_lenSet ?_ | with_reducible refine wE_sortedSet ?_ | with_reducible refine wE_cb ?_ | with_reducible refine wE_and ?_ | with_reducible refine wE_or ?_ | with_reducible refine wE_not ?_ | with_reducible refine wE_if ?_
  | with_reducible refine wE_tup ?_ | with_reducible refine wE_ty ?_ | with_reducible refine wE_bl ?_ | with_reducible refine wE_non ?_ | with_reducible refine wE_chain ?_ | with_reducible refine wE_un ?_ | with_reducible refine wE_slice ?_)
local macro_rules | `(tactic| walk_at "dS") => `(tactic| first
  | with_reducible refine wS_seq ?_ | with_reducible refine wS_set ?_ | with_reducible refine wS_if ?_ | with_reducible refine wS_drop ?_ | with_reducible refine wS_next ?_ | with_reducible refine wS_ret ?_ | with_reducible refine wS_asg ?_
  | with_reducible refine wS_cont ?_ | with_reducible refine wS_par ?_ | with_reducible refine wS_for ?_)
local macro_rules | `(tactic| walk_at "dT") => `(tactic| first
  | with_reducible refine wT_test ?_ | with_reducible refine wT_B ?_ | with_reducible refine wT_and ?_ | with_reducible refine wT_or ?_ | with_reducible refine wT_not ?_)
local macro_rules | `(tactic| walk_at "dO") => `(tactic| first
  | with_reducible refine wO_int ?_ | with_reducible refine wO_intB ?_ | with_reducible refine wO_eqI ?_ | with_reducible refine wO_eqS ?_ | with_reducible refine wO_neI ?_ | with_reducible refine wO_eqB ?_ | with_reducible refine wO_neB ?_
  | with_reducible refine wO_isN ?_ | with_reducible refine wO_notN ?_ | (refine wO_ixT (by walk_at "ix") ?_))
local macro_rules | `(tactic| walk_at "dC") => `(tactic| first
  | walk_at "isi" | (refine wC_len (.inl rfl) ?_) | with_reducible refine wC_intI ?_ | with_reducible refine wC_intB ?_ | with_reducible refine wC_abs ?_ | with_reducible refine wC_min ?_)
local macro_rules | `(tactic| walk_at "d") => `(tactic| first
  | ((with_reducible refine isE ?_); walk_at "dE")
  | ((with_reducible refine isA ?_); first | with_reducible refine wA_cons ?_ | with_reducible refine wA_nil ?_)
  | ((with_reducible refine isO ?_); walk_at "dO")
  | ((with_reducible refine isS ?_); walk_at "dS")
  | ((with_reducible refine isT ?_); walk_at "dT")
  | ((with_reducible refine isC ?_); walk_at "dC")
  | with_reducible refine wG_name ?_ | ((with_reducible refine isG ?_); refine wG_tup rfl ?_) | with_reducible refine wGs_cons ?_ | with_reducible refine wGs_nil ?_
  | with_reducible refine forL_cons ?_ | with_reducible refine forL_nil ?_
  | with_reducible refine wP_none ?_ | with_reducible refine wP_some ?_)
local macro_rules | `(tactic| walk_at "D") => `(tactic| repeat (first | walk_at "d" | walk_at "t" | walk_at "b"))

section
variable {P : Program} {w : World} {K : PySem.W.Frag} {mg : Str → Option Value} {base : Heap} {cU : Addr}
theorem erase_perm {α : Type} : ∀ {l : List α} {r : Nat} {p : α}, l[r]? = some p → (p :: l.eraseIdx r).Perm l
  | [], r, p, h => by simp at h
  | a :: l, 0, p, h => by
    have : a = p := by simpa using h
    subst this; exact .refl _
  | a :: l, r + 1, p, h => by
    have := erase_perm (l := l) (r := r) (p := p) (by simpa using h)
    rw [List.eraseIdx_cons_succ]
    exact (List.Perm.swap a p _).trans (this.cons a)
theorem erase_map {α β : Type} (f : α → β) : ∀ (l : List α) (r : Nat), (l.map f).eraseIdx r = (l.eraseIdx r).map f
  | [], _ => rfl
  | _ :: _, 0 => rfl
  | a :: l, r + 1 => by rw [List.map_cons, List.eraseIdx_cons_succ, List.eraseIdx_cons_succ, List.map_cons, erase_map f l r]
theorem perm_pop {pool fnd gs : List Spot} {r : Nat} {p : Spot} (h : (pool ++ fnd).Perm gs) (hp : pool[r]? = some p) : (pool.eraseIdx r ++ (fnd ++ [p])).Perm gs := by
  have h1 := erase_perm hp
  have h2 : (pool.eraseIdx r ++ (fnd ++ [p])).Perm (p :: pool.eraseIdx r ++ fnd) := by
    rw [← List.append_assoc]
    exact (List.perm_append_singleton p _)
  exact h2.trans ((h1.append_right fnd).trans h)
def CPick : Con := fun ds μ Φ _ => ∃ (t : List Dt) (ν : List MO) (n : Nat) (gs : List Spot) (c : Nat), ds = [.reg 0, .lst (gs.map spotD), natD c] ∧ μ = .lst t :: ν ∧ TinL t (n + 10) ∧ gs.Nodup ∧ gs.length ≤ 10 ∧
  ∀ (qs : List Spot) (t' : List Dt), (∀ p ∈ qs, p ∈ gs) → qs.Nodup → TinL t' n → Φ (.lst (qs.map spotD)) (.lst t' :: ν)
theorem c__law_pick (T__law_pick : HasFn K mg "_law_pick" s__law_pick ["_law_tin", "_law_goods_so", "_law_count_so"]) (B : Bt mg) (c__law_take : Cal P w K mg base 1 "_law_take" ["_law_tin", "_law_below_so"] (spD cU CTake)) : Cal P w K mg base (1 + 1) "_law_pick" ["_law_tin", "_law_goods_so", "_law_count_so"] (spD cU (CPick)) := by
  refine fnC (1) T__law_pick sc__law_pick (fun ds μ Φ Ψ h => ?_) (fun f cdv A outer s H E hr => ⟨_,
    (pss_cons (ps_par (i := 3) (j := 4) rfl sc__law_pick.nd rfl rfl (by decide) rfl rfl (pa_cons (pe_callTy (listK (K := K)) (by rfl) B.list_ (by decide +kernel) (pa_cons (pv 1) pa_nil)) (pa_cons (pe_lst pa_nil) pa_nil)) (by rfl))
    (pss_cons (ps_for PassesOwn.never rfl (pi_range1 (by rfl) B.range_ (pa_cons (pe_callB (call_min2 rfl) (by rfl) B.min_ (by decide +kernel) (pa_cons (pe_callTy call_int1 (by rfl) B.int_ (by decide +kernel) (pa_cons (pv 2) pa_nil)) (pa_cons (pe_callB (lenK (K := K)) (by rfl) B.len_ (by decide +kernel) (pa_cons (pv 3) pa_nil)) pa_nil))) pa_nil)) (pg_name (i := 5) sc__law_pick.nd rfl (by first | exact Or.inl rfl | exact Or.inr rfl)) (pss_one (ps_expr (pe_bmK (K := K) PySem.F.plainAttrs_list PySem.F.slot_list_append PySem.F.type_list_append mt_append (pv 4) (pa_cons (pe_bmK (K := K) PySem.F.plainAttrs_list PySem.F.slot_list_pop PySem.F.type_list_pop mt_popAt (pv 3) (pa_cons (pe_cal c__law_take (hr.mono (by omega)) (by rfl) (pa_cons (pv 0) (pa_cons (pe_callB (lenK (K := K)) (by rfl) B.len_ (by decide +kernel) (pa_cons (pv 3) pa_nil)) pa_nil))) pa_nil)) pa_nil)))))
    (pss_one (ps_ret (pv 4))))), fun ds μ Φ Ψ h => ?_⟩)
  · obtain ⟨t, ν, n, gs, c, rfl, _⟩ := h; rfl
  · obtain ⟨t, ν, n, gs, c, rfl, rfl, ht, nd, hl, k⟩ := h
    walk_at "D"
    refine wC_listR (.inr rfl) (PuL.map _ pu_spot _) ?_
    walk_at "D"
    refine wE_reg (wA_nil ⟨Nat.zero_le _, .nil, ?_⟩)
    walk_at "D"
    refine ⟨_, _, rfl, ?_⟩
    walk_at "D"
    have e0 : ∀ a b : MO, (MO.lst t :: ν ++ [a] ++ [b]) = .lst t :: (ν ++ [a, b]) := fun a b => by simp
    have e1 : (MO.lst t :: ν).length = ν.length + 1 := rfl
    have e2 : ∀ a : MO, (MO.lst t :: ν ++ [a]).length = ν.length + 2 := fun a => by simp
    rw [e0, e2, e1]
    refine wI_rng ?_
    walk_at "D"
    refine wC_len (.inr (lstOf_reg r2_0)) ?_
    walk_at "D"
    have lm : ((gs.map spotD).length : Int) = gs.length := by rw [List.length_map]
    rw [lm]
    refine ⟨by split <;> omega, by split <;> omega, ?_⟩
    have hr2 : ∃ m : Nat, (if (gs.length : Int) < (c : Int) then (gs.length : Int) else (c : Int)).toNat = m ∧ m ≤ gs.length := ⟨_, rfl, by split <;> omega⟩
    obtain ⟨m, em, hm⟩ := hr2
    rw [em]
    refine forL_inv (fun i δ' μ' => ∃ a5 pool fnd t', δ' = [some (.reg 0), some (.lst (gs.map spotD)), some (natD c), some (.reg (ν.length + 1)), some (.reg (ν.length + 2)), a5] ∧ μ' = .lst t' :: (ν ++ [.lst (pool.map spotD), .lst (fnd.map spotD)]) ∧
      TinL t' (n + 10 - i) ∧ (pool ++ fnd).Perm gs ∧ fnd.length = i) 0 ⟨none, gs, [], t, rfl, rfl, ht, by rw [List.append_nil], rfl⟩ (fun i d δ' μ' hi hI => ?_) (fun δ' μ' hI => ?_)
    · obtain ⟨a5, pool, fnd, t', rfl, rfl, ht', hp, hf⟩ := hI
      rw [Nat.zero_add] at hf ht'
      have him : i < m := by have := (List.getElem?_eq_some_iff.mp hi).1; rw [rng_len] at this; exact this
      have hpl : pool.length + fnd.length = gs.length := by have := hp.length_eq; rwa [List.length_append] at this
      simp only [Nat.zero_add]
      walk_at "D"
      refine wE_bm ?_
      walk_at "D"
      refine ⟨⟨_, lstOf_reg r2_1⟩, ?_⟩
      walk_at "D"
      refine wE_bm ?_
      walk_at "D"
      refine ⟨⟨_, lstOf_reg r2_0⟩, ?_⟩
      walk_at "D"
      refine wC_len (.inr (lstOf_reg r2_0)) ?_
      walk_at "D"
      refine ⟨t', _, n + 10 - (i + 1), pool.length, (by rw [List.length_map]), rfl, by rw [show n + 10 - (i + 1) + 1 = n + 10 - i by omega]; exact ht', by omega, by omega, fun r t2 hrl ht2 => ?_⟩
      walk_at "D"
      have hrp : pool[r]? = some pool[r] := List.getElem?_eq_getElem hrl
      refine wM_popAt r2_0 rfl (by rw [List.length_map]; omega) (by rw [List.getElem?_map, hrp]; rfl) ?_
      rw [r2s0]
      walk_at "D"
      refine wM_append r2_1 (by rw [List.length_map]; omega) (pu_spot _) ?_
      rw [r2s1]
      exact ⟨_, pool.eraseIdx r, fnd ++ [pool[r]], t2, rfl, by rw [erase_map, List.map_append]; rfl, ht2, perm_pop hp hrp, by rw [List.length_append, hf]; rfl⟩
    · obtain ⟨a5, pool, fnd, t', rfl, rfl, ht', hp, hf⟩ := hI
      rw [Nat.zero_add, rng_len] at ht'
      walk_at "D"
      refine .frz (j := ν.length + 2) (by show ν.length + 1 ≤ _; omega) r2_1 ?_
      rw [cut1]
      refine k fnd t' (fun p hp' => hp.mem_iff.mp (List.mem_append_right _ hp')) ?_ (ht'.mono (by omega))
      have := hp.nodup_iff.mpr nd
      exact (List.nodup_append.mp this).2.1
end
end PB
namespace PB
open PySem PySem.Spec PyProof.Rows L2 DL
local macro_rules | `(tactic| walk_at "ix") => `(tactic| first
  | with_reducible exact at0 | with_reducible exact at1 | with_reducible exact at2 | with_reducible exact at3 | with_reducible exact at4 | with_reducible exact at_map (by assumption) | with_reducible exact at_nat (by assumption)
  | exact at0 | exact at1 | exact at2 | exact at3 | exact at4 | exact at_nat (by assumption) | exact at_map (by assumption) | rfl)
local macro_rules | `(tactic| walk_at "b") => `(tactic| first
  | refine ⟨true, rfl, fun _ => ?_, fun hx => tf hx⟩
  | refine ⟨false, rfl, fun hx => ft hx, fun _ => ?_⟩
  | refine ⟨true, rfl, fun hx => ft hx, fun _ => ?_⟩
  | refine ⟨false, rfl, fun _ => ?_, fun hx => tf hx⟩
  | refine ⟨_, rfl, ?_⟩)
local macro_rules | `(tactic| walk_at "t") => `(tactic| first
  | refine ⟨Nat.le_of_ble_eq_true rfl, ?_⟩
  | refine ⟨fun _ => ?_, fun hx => tf hx⟩
  | refine ⟨fun hx => ft hx, fun _ => ?_⟩)
local macro_rules | `(tactic| walk_at "isi") => `(tactic| first
  | refine wC_isi rfl k_ii ?_ | refine wC_isi rfl k_ib ?_ | refine wC_isi rfl k_tt ?_ | refine wC_isi rfl k_tl ?_ | refine wC_isi rfl k_ll ?_ | refine wC_isi rfl k_lt ?_ | refine wC_isi rfl k_sb ?_ | refine wC_isi rfl k_si ?_
  | refine wC_isi rfl k_bb ?_ | refine wC_isi rfl k_bi ?_ | refine wC_isi rfl k_st ?_ | refine wC_isi rfl k_sl ?_ | refine wC_isi rfl k_il ?_ | refine wC_isi rfl k_it ?_
  | refine wC_isi2 rfl k_tl k_tt ?_ | refine wC_isi2 rfl k_ll k_lt ?_ | refine wC_isi2 rfl k_il k_it ?_ | refine wC_isi2 rfl k_sl k_st ?_ | refine wC_isi2 rfl k_ib k_is ?_ | refine wC_isi2 rfl k_sb k_ss ?_)
local macro_rules | `(tactic| walk_at "dE") => `(tactic| first
  | with_reducible refine wE_var rfl ?_ | with_reducible refine wE_op ?_ | with_reducible refine wE_int ?_ | with_reducible refine wE_call ?_ | with_reducible refine wE_str ?_
  | with_reducible refine wE_lenSet ?_ | with_reducible refine wE_sortedSet ?_ | with_reducible refine wE_cb ?_ | with_reducible refine wE_and ?_ | with_reducible refine wE_or ?_ | with_reducible refine wE_not ?_ | with_reducible refine wE_if ?_
  | with_reducible refine wE_tup ?_ | with_reducible refine wE_ty ?_ | with_reducible refine wE_bl ?_ | with_reducible refine wE_non ?_ | with_reducible refine wE_chain ?_ | with_reducible refine wE_un ?_ | with_reducible refine wE_slice ?_)
local macro_rules | `(tactic| walk_at "dS") => `(tactic| first
  | with_reducible refine wS_seq ?_ | with_reducible refine wS_set ?_ | with_reducible refine wS_if ?_ | with_reducible refine wS_drop ?_ | with_reducible refine wS_next ?_ | with_reducible refine wS_ret ?_ | with_reducible refine wS_asg ?_
  | with_reducible refine wS_cont ?_ | with_reducible refine wS_par ?_ | with_reducible refine wS_for ?_)
local macro_rules | `(tactic| walk_at "dT") => `(tactic| first
  | with_reducible refine wT_test ?_ | with_reducible refine wT_B ?_ | with_reducible refine wT_and ?_ | with_reducible refine wT_or ?_ | with_reducible refine wT_not ?_)
local macro_rules | `(tactic| walk_at "dO") => `(tactic| first
  | with_reducible refine wO_int ?_ | with_reducible refine wO_intB ?_ | with_reducible refine wO_eqI ?_ | with_reducible refine wO_eqS ?_ | with_reducible refine wO_neI ?_ | with_reducible refine wO_eqB ?_ | with_reducible refine wO_neB ?_
  | with_reducible refine wO_isN ?_ | with_reducible refine wO_notN ?_ | (refine wO_ixT (by walk_at "ix") ?_))
local macro_rules | `(tactic| walk_at "dC") => `(tactic| first
  | walk_at "isi" | (refine wC_len (.inl rfl) ?_) | with_reducible refine wC_intI ?_ | with_reducible refine wC_intB ?_ | with_reducible refine wC_abs ?_ | with_reducible refine wC_min ?_)
local macro_rules | `(tactic| walk_at "d") => `(tactic| first
  | ((with_reducible refine isE ?_); walk_at "dE")
  | ((with_reducible refine isA ?_); first | with_reducible refine wA_cons ?_ | with_reducible refine wA_nil ?_)
  | ((with_reducible refine isO ?_); walk_at "dO")
  | ((with_reducible refine isS ?_); walk_at "dS")
  | ((with_reducible refine isT ?_); walk_at "dT")
  | ((with_reducible refine isC ?_); walk_at "dC")
  | with_reducible refine wG_name ?_ | ((with_reducible refine isG ?_); refine wG_tup rfl ?_) | with_reducible refine wGs_cons ?_ | with_reducible refine wGs_nil ?_
  | with_reducible refine forL_cons ?_ | with_reducible refine forL_nil ?_
  | with_reducible refine wP_none ?_ | with_reducible refine wP_some ?_)
local macro_rules | `(tactic| walk_at "D") => `(tactic| repeat (first | walk_at "d" | walk_at "t" | walk_at "b"))

section
variable {P : Program} {w : World} {K : PySem.W.Frag} {mg : Str → Option Value} {base : Heap} {cU : Addr}
theorem py_spots : ∀ l : List Spot, ∃ ps, PyL 3 (l.map spotD) ps
  | [] => ⟨_, .nil⟩
  | e :: l => by
    obtain ⟨ps, h⟩ := py_spots l
    exact ⟨_, .cons (py_spot 2 e) h⟩
theorem asc_of {qs : List Spot} (h : (qs.map toI).Pairwise fun a b => SrtO.lexB b a = false) (nd : qs.Nodup) : Asc qs := by
  rw [List.pairwise_map] at h
  unfold Asc
  refine (h.and nd).imp ?_
  rintro a b ⟨h1, h2⟩
  have h3 : ¬ (SrtO.lexB (toI b) (toI a) = true) := by rw [h1]; exact Bool.false_ne_true
  rw [SrtO.lexB_iff] at h3
  unfold toI at h3
  dsimp only at h3
  by_cases e1 : a.1 = b.1
  · by_cases e2 : a.2 = b.2
    · exact absurd (Prod.ext e1 e2) h2
    · omega
  · omega
theorem okSpots.of {sizes els : List Nat} {gs qs : List Spot} (hg : ∀ p ∈ gs, okSpot sizes els p) (hl : gs.length ≤ 10) (hs : ∀ p ∈ qs, p ∈ gs) (nd : qs.Nodup) : okSpots sizes els qs :=
  ⟨fun p hp => hg p (hs p hp), nd, Nat.le_trans (nodup_le nd hs) hl⟩
def CFill : Con := fun ds μ Φ _ => ∃ (t : List Dt) (ν : List MO) (n : Nat) (gs : List Spot) (sizes els : List Nat), ds = [.reg 0, .lst (gs.map spotD)] ∧ μ = .lst t :: ν ∧ TinL t (n + 20) ∧ gs.Nodup ∧ gs.length ≤ 10 ∧ (∀ p ∈ gs, okSpot sizes els p) ∧
  ∀ (f : Fil) (t' : List Dt), okFil sizes els f → TinL t' n → Φ (filD f) (.lst t' :: ν)
theorem c__law_filling (T__law_filling : HasFn K mg "_law_filling" s__law_filling ["_law_tin", "_law_goods_so"]) (B : Bt mg) (c__law_take : Cal P w K mg base 1 "_law_take" ["_law_tin", "_law_below_so"] (spD cU CTake)) (c__law_of : Cal P w K mg base 2 "_law_of" ["_law_tin", "_law_goods_so"] (spD cU COf)) (c__law_pick : Cal P w K mg base 2 "_law_pick" ["_law_tin", "_law_goods_so", "_law_count_so"] (spD cU CPick)) : Cal P w K mg base (3 + 1) "_law_filling" ["_law_tin", "_law_goods_so"] (spD cU (CFill)) := by
  refine fnC (3) T__law_filling sc__law_filling (fun ds μ Φ Ψ h => ?_) (fun f cdv A outer s H E hr => ⟨_,
    (pss_cons (ps_set (i := 2) sc__law_filling.nd rfl (by first | exact Or.inl rfl | exact Or.inr rfl) (pe_ifExp (pt_cmpR (neDK (K := K) hr.units) (pv 1) (pe_lst pa_nil) (nomark _)) (pe_cal c__law_take (hr.mono (by omega)) (by rfl) (pa_cons (pv 0) (pa_cons pe_int pa_nil))) pe_int))
    (pss_cons (ps_if (pt_cmpR op_eq (pv 2) pe_int (nomark _)) (pss_one (ps_ret (pe_tup (pa_cons pe_str pa_nil)))) pss_nil)
    (pss_cons (ps_if (pt_cmpR op_eq (pv 2) pe_int (nomark _)) (pss_one (ps_ret (pe_op (catTK (K := K)) (pe_tup (pa_cons pe_str pa_nil)) (pe_cal c__law_of (hr.mono (by omega)) (by rfl) (pa_cons (pv 0) (pa_cons (pv 1) pa_nil)))))) pss_nil)
    (pss_cons (ps_set (i := 3) sc__law_filling.nd rfl (by first | exact Or.inl rfl | exact Or.inr rfl) (pe_callTy (tupleK (K := K)) (by rfl) B.tuple_ (by decide +kernel) (pa_cons (pe_callB (sortPK (K := K)) (by rfl) B.sorted_ (by decide +kernel) (pa_cons (pe_cal c__law_pick (hr.mono (by omega)) (by rfl) (pa_cons (pv 0) (pa_cons (pv 1) (pa_cons (pe_cal c__law_take (hr.mono (by omega)) (by rfl) (pa_cons (pv 0) (pa_cons pe_int pa_nil))) pa_nil)))) pa_nil)) pa_nil)))
    (pss_one (ps_ret (pe_tup (pa_cons pe_str (pa_cons (pe_cal c__law_take (hr.mono (by omega)) (by rfl) (pa_cons (pv 0) (pa_cons pe_int pa_nil))) (pa_cons (pv 3) pa_nil)))))))))), fun ds μ Φ Ψ h => ?_⟩)
  · obtain ⟨t, ν, n, gs, sizes, els, rfl, _⟩ := h; rfl
  · obtain ⟨t, ν, n, gs, sizes, els, rfl, rfl, ht, nd, hl, hok, k⟩ := h
    obtain ⟨ps, hps⟩ := py_spots gs
    refine wS_seq (wS_set (wE_mono (Ψ := fun d μ1 => ∃ (r : Nat) (t1 : List Dt), d = natD r ∧ μ1 = .lst t1 :: ν ∧ (r < 2 → gs ≠ []) ∧ TinL t1 (n + 19)) ?_ ?_))
    · walk_at "D"
      refine wE_lst (wA_nil ⟨Nat.zero_le _, ?_⟩)
      refine wO_neNil rfl hps (by decide) ?_
      refine ⟨_, rfl, ?_⟩
      refine ⟨fun e => ?_, fun e => ?_⟩
      · walk_at "D"
        refine ⟨t, ν, n + 19, 4, rfl, rfl, ht, by decide, by decide, fun r t1 hr ht1 => ⟨r, t1, rfl, rfl, fun _ h0 => ?_, ht1⟩⟩
        rw [h0] at e; cases e
      · walk_at "D"
        exact ⟨3, t, rfl, rfl, fun h0 => absurd h0 (by decide), ht.mono (by omega)⟩
    rintro d μ1 ⟨r, t1, rfl, rfl, hr, ht1⟩
    walk_at "D"
    by_cases h0 : r = 0
    · subst h0
      refine pt rfl ?_
      walk_at "D"
      exact .same (k .none t1 trivial (ht1.mono (by omega)))
    refine pf (df (by omega)) ?_
    walk_at "D"
    by_cases h1 : r = 1
    · subst h1
      refine pt rfl ?_
      walk_at "D"
      refine ⟨t1, ν, n + 18, gs.map spotD, rfl, rfl, ht1, ?_, by rw [List.length_map]; omega, fun e t2 he ht2 => ?_⟩
      · intro h
        exact hr (by decide) (by simpa using h)
      · obtain ⟨p, hp, rfl⟩ := List.mem_map.mp he
        refine wO_catT (by simp) (.same ?_)
        exact k (.kept p.1 p.2) t2 (hok p hp) (ht2.mono (by omega))
    refine pf (df (by omega)) ?_
    walk_at "D"
    refine ⟨t1, ν, n + 18, 3, rfl, rfl, ht1, by decide, by decide, fun c t2 hc ht2 => ?_⟩
    walk_at "D"
    refine ⟨t2, ν, n + 8, gs, c, rfl, rfl, ht2.mono (by omega), nd, hl, fun qs t3 hs qn ht3 => ?_⟩
    walk_at "D"
    refine wC_sortedP (ps := qs.map toI) (by rw [map_toI]; rfl) fun zs hz hw => ?_
    obtain ⟨qs', rfl, hp⟩ := perm_toI hz
    rw [map_toI]
    walk_at "D"
    refine wC_tuple rfl ?_
    walk_at "D"
    refine ⟨t3, ν, n, 5, rfl, rfl, ht3.mono (by omega), by decide, by decide, fun x t4 hx ht4 => ?_⟩
    walk_at "D"
    have qn' := hp.nodup_iff.mpr qn
    exact .same (k (.new (x : Int) qs') t4 ⟨by omega, .of hok hl (fun p h => hs p (hp.mem_iff.mp h)) qn', asc_of hw qn'⟩ ht4)
end
end PB
namespace PB
open PySem PySem.Spec PyProof.Rows L2 DL
theorem comp_inv {g : TG} {te : TE} {δ : Sl} {Φ : List Dt → List MO → Prop} (I : Nat → List Dt → List MO → Prop) : ∀ {items acc : List Dt} {μ : List MO} (n : Nat) (h0 : I n acc μ)
    (h : ∀ (i : Nat) (d : Dt) (acc : List Dt) (μ : List MO), items[i]? = some d → I (n + i) acc μ → wG g d δ (μ ++ [.lst acc]) fun δ1 μ1 => wE te δ1 μ1 fun e μ3 => ∃ μ4, μ3 = μ4 ++ [.lst acc] ∧ μ4.length = μ.length ∧ Pu e ∧ I (n + i + 1) (acc ++ [e]) μ4)
    (k : ∀ acc μ, I (n + items.length) acc μ → Φ acc μ), CompL g tYes te δ Φ items acc μ
  | [], acc, μ, n, h0, h, k => k acc μ h0
  | d :: ds, acc, μ, n, h0, h, k => by
    intro σ H α v Q R D q
    refine h 0 d acc μ rfl h0 σ H α v Q R D fun σ' H' α' δ' μ' nn R' w => q σ' H' α' δ' μ' nn R' (wT_yes ⟨fun _ => wE_mono w ?_, fun z => tf z⟩)
    rintro e μ3 ⟨μ4, rfl, hl, pu, hI⟩
    refine ⟨μ4, rfl, hl, pu, comp_inv I (n + 1) hI (fun i d' acc' μ' hi hI' => ?_) (fun acc' μ' hI' => k acc' μ' ?_)⟩
    · have := h (i + 1) d' acc' μ' (by rw [List.getElem?_cons_succ]; exact hi) (by rw [show n + (i + 1) = n + 1 + i by omega]; exact hI')
      rwa [show n + (i + 1) = n + 1 + i by omega] at this
    · rw [List.length_cons, show n + (ds.length + 1) = n + 1 + ds.length by omega]; exact hI'
def okFirst (c : Craft) : Prop := ∃ r, c.rows[0]? = some r ∧ r.el = []
def CHouse : Con := fun ds μ Φ _ => ∃ (t : List Dt) (ν : List MO) (n : Nat), ds = [.reg 0] ∧ μ = .lst t :: ν ∧ TinL t (n + 500) ∧ ∀ (c : Craft) (t' : List Dt), okCraft c → okFirst c → TinL t' n → Φ (craftD c) (.lst t' :: ν)
theorem sp00 {el : List Nat} {z : Nat} {r : List Nat} (h : 0 < z) : okSpot (z :: r) (0 :: el) (0, 0) := ⟨0, z, rfl, rfl, h⟩
theorem okNone (sizes els : List Nat) : okSpots sizes els [] := ⟨fun _ h => (nomatch h), .nil, Nat.zero_le _⟩
theorem wM_app1 {a : MO} {ν : List MO} {ds : List Dt} {d : Dt} {Φ : DK} (hl : ds.length ≤ 100000) (p : Pu d) (k : Φ .non (a :: (ν ++ [.lst (ds ++ [d])]))) : wM rAppend (.reg (ν.length + 1)) [d] (a :: (ν ++ [.lst ds])) Φ := by
  refine wM_append r1_0 hl p ?_
  rw [r1s]; exact k
theorem wM_app2 {a b : MO} {ν : List MO} {ds : List Dt} {d : Dt} {Φ : DK} (hl : ds.length ≤ 100000) (p : Pu d) (k : Φ .non (a :: (ν ++ [b, .lst (ds ++ [d])]))) : wM rAppend (.reg (ν.length + 2)) [d] (a :: (ν ++ [b, .lst ds])) Φ := by
  refine wM_append r2_1 hl p ?_
  rw [r2s1]; exact k
local macro_rules | `(tactic| walk_at "ix") => `(tactic| first
  | with_reducible exact at0 | with_reducible exact at1 | with_reducible exact at2 | with_reducible exact at3 | with_reducible exact at4 | with_reducible exact at_map (by assumption) | with_reducible exact at_nat (by assumption)
  | exact at0 | exact at1 | exact at2 | exact at3 | exact at4 | exact at_nat (by assumption) | exact at_map (by assumption) | rfl)
local macro_rules | `(tactic| walk_at "b") => `(tactic| first
  | refine ⟨true, rfl, fun _ => ?_, fun hx => tf hx⟩
  | refine ⟨false, rfl, fun hx => ft hx, fun _ => ?_⟩
  | refine ⟨true, rfl, fun hx => ft hx, fun _ => ?_⟩
  | refine ⟨false, rfl, fun _ => ?_, fun hx => tf hx⟩
  | refine ⟨_, rfl, ?_⟩)
local macro_rules | `(tactic| walk_at "t") => `(tactic| first
  | refine ⟨Nat.le_of_ble_eq_true rfl, ?_⟩
  | refine ⟨fun _ => ?_, fun hx => tf hx⟩
  | refine ⟨fun hx => ft hx, fun _ => ?_⟩)
local macro_rules | `(tactic| walk_at "isi") => `(tactic| first
  | refine wC_isi rfl k_ii ?_ | refine wC_isi rfl k_ib ?_ | refine wC_isi rfl k_tt ?_ | refine wC_isi rfl k_tl ?_ | refine wC_isi rfl k_ll ?_ | refine wC_isi rfl k_lt ?_ | refine wC_isi rfl k_sb ?_ | refine wC_isi rfl k_si ?_
  | refine wC_isi rfl k_bb ?_ | refine wC_isi rfl k_bi ?_ | refine wC_isi rfl k_st ?_ | refine wC_isi rfl k_sl ?_ | refine wC_isi rfl k_il ?_ | refine wC_isi rfl k_it ?_
  | refine wC_isi2 rfl k_tl k_tt ?_ | refine wC_isi2 rfl k_ll k_lt ?_ | refine wC_isi2 rfl k_il k_it ?_ | refine wC_isi2 rfl k_sl k_st ?_ | refine wC_isi2 rfl k_ib k_is ?_ | refine wC_isi2 rfl k_sb k_ss ?_)
local macro_rules | `(tactic| walk_at "dE") => `(tactic| first
  | with_reducible refine wE_var rfl ?_ | with_reducible refine wE_op ?_ | with_reducible refine wE_int ?_ | with_reducible refine wE_call ?_ | with_reducible refine wE_str ?_
  | with_reducible refine wE_lenSet ?_ | with_reducible refine wE_sortedSet ?_ | with_reducible refine wE_cb ?_ | with_reducible refine wE_and ?_ | with_reducible refine wE_or ?_ | with_reducible refine wE_not ?_ | with_reducible refine wE_if ?_
  | with_reducible refine wE_tup ?_ | with_reducible refine wE_ty ?_ | with_reducible refine wE_bl ?_ | with_reducible refine wE_non ?_ | with_reducible refine wE_chain ?_ | with_reducible refine wE_un ?_ | with_reducible refine wE_slice ?_)
local macro_rules | `(tactic| walk_at "dS") => `(tactic| first
  | with_reducible refine wS_seq ?_ | with_reducible refine wS_set ?_ | with_reducible refine wS_if ?_ | with_reducible refine wS_drop ?_ | with_reducible refine wS_next ?_ | with_reducible refine wS_ret ?_ | with_reducible refine wS_asg ?_
  | with_reducible refine wS_cont ?_ | with_reducible refine wS_par ?_ | with_reducible refine wS_for ?_)
local macro_rules | `(tactic| walk_at "dT") => `(tactic| first
  | with_reducible refine wT_test ?_ | with_reducible refine wT_B ?_ | with_reducible refine wT_and ?_ | with_reducible refine wT_or ?_ | with_reducible refine wT_not ?_)
local macro_rules | `(tactic| walk_at "dO") => `(tactic| first
  | with_reducible refine wO_int ?_ | with_reducible refine wO_intB ?_ | with_reducible refine wO_eqI ?_ | with_reducible refine wO_eqS ?_ | with_reducible refine wO_neI ?_ | with_reducible refine wO_eqB ?_ | with_reducible refine wO_neB ?_
  | with_reducible refine wO_isN ?_ | with_reducible refine wO_notN ?_ | (refine wO_ixT (by walk_at "ix") ?_))
local macro_rules | `(tactic| walk_at "dC") => `(tactic| first
  | walk_at "isi" | (refine wC_len (.inl rfl) ?_) | with_reducible refine wC_intI ?_ | with_reducible refine wC_intB ?_ | with_reducible refine wC_abs ?_ | with_reducible refine wC_min ?_)
local macro_rules | `(tactic| walk_at "d") => `(tactic| first
  | ((with_reducible refine isE ?_); walk_at "dE")
  | ((with_reducible refine isA ?_); first | with_reducible refine wA_cons ?_ | with_reducible refine wA_nil ?_)
  | ((with_reducible refine isO ?_); walk_at "dO")
  | ((with_reducible refine isS ?_); walk_at "dS")
  | ((with_reducible refine isT ?_); walk_at "dT")
  | ((with_reducible refine isC ?_); walk_at "dC")
  | with_reducible refine wG_name ?_ | ((with_reducible refine isG ?_); refine wG_tup rfl ?_) | with_reducible refine wGs_cons ?_ | with_reducible refine wGs_nil ?_
  | with_reducible refine forL_cons ?_ | with_reducible refine forL_nil ?_
  | with_reducible refine wP_none ?_ | with_reducible refine wP_some ?_)
local macro_rules | `(tactic| walk_at "D") => `(tactic| repeat (first | walk_at "d" | walk_at "t" | walk_at "b"))

section
variable {P : Program} {w : World} {K : PySem.W.Frag} {mg : Str → Option Value} {base : Heap} {cU : Addr}
theorem c__law_house_two (T__law_house_two : HasFn K mg "_law_house_two" s__law_house_two ["_law_tin"]) (B : Bt mg) (c__law_take : Cal P w K mg base 1 "_law_take" ["_law_tin", "_law_below_so"] (spD cU CTake)) (c__law_filling : Cal P w K mg base 4 "_law_filling" ["_law_tin", "_law_goods_so"] (spD cU CFill)) (c__law_pick : Cal P w K mg base 2 "_law_pick" ["_law_tin", "_law_goods_so", "_law_count_so"] (spD cU CPick)) : Cal P w K mg base (4 + 1) "_law_house_two" ["_law_tin"] (spD cU (CHouse)) := by
  refine fnC (4) T__law_house_two sc__law_house_two (fun ds μ Φ Ψ h => ?_) (fun f cdv A outer s H E hr => ⟨_,
    (pss_cons (ps_set (i := 1) sc__law_house_two.nd rfl (by first | exact Or.inl rfl | exact Or.inr rfl) (pe_lst (pa_cons (pe_tup (pa_cons (pe_tup pa_nil) (pa_cons (pe_tup pa_nil) (pa_cons (pe_cal c__law_take (hr.mono (by omega)) (by rfl) (pa_cons (pv 0) (pa_cons pe_int pa_nil))) (pa_cons pe_int (pa_cons (pe_tup (pa_cons (pe_tup (pa_cons pe_str (pa_cons (pe_op op_add pe_int (pe_cal c__law_take (hr.mono (by omega)) (by rfl) (pa_cons (pv 0) (pa_cons pe_int pa_nil)))) (pa_cons (pe_tup pa_nil) pa_nil)))) pa_nil)) pa_nil)))))) pa_nil)))
    (pss_cons (ps_set (i := 2) sc__law_house_two.nd rfl (by first | exact Or.inl rfl | exact Or.inr rfl) (pe_lst (pa_cons (pe_tup (pa_cons pe_int (pa_cons pe_int pa_nil))) (pa_cons (pe_tup (pa_cons pe_int (pa_cons pe_int pa_nil))) pa_nil))))
    (pss_cons (ps_set (i := 3) sc__law_house_two.nd rfl (by first | exact Or.inl rfl | exact Or.inr rfl) (pe_callTy (tupleK (K := K)) (by rfl) B.tuple_ (by decide +kernel) (pa_cons (pe_cal c__law_pick (hr.mono (by omega)) (by rfl) (pa_cons (pv 0) (pa_cons (pv 2) (pa_cons (pe_op op_add pe_int (pe_cal c__law_take (hr.mono (by omega)) (by rfl) (pa_cons (pv 0) (pa_cons pe_int pa_nil)))) pa_nil)))) pa_nil)))
    (pss_cons (ps_expr (pe_bmK (K := K) PySem.F.plainAttrs_list PySem.F.slot_list_append PySem.F.type_list_append mt_append (pv 1) (pa_cons (pe_tup (pa_cons (pe_tup (pa_cons pe_int (pa_cons pe_int pa_nil))) (pa_cons (pv 3) (pa_cons (pe_cal c__law_take (hr.mono (by omega)) (by rfl) (pa_cons (pv 0) (pa_cons pe_int pa_nil))) (pa_cons pe_int (pa_cons (pe_tup (pa_cons (pe_cal c__law_filling (hr.mono (by omega)) (by rfl) (pa_cons (pv 0) (pa_cons (pv 2) pa_nil))) pa_nil)) pa_nil)))))) pa_nil)))
    (pss_cons (ps_if (pt_cmpR op_eq (pe_cal c__law_take (hr.mono (by omega)) (by rfl) (pa_cons (pv 0) (pa_cons pe_int pa_nil))) pe_int (nomark _)) (pss_cons (ps_set (i := 3) sc__law_house_two.nd rfl (by first | exact Or.inl rfl | exact Or.inr rfl) (pe_ifExp (pt_cmpR op_eq (pe_cal c__law_take (hr.mono (by omega)) (by rfl) (pa_cons (pv 0) (pa_cons pe_int pa_nil))) pe_int (nomark _)) (pe_tup (pa_cons (pe_tup (pa_cons pe_int (pa_cons pe_int pa_nil))) pa_nil)) (pe_tup pa_nil)))
    (pss_one (ps_expr (pe_bmK (K := K) PySem.F.plainAttrs_list PySem.F.slot_list_append PySem.F.type_list_append mt_append (pv 1) (pa_cons (pe_tup (pa_cons (pe_tup (pa_cons pe_int pa_nil)) (pa_cons (pv 3) (pa_cons pe_int (pa_cons pe_int (pa_cons (pe_tup (pa_cons (pe_cal c__law_filling (hr.mono (by omega)) (by rfl) (pa_cons (pv 0) (pa_cons (pe_slice (sl_listK (K := K)) (pv 2) po_none (po_some pe_int)) pa_nil))) pa_nil)) pa_nil)))))) pa_nil))))) pss_nil)
    (pss_one (ps_ret (pe_tup (pa_cons (pe_tup (pa_cons pe_int pa_nil)) (pa_cons (pe_callTy (tupleK (K := K)) (by rfl) B.tuple_ (by decide +kernel) (pa_cons (pv 1) pa_nil)) pa_nil)))))))))), fun ds μ Φ Ψ h => ?_⟩)
  · obtain ⟨t, ν, n, rfl, _⟩ := h; rfl
  · obtain ⟨t, ν, n, rfl, rfl, ht, k⟩ := h
    have g1 : ∀ p ∈ [((0, 0) : Spot), (1, 0)], okSpot [1] [0, 0] p := fun p hp => by
      rcases List.mem_cons.mp hp with e | hp
      · subst e; exact ⟨0, 1, rfl, rfl, by decide⟩
      rcases List.mem_cons.mp hp with e | hp
      · subst e; exact ⟨0, 1, rfl, rfl, by decide⟩
      · cases hp
    have gd1 : ∀ p ∈ [((0, 0) : Spot)], okSpot [1] [0] p := fun p hp => by
      rcases List.mem_cons.mp hp with e | hp
      · subst e; exact ⟨0, 1, rfl, rfl, by decide⟩
      · cases hp
    walk_at "D"
    refine wE_reg ?_
    walk_at "D"
    refine ⟨t, ν, n + 499, 2, rfl, rfl, ht, by decide, by decide, fun c0 t1 hc0 ht1 => ?_⟩
    walk_at "D"
    refine ⟨t1, ν, n + 498, 6, rfl, rfl, ht1, by decide, by decide, fun x0 t2 hx0 ht2 => ?_⟩
    walk_at "D"
    refine ⟨.cons (pu_row ⟨[], [], (c0 : Int), 0, [.new (1 + (x0 : Int)) []]⟩) .nil, ?_⟩
    walk_at "D"
    have ok0 : okRow [1] ⟨[], [], (c0 : Int), 0, [.new (1 + (x0 : Int)) []]⟩ := ⟨Nat.zero_le 2, fun e he => (nomatch he), okNone _ _, by show (0 : Int) ≤ c0; omega, rfl, fun f hf => by
      rw [List.mem_singleton.mp hf]; exact ⟨by omega, okNone _ _, .nil⟩⟩
    have el2 : ∀ e ∈ [0, 0], e < [1].length := fun e he => by
      rcases List.mem_cons.mp he with h | he
      · subst h; decide
      rcases List.mem_cons.mp he with h | he
      · subst h; decide
      · cases he
    have el1 : ∀ e ∈ [0], e < [1].length := fun e he => by
      rw [List.mem_singleton.mp he]; decide
    have fin : ∀ rs : List Row, (∀ r ∈ rs, okRow [1] r) → rs.length ≤ 2 → (∀ r ∈ rs, r.slots.length ≤ 10) → okCraft ⟨[1], ⟨[], [], (c0 : Int), 0, [.new (1 + (x0 : Int)) []]⟩ :: rs⟩ := fun rs h1 h2 h3 =>
      ⟨Nat.succ_pos 0, Nat.succ_pos _, fun r hr => (by
        rcases List.mem_cons.mp hr with e | hr
        · rw [e]; exact ok0
        · exact h1 r hr), by show rs.length + 1 ≤ 10; omega, (by decide : [1].length ≤ 10), fun r hr => (by
        rcases List.mem_cons.mp hr with e | hr
        · rw [e]; exact (by decide : 1 ≤ 10)
        · exact h3 r hr)⟩
    refine wE_lst ?_
    walk_at "D"
    refine ⟨t2, _, n + 497, 2, rfl, rfl, ht2, by decide, by decide, fun cc t3 hcc ht3 => ?_⟩
    walk_at "D"
    refine ⟨t3, _, n + 480, [(0, 0), (1, 0)], 1 + cc, (by simp), rfl, ht3.mono (by omega), by decide, by decide, fun qs t4 hs qn ht4 => ?_⟩
    walk_at "D"
    refine wC_tuple rfl ?_
    walk_at "D"
    refine wE_bm ?_
    walk_at "D"
    refine ⟨⟨_, lstOf_reg r1_0⟩, ?_⟩
    walk_at "D"
    refine ⟨t4, _, n + 479, 2, rfl, rfl, ht4, by decide, by decide, fun c1 t5 hc1 ht5 => ?_⟩
    walk_at "D"
    refine ⟨t5, _, n + 450, [(0, 0), (1, 0)], [1], [0, 0], rfl, rfl, ht5.mono (by omega), by decide, by decide, g1, fun f1 t6 hf1 ht6 => ?_⟩
    walk_at "D"
    have ok1 : okRow [1] ⟨[0, 0], qs, (c1 : Int), 0, [f1]⟩ := ⟨Nat.le_refl 2, el2, .of g1 (by decide) hs qn, by show (0 : Int) ≤ c1; omega, rfl, fun f hf => by rw [List.mem_singleton.mp hf]; exact hf1⟩
    refine wM_app1 (by simp) (pu_row ⟨[0, 0], qs, (c1 : Int), 0, [f1]⟩) ?_
    walk_at "D"
    refine ⟨t6, _, n + 449, 2, rfl, rfl, ht6.mono (by omega), by decide, by decide, fun x7 t7 hx7 ht7 => ?_⟩
    walk_at "D"
    by_cases h7 : x7 = 0
    · subst h7
      refine pt rfl ?_
      refine wS_seq (wS_set (wE_mono (Ψ := fun d μ1 => ∃ (ls : List Spot) (t8 : List Dt), d = .tup (ls.map spotD) ∧ μ1 = .lst t8 :: (ν ++ [.lst [rowD ⟨[], [], (c0 : Int), 0, [.new (1 + (x0 : Int)) []]⟩, rowD ⟨[0, 0], qs, (c1 : Int), 0, [f1]⟩]]) ∧ (∀ p ∈ ls, p ∈ [((0, 0) : Spot)]) ∧ ls.Nodup ∧ TinL t8 (n + 447)) ?_ ?_))
      · walk_at "D"
        refine ⟨t7, _, n + 448, 3, rfl, rfl, ht7, by decide, by decide, fun x8 t8 hx8 ht8 => ?_⟩
        walk_at "D"
        by_cases h8 : x8 = 0
        · subst h8
          refine pt rfl ?_
          walk_at "D"
          exact ⟨[(0, 0)], t8, rfl, rfl, fun _ h => h, by decide, ht8.mono (by omega)⟩
        · refine pf (df (by omega)) ?_
          walk_at "D"
          exact ⟨[], t8, rfl, rfl, fun _ h => (nomatch h), .nil, ht8.mono (by omega)⟩
      rintro d μ1 ⟨ls, t8, rfl, rfl, hs8, qn8, ht8⟩
      walk_at "D"
      refine wE_bm ?_
      walk_at "D"
      refine ⟨⟨_, lstOf_reg r1_0⟩, ?_⟩
      walk_at "D"
      refine wSl_list rfl ?_
      walk_at "D"
      refine ⟨t8, _, n + 400, [(0, 0)], [1], [0], rfl, rfl, ht8.mono (by omega), by decide, by decide, gd1, fun f2 t9 hf2 ht9 => ?_⟩
      walk_at "D"
      have ok2 : okRow [1] ⟨[0], ls, 0, 0, [f2]⟩ := ⟨Nat.le_succ 1, el1, .of gd1 (by decide) hs8 qn8, Int.le_refl 0, rfl, fun f hf => by rw [List.mem_singleton.mp hf]; exact hf2⟩
      refine wM_app1 (by simp) (pu_row ⟨[0], ls, 0, 0, [f2]⟩) ?_
      walk_at "D"
      refine wC_tuple (lstOf_reg r1_0) ?_
      walk_at "D"
      refine .cut (pu_craft ⟨[1], [⟨[], [], (c0 : Int), 0, [.new (1 + (x0 : Int)) []]⟩, ⟨[0, 0], qs, (c1 : Int), 0, [f1]⟩, ⟨[0], ls, 0, 0, [f2]⟩]⟩) ?_
      refine Eq.mp (congrArg _ cut1.symm) ?_
      refine k _ t9 (fin [⟨[0, 0], qs, (c1 : Int), 0, [f1]⟩, ⟨[0], ls, 0, 0, [f2]⟩] (fun r hr => ?_) (by simp) (fun r hr => ?_)) ⟨_, rfl, rfl⟩ (ht9.mono (by omega))
      · rcases List.mem_cons.mp hr with e | hr
        · rw [e]; exact ok1
        · rw [List.mem_singleton.mp hr]; exact ok2
      · rcases List.mem_cons.mp hr with e | hr
        · rw [e]; exact (by decide : 1 ≤ 10)
        · rw [List.mem_singleton.mp hr]; exact (by decide : 1 ≤ 10)
    · refine pf (df (by omega)) ?_
      walk_at "D"
      refine wC_tuple (lstOf_reg r1_0) ?_
      walk_at "D"
      refine .cut (pu_craft ⟨[1], [⟨[], [], (c0 : Int), 0, [.new (1 + (x0 : Int)) []]⟩, ⟨[0, 0], qs, (c1 : Int), 0, [f1]⟩]⟩) ?_
      refine Eq.mp (congrArg _ cut1.symm) ?_
      exact k _ t7 (fin [⟨[0, 0], qs, (c1 : Int), 0, [f1]⟩] (fun r hr => by rw [List.mem_singleton.mp hr]; exact ok1) (by simp) (fun r hr => by rw [List.mem_singleton.mp hr]; exact (by decide : 1 ≤ 10))) ⟨_, rfl, rfl⟩ (ht7.mono (by omega))
end
end PB
namespace PB
open PySem PySem.Spec PyProof.Rows L2 DL
local macro_rules | `(tactic| walk_at "ix") => `(tactic| first
  | with_reducible exact at0 | with_reducible exact at1 | with_reducible exact at2 | with_reducible exact at3 | with_reducible exact at4 | with_reducible exact at_map (by assumption) | with_reducible exact at_nat (by assumption)
  | exact at0 | exact at1 | exact at2 | exact at3 | exact at4 | exact at_nat (by assumption) | exact at_map (by assumption) | rfl)
local macro_rules | `(tactic| walk_at "b") => `(tactic| first
  | refine ⟨true, rfl, fun _ => ?_, fun hx => tf hx⟩
  | refine ⟨false, rfl, fun hx => ft hx, fun _ => ?_⟩
  | refine ⟨true, rfl, fun hx => ft hx, fun _ => ?_⟩
  | refine ⟨false, rfl, fun _ => ?_, fun hx => tf hx⟩
  | refine ⟨_, rfl, ?_⟩)
local macro_rules | `(tactic| walk_at "t") => `(tactic| first
  | refine ⟨Nat.le_of_ble_eq_true rfl, ?_⟩
  | refine ⟨fun _ => ?_, fun hx => tf hx⟩
  | refine ⟨fun hx => ft hx, fun _ => ?_⟩)
local macro_rules | `(tactic| walk_at "isi") => `(tactic| first
  | refine wC_isi rfl k_ii ?_ | refine wC_isi rfl k_ib ?_ | refine wC_isi rfl k_tt ?_ | refine wC_isi rfl k_tl ?_ | refine wC_isi rfl k_ll ?_ | refine wC_isi rfl k_lt ?_ | refine wC_isi rfl k_sb ?_ | refine wC_isi rfl k_si ?_
  | refine wC_isi rfl k_bb ?_ | refine wC_isi rfl k_bi ?_ | refine wC_isi rfl k_st ?_ | refine wC_isi rfl k_sl ?_ | refine wC_isi rfl k_il ?_ | refine wC_isi rfl k_it ?_
  | refine wC_isi2 rfl k_tl k_tt ?_ | refine wC_isi2 rfl k_ll k_lt ?_ | refine wC_isi2 rfl k_il k_it ?_ | refine wC_isi2 rfl k_sl k_st ?_ | refine wC_isi2 rfl k_ib k_is ?_ | refine wC_isi2 rfl k_sb k_ss ?_)
local macro_rules | `(tactic| walk_at "dE") => `(tactic| first
  | with_reducible refine wE_var rfl ?_ | with_reducible refine wE_op ?_ | with_reducible refine wE_int ?_ | with_reducible refine wE_call ?_ | with_reducible refine wE_str ?_
  | with_reducible refine wE_lenSet ?_ | with_reducible refine wE_sortedSet ?_ | with_reducible refine wE_cb ?_ | with_reducible refine wE_and ?_ | with_reducible refine wE_or ?_ | with_reducible refine wE_not ?_ | with_reducible refine wE_if ?_
  | with_reducible refine wE_tup ?_ | with_reducible refine wE_ty ?_ | with_reducible refine wE_bl ?_ | with_reducible refine wE_non ?_ | with_reducible refine wE_chain ?_ | with_reducible refine wE_un ?_ | with_reducible refine wE_slice ?_)
local macro_rules | `(tactic| walk_at "dS") => `(tactic| first
  | with_reducible refine wS_seq ?_ | with_reducible refine wS_set ?_ | with_reducible refine wS_if ?_ | with_reducible refine wS_drop ?_ | with_reducible refine wS_next ?_ | with_reducible refine wS_ret ?_ | with_reducible refine wS_asg ?_
  | with_reducible refine wS_cont ?_ | with_reducible refine wS_par ?_ | with_reducible refine wS_for ?_)
local macro_rules | `(tactic| walk_at "dT") => `(tactic| first
  | with_reducible refine wT_test ?_ | with_reducible refine wT_B ?_ | with_reducible refine wT_and ?_ | with_reducible refine wT_or ?_ | with_reducible refine wT_not ?_)
local macro_rules | `(tactic| walk_at "dO") => `(tactic| first
  | with_reducible refine wO_int ?_ | with_reducible refine wO_intB ?_ | with_reducible refine wO_eqI ?_ | with_reducible refine wO_eqS ?_ | with_reducible refine wO_neI ?_ | with_reducible refine wO_eqB ?_ | with_reducible refine wO_neB ?_
  | with_reducible refine wO_isN ?_ | with_reducible refine wO_notN ?_ | (refine wO_ixT (by walk_at "ix") ?_))
local macro_rules | `(tactic| walk_at "dC") => `(tactic| first
  | walk_at "isi" | (refine wC_len (.inl rfl) ?_) | with_reducible refine wC_intI ?_ | with_reducible refine wC_intB ?_ | with_reducible refine wC_abs ?_ | with_reducible refine wC_min ?_)
local macro_rules | `(tactic| walk_at "d") => `(tactic| first
  | ((with_reducible refine isE ?_); walk_at "dE")
  | ((with_reducible refine isA ?_); first | with_reducible refine wA_cons ?_ | with_reducible refine wA_nil ?_)
  | ((with_reducible refine isO ?_); walk_at "dO")
  | ((with_reducible refine isS ?_); walk_at "dS")
  | ((with_reducible refine isT ?_); walk_at "dT")
  | ((with_reducible refine isC ?_); walk_at "dC")
  | with_reducible refine wG_name ?_ | ((with_reducible refine isG ?_); refine wG_tup rfl ?_) | with_reducible refine wGs_cons ?_ | with_reducible refine wGs_nil ?_
  | with_reducible refine forL_cons ?_ | with_reducible refine forL_nil ?_
  | with_reducible refine wP_none ?_ | with_reducible refine wP_some ?_)
local macro_rules | `(tactic| walk_at "D") => `(tactic| repeat (first | walk_at "d" | walk_at "t" | walk_at "b"))

section
variable {P : Program} {w : World} {K : PySem.W.Frag} {mg : Str → Option Value} {base : Heap} {cU : Addr}
def szs : Bool → List Nat
  | true => [2, 1]
  | false => [2]
theorem c__law_house_one (T__law_house_one : HasFn K mg "_law_house_one" s__law_house_one ["_law_tin"]) (B : Bt mg) (c__law_take : Cal P w K mg base 1 "_law_take" ["_law_tin", "_law_below_so"] (spD cU CTake)) (c__law_filling : Cal P w K mg base 4 "_law_filling" ["_law_tin", "_law_goods_so"] (spD cU CFill)) (c__law_pick : Cal P w K mg base 2 "_law_pick" ["_law_tin", "_law_goods_so", "_law_count_so"] (spD cU CPick)) : Cal P w K mg base (4 + 1) "_law_house_one" ["_law_tin"] (spD cU (CHouse)) := by
  refine fnC (4) T__law_house_one sc__law_house_one (fun ds μ Φ Ψ h => ?_) (fun f cdv A outer s H E hr => ⟨_,
    (pss_cons (ps_set (i := 1) sc__law_house_one.nd rfl (by first | exact Or.inl rfl | exact Or.inr rfl) (pe_cmpR op_eq (pe_cal c__law_take (hr.mono (by omega)) (by rfl) (pa_cons (pv 0) (pa_cons pe_int pa_nil))) pe_int (nomark _)))
    (pss_cons (ps_set (i := 2) sc__law_house_one.nd rfl (by first | exact Or.inl rfl | exact Or.inr rfl) (pe_ifExp (pt_val (pv 1)) (pe_tup (pa_cons pe_int (pa_cons pe_int pa_nil))) (pe_tup (pa_cons pe_int pa_nil))))
    (pss_cons (ps_set (i := 3) sc__law_house_one.nd rfl (by first | exact Or.inl rfl | exact Or.inr rfl) (pe_lst (pa_cons (pe_tup (pa_cons pe_str (pa_cons (pe_op op_add pe_int (pe_cal c__law_take (hr.mono (by omega)) (by rfl) (pa_cons (pv 0) (pa_cons pe_int pa_nil)))) (pa_cons (pe_tup pa_nil) pa_nil)))) (pa_cons (pe_cal c__law_filling (hr.mono (by omega)) (by rfl) (pa_cons (pv 0) (pa_cons (pe_lst pa_nil) pa_nil))) pa_nil))))
    (pss_cons (ps_if (pt_cmpR op_eq (pe_cal c__law_take (hr.mono (by omega)) (by rfl) (pa_cons (pv 0) (pa_cons pe_int pa_nil))) pe_int (nomark _)) (pss_one (ps_asg (pe_tup (pa_cons pe_str pa_nil)) (pg_sub (pv 3) pe_int set_list))) pss_nil)
    (pss_cons (ps_set (i := 4) sc__law_house_one.nd rfl (by first | exact Or.inl rfl | exact Or.inr rfl) (pe_lst (pa_cons (pe_tup (pa_cons (pe_tup pa_nil) (pa_cons (pe_tup pa_nil) (pa_cons (pe_cal c__law_take (hr.mono (by omega)) (by rfl) (pa_cons (pv 0) (pa_cons pe_int pa_nil))) (pa_cons pe_int (pa_cons (pe_callTy (tupleK (K := K)) (by rfl) B.tuple_ (by decide +kernel) (pa_cons (pe_ifExp (pt_cmpR op_eq (pe_cal c__law_take (hr.mono (by omega)) (by rfl) (pa_cons (pv 0) (pa_cons pe_int pa_nil))) pe_int (nomark _)) (pe_revK (K := K) (pv 3)) (pv 3)) pa_nil)) pa_nil)))))) pa_nil)))
    (pss_cons (ps_set (i := 5) sc__law_house_one.nd rfl (by first | exact Or.inl rfl | exact Or.inr rfl) (pe_lst (pa_cons (pe_tup (pa_cons pe_int (pa_cons pe_int pa_nil))) (pa_cons (pe_tup (pa_cons pe_int (pa_cons pe_int pa_nil))) pa_nil))))
    (pss_cons (ps_for PassesOwn.never rfl (pi_range1 (by rfl) B.range_ (pa_cons pe_int pa_nil)) (pg_name (i := 6) sc__law_house_one.nd rfl (by first | exact Or.inl rfl | exact Or.inr rfl)) (pss_cons (ps_set (i := 7) sc__law_house_one.nd rfl (by first | exact Or.inl rfl | exact Or.inr rfl) (pe_callTy (tupleK (K := K)) (by rfl) B.tuple_ (by decide +kernel) (pa_cons (pe_cal c__law_pick (hr.mono (by omega)) (by rfl) (pa_cons (pv 0) (pa_cons (pv 5) (pa_cons (pe_ifExp (pt_cmpR op_eq (pv 6) pe_int (nomark _)) (pv 6) (pe_op op_add pe_int (pe_callTy call_int1 (by rfl) B.int_ (by decide +kernel) (pa_cons (pe_cmpR op_eq (pe_cal c__law_take (hr.mono (by omega)) (by rfl) (pa_cons (pv 0) (pa_cons pe_int pa_nil))) pe_int (nomark _)) pa_nil)))) pa_nil)))) pa_nil)))
    (pss_cons (ps_set (i := 8) sc__law_house_one.nd rfl (by first | exact Or.inl rfl | exact Or.inr rfl) (pe_ifExp (PW.pt (pw_and (pt_val (pv 1)) (pw_and1 (pt_cmpR op_eq (pv 6) pe_int (nomark _))))) pe_int pe_int))
    (pss_cons (ps_set (i := 9) sc__law_house_one.nd rfl (by first | exact Or.inl rfl | exact Or.inr rfl) (pe_callTy (tupleK (K := K)) (by rfl) B.tuple_ (by decide +kernel) (pa_cons (pe_lc (own := [("_law_k", 10)]) (g := (gName 10)) rfl sc__law_house_one.nd (pi_range1 (by rfl) B.range_ (pa_cons (pe_ix (ix_tupK (K := K)) (pv 2) (pv 8) (fun _ _ => rfl)) pa_nil)) (blkOk_by (own := [("_law_k", 10)]) (N := ["_law_tin", "_law_wide_so", "_law_sizes_so", "_law_first_so", "_law_lines_so", "_law_goods_so", "_law_lap", "_law_looks_so", "_law_made_so", "_law_slots_so", "_law_k"]) (sc := defScope s__law_house_one) (by decide +kernel)) (fun _ _ _ _ _ => (pg_name (i := 10) sc__law_house_one.nd rfl (by first | exact Or.inl rfl | exact Or.inr rfl))) (fun _ _ _ _ _ => pts_nil) (fun _ _ _ _ _ => (pe_cal c__law_filling (hr.mono (by omega)) (by rfl) (pa_cons (pv 0) (pa_cons (pv 5) pa_nil))))) pa_nil)))
    (pss_one (ps_expr (pe_bmK (K := K) PySem.F.plainAttrs_list PySem.F.slot_list_append PySem.F.type_list_append mt_append (pv 4) (pa_cons (pe_tup (pa_cons (pe_tup (pa_cons pe_int pa_nil)) (pa_cons (pv 7) (pa_cons (pe_cal c__law_take (hr.mono (by omega)) (by rfl) (pa_cons (pv 0) (pa_cons pe_int pa_nil))) (pa_cons (pv 8) (pa_cons (pv 9) pa_nil)))))) pa_nil))))))))
    (pss_one (ps_ret (pe_tup (pa_cons (pv 2) (pa_cons (pe_callTy (tupleK (K := K)) (by rfl) B.tuple_ (by decide +kernel) (pa_cons (pv 4) pa_nil)) pa_nil)))))))))))), fun ds μ Φ Ψ h => ?_⟩)
  · obtain ⟨t, ν, n, rfl, _⟩ := h; rfl
  · obtain ⟨t, ν, n, rfl, rfl, ht, k⟩ := h
    refine wS_seq (wS_set (wE_mono (Ψ := fun d μ1 => ∃ (b : Bool) (t1 : List Dt), d = .bl b ∧ μ1 = .lst t1 :: ν ∧ TinL t1 (n + 499)) ?_ ?_))
    · walk_at "D"
      refine ⟨t, ν, n + 499, 3, rfl, rfl, ht, by decide, by decide, fun x0 t1 hx0 ht1 => ?_⟩
      walk_at "D"
      exact ⟨_, t1, rfl, rfl, ht1⟩
    rintro d μ1 ⟨b, t1, rfl, rfl, ht1⟩
    refine wS_seq (wS_set (wE_mono (Ψ := fun d μ1 => d = .tup ((szs b).map natD) ∧ μ1 = .lst t1 :: ν) ?_ ?_))
    · walk_at "D"
      cases b with
      | true => refine pt rfl ?_; walk_at "D"; exact ⟨rfl, rfl⟩
      | false => refine pf rfl ?_; walk_at "D"; exact ⟨rfl, rfl⟩
    rintro d μ1 ⟨rfl, rfl⟩
    have gok : ∀ p ∈ [((0, 0) : Spot), (0, 1)], okSpot (szs b) [0] p := fun p hp => by
      have h2 : (szs b)[0]? = some 2 := by cases b <;> rfl
      rcases List.mem_cons.mp hp with e | hp
      · subst e; exact ⟨0, 2, rfl, h2, by decide⟩
      rcases List.mem_cons.mp hp with e | hp
      · subst e; exact ⟨0, 2, rfl, h2, by decide⟩
      · cases hp
    walk_at "D"
    refine wE_reg ?_
    walk_at "D"
    refine ⟨t1, ν, n + 498, 5, rfl, rfl, ht1, by decide, by decide, fun x1 t2 hx1 ht2 => ?_⟩
    walk_at "D"
    refine wE_lst (wA_nil ⟨Nat.zero_le _, ?_⟩)
    walk_at "D"
    refine ⟨t2, ν, n + 478, [], szs b, [], rfl, rfl, ht2, .nil, by decide, fun p h => (nomatch h), fun f1 t3 hf1 ht3 => ?_⟩
    walk_at "D"
    refine ⟨.cons (pu_fil (.new (1 + (x1 : Int)) [])) (.cons (pu_fil f1) .nil), ?_⟩
    refine wS_seq (wS_mono (P := { nx := fun δ' μ' => ∃ (f1 : Fil) (t' : List Dt), okFil (szs b) [] f1 ∧ δ' = [some (.reg 0), some (.bl b), some (.tup ((szs b).map natD)), some (.reg (ν.length + 1)), none, none, none, none, none, none, none] ∧ μ' = .lst t' :: (ν ++ [.lst [filD (.new (1 + (x1 : Int)) []), filD f1]]) ∧ TinL t' (n + 470), rt := fun _ _ => False }) ?_ ?_ (fun _ _ h => h.elim) (fun _ _ h => h.elim) (fun _ _ h => h.elim) (fun _ h => h.elim))
    · walk_at "D"
      refine ⟨t3, _, n + 477, 3, rfl, rfl, ht3, by decide, by decide, fun x2 t4 hx2 ht4 => ?_⟩
      walk_at "D"
      by_cases h2 : x2 = 0
      · subst h2
        refine pt rfl ?_
        walk_at "D"
        refine wG_set ?_
        walk_at "D"
        exact ⟨ν.length + 1, _, 1, 1, rfl, rfl, r1_0, rfl, .tup (.cons (.str _) .nil), .none, t4, trivial, rfl, r1s, ht4.mono (by omega)⟩
      · refine pf (df (by omega)) ?_
        walk_at "D"
        exact ⟨f1, t4, hf1, rfl, rfl, ht4.mono (by omega)⟩
    rintro δ μ ⟨f1, t3, hf1, rfl, rfl, ht3⟩
    have ok0 : okFil (szs b) [] (.new (1 + (x1 : Int)) []) := ⟨by omega, okNone _ _, .nil⟩
    have h2 : (szs b)[0]? = some 2 := by cases b <;> rfl
    have ok1 : ∀ (c0 : Nat) (fa fb : Fil), okFil (szs b) [] fa → okFil (szs b) [] fb → okRow (szs b) ⟨[], [], (c0 : Int), 0, [fa, fb]⟩ := fun c0 fa fb ha hb => ⟨Nat.zero_le 2, fun e he => (nomatch he), okNone _ _, by show (0 : Int) ≤ c0; omega, h2, fun f hf => by
      rcases List.mem_cons.mp hf with e | hf
      · rw [e]; exact ha
      · rw [List.mem_singleton.mp hf]; exact hb⟩
    have sl : (szs b).length ≤ 2 := by cases b <;> decide
    refine wS_seq (wS_set (wE_mono (Ψ := fun d μ1 => ∃ (t' : List Dt) (row : Row), d = .reg (ν.length + 2) ∧ μ1 = .lst t' :: (ν ++ [.lst [filD (.new (1 + (x1 : Int)) []), filD f1], .lst [rowD row]]) ∧ okRow (szs b) row ∧ row.slots.length ≤ 10 ∧ row.el = [] ∧ TinL t' (n + 400)) ?_ ?_))
    · refine wE_reg ?_
      walk_at "D"
      refine ⟨t3, _, n + 469, 2, rfl, rfl, ht3, by decide, by decide, fun c0 t4 hc0 ht4 => ?_⟩
      walk_at "D"
      refine ⟨t4, _, n + 468, 2, rfl, rfl, ht4, by decide, by decide, fun x5 t5 hx5 ht5 => ?_⟩
      walk_at "D"
      by_cases h5 : x5 = 0
      · subst h5
        refine pt rfl ?_
        walk_at "D"
        refine wE_rev (ds := []) ?_
        walk_at "D"
        refine ⟨_, lstOf_reg r1_0, ?_⟩
        walk_at "D"
        refine wC_tuple rfl ?_
        walk_at "D"
        refine ⟨.cons (pu_row ⟨[], [], (c0 : Int), 0, [f1, .new (1 + (x1 : Int)) []]⟩) .nil, t5, ⟨[], [], (c0 : Int), 0, [f1, .new (1 + (x1 : Int)) []]⟩, ?_, ?_, ?_, (by decide : 2 ≤ 10), rfl, ht5.mono (by omega)⟩
        · simp
        · simp [rowD]
        · exact ok1 c0 _ _ hf1 ok0
      · refine pf (df (by omega)) ?_
        walk_at "D"
        refine wC_tuple (lstOf_reg r1_0) ?_
        walk_at "D"
        refine ⟨.cons (pu_row ⟨[], [], (c0 : Int), 0, [.new (1 + (x1 : Int)) [], f1]⟩) .nil, t5, ⟨[], [], (c0 : Int), 0, [.new (1 + (x1 : Int)) [], f1]⟩, ?_, ?_, ?_, (by decide : 2 ≤ 10), rfl, ht5.mono (by omega)⟩
        · simp
        · simp [rowD]
        · exact ok1 c0 _ _ ok0 hf1
    rintro d μ ⟨t4, row0, rfl, rfl, hr0, hs0, he0, ht4⟩
    walk_at "D"
    refine wE_lst ?_
    walk_at "D"
    refine wI_rng (wA_cons (wE_int (wA_nil ⟨2, rfl, by decide, by decide, ?_⟩)))
    refine forL_inv (fun i δ' μ' => ∃ (a6 a7 a8 a9 a10 : Option Dt) (rs : List Row) (t' : List Dt), δ' = [some (.reg 0), some (.bl b), some (.tup ((szs b).map natD)), some (.reg (ν.length + 1)), some (.reg (ν.length + 2)), some (.lst [spotD (0, 0), spotD (0, 1)]), a6, a7, a8, a9, a10] ∧
      μ' = .lst t' :: (ν ++ [.lst [filD (.new (1 + (x1 : Int)) []), filD f1], .lst (rs.map rowD)]) ∧ rs.length = i + 1 ∧ rs[0]? = some row0 ∧ (∀ r ∈ rs, okRow (szs b) r ∧ r.slots.length ≤ 10) ∧ TinL t' (n + 400 - 150 * i)) 0 ⟨none, none, none, none, none, [row0], t4, rfl, rfl, rfl, rfl, fun r hr => by rw [List.mem_singleton.mp hr]; exact ⟨hr0, hs0⟩, ht4⟩ (fun i d δ' μ' hi hI => ?_) (fun δ' μ' hI => ?_)
    · obtain ⟨a6, a7, a8, a9, a10, rs, t5, rfl, rfl, hl, hr, hrs, ht5⟩ := hI
      rw [Nat.zero_add] at hl ht5
      have hi2 : i < 2 := by have := (List.getElem?_eq_some_iff.mp hi).1; rw [rng_len] at this; exact this
      have hi : (rngD 2)[i]? = some d := hi
      have hd : d = natD i := by
        unfold rngD at hi
        rw [List.getElem?_map, List.getElem?_range hi2] at hi
        exact (Option.some.inj hi).symm
      subst hd
      have ht6 : TinL t5 (n + 250 - 150 * i + 150) := ht5.mono (by omega)
      have hbud : n + 400 - 150 * (i + 1) ≤ n + 250 - 150 * i := by omega
      generalize n + 250 - 150 * i = m at ht6 hbud
      simp only [Nat.zero_add]
      refine wG_name ?_
      refine wS_seq (wS_set (wE_mono (Ψ := fun d μ1 => ∃ (qs : List Spot) (t' : List Dt), d = .tup (qs.map spotD) ∧ μ1 = .lst t' :: (ν ++ [.lst [filD (.new (1 + (x1 : Int)) []), filD f1], .lst (rs.map rowD)]) ∧ (∀ p ∈ qs, p ∈ [((0, 0) : Spot), (0, 1)]) ∧ qs.Nodup ∧ TinL t' (m + 130)) ?_ ?_))
      · walk_at "D"
        by_cases hi0 : i = 0
        · refine pt (dt (by omega)) ?_
          walk_at "D"
          refine ⟨t5, _, m + 130, [(0, 0), (0, 1)], i, rfl, rfl, ht6.mono (by omega), by decide, by decide, fun qs t' h1 h2 h3 => ?_⟩
          walk_at "D"
          exact wC_tuple rfl ⟨qs, t', rfl, rfl, h1, h2, h3⟩
        · refine pf (df (by omega)) ?_
          walk_at "D"
          refine ⟨t5, _, m + 149, 4, rfl, rfl, ht6, by decide, by decide, fun x6 t6 hx6 ht6 => ?_⟩
          walk_at "D"
          have hbb : ∃ bb : Bool, decide ((x6 : Int) = 0) = bb := ⟨_, rfl⟩
          obtain ⟨bb, hbb⟩ := hbb
          rw [hbb]
          refine ⟨t6, _, m + 130, [(0, 0), (0, 1)], 1 + (if bb then 1 else 0), (by cases bb <;> rfl), rfl, ht6.mono (by omega), by decide, by decide, fun qs t' h1 h2 h3 => ?_⟩
          walk_at "D"
          exact wC_tuple rfl ⟨qs, t', rfl, rfl, h1, h2, h3⟩
      rintro d μ ⟨qs, t6, rfl, rfl, hq1, hq2, ht6⟩
      refine wS_seq (wS_set (wE_mono (Ψ := fun d μ1 => ∃ (md z : Nat), d = natD md ∧ μ1 = .lst t6 :: (ν ++ [.lst [filD (.new (1 + (x1 : Int)) []), filD f1], .lst (rs.map rowD)]) ∧ (szs b)[md]? = some z ∧ z ≤ 2) ?_ ?_))
      · walk_at "D"
        cases b with
        | true =>
          refine pt rfl ?_
          walk_at "D"
          by_cases hi1 : i = 1
          · refine pt (dt (by omega)) ?_
            walk_at "D"
            exact ⟨1, 1, rfl, rfl, rfl, by decide⟩
          · refine pf (df (by omega)) ?_
            walk_at "D"
            exact ⟨0, 2, rfl, rfl, rfl, by decide⟩
        | false =>
          refine pf rfl ?_
          walk_at "D"
          exact ⟨0, 2, rfl, rfl, rfl, by decide⟩
      rintro d μ ⟨md, z, rfl, rfl, hmd, hz⟩
      walk_at "D"
      refine wE_lc mono_name (only_name (by decide)) (wI_rng ?_)
      walk_at "D"
      refine ⟨by omega, by omega, ?_⟩
      have ez : ((z : Int)).toNat = z := by omega
      rw [ez]
      refine ⟨by rw [rng_len]; omega, comp_inv (fun j acc μ' => ∃ (fs : List Fil) (t' : List Dt), acc = fs.map filD ∧ fs.length = j ∧ (∀ f ∈ fs, okFil (szs b) [0] f) ∧ μ' = .lst t' :: (ν ++ [.lst [filD (.new (1 + (x1 : Int)) []), filD f1], .lst (rs.map rowD)]) ∧ TinL t' (m + 130 - 20 * j)) 0 ⟨[], t6, rfl, rfl, fun _ h => (nomatch h), rfl, ht6⟩ (fun j d acc μ' hj hI => ?_) (fun acc μ' hI => ?_)⟩
      · obtain ⟨fs, t7, rfl, hfl, hfs, rfl, ht7⟩ := hI
        rw [Nat.zero_add] at hfl ht7
        have hjz : j < z := by have := (List.getElem?_eq_some_iff.mp hj).1; rw [rng_len] at this; exact this
        simp only [Nat.zero_add]
        walk_at "D"
        refine ⟨t7, _, m + 130 - 20 * (j + 1), [(0, 0), (0, 1)], szs b, [0], rfl, rfl, ht7.mono (by omega), by decide, by decide, gok, fun f t8 hf ht8 => ?_⟩
        exact ⟨_, rfl, by rw [List.length_cons, List.length_cons], pu_fil f, fs ++ [f], t8, by rw [List.map_append]; rfl, by rw [List.length_append, hfl]; rfl, fun g hg => (by
          rcases List.mem_append.mp hg with hg | hg
          · exact hfs g hg
          · rw [List.mem_singleton.mp hg]; exact hf), rfl, ht8⟩
      · obtain ⟨fs, t7, rfl, hfl, hfs, rfl, ht7⟩ := hI
        rw [Nat.zero_add, rng_len] at hfl ht7
        walk_at "D"
        refine wC_tuple rfl ?_
        walk_at "D"
        refine wE_bm ?_
        walk_at "D"
        refine ⟨⟨_, lstOf_reg r2_1⟩, ?_⟩
        walk_at "D"
        refine ⟨t7, _, m, 2, rfl, rfl, ht7.mono (by omega), by decide, by decide, fun cr t8 hcr ht8 => ?_⟩
        walk_at "D"
        refine wM_app2 (by rw [List.length_map]; omega) (pu_row ⟨[0], qs, (cr : Int), md, fs⟩) ?_
        refine ⟨_, _, _, _, _, rs ++ [⟨[0], qs, (cr : Int), md, fs⟩], t8, rfl, by rw [List.map_append]; rfl, by rw [List.length_append, hl]; rfl, ?_, fun r hr' => ?_, ht8.mono hbud⟩
        · rw [List.getElem?_append_left (by omega)]; exact hr
        · rcases List.mem_append.mp hr' with hr' | hr'
          · exact hrs r hr'
          · rw [List.mem_singleton.mp hr']
            refine ⟨⟨Nat.le_succ 1, fun e he => ?_, .of gok (by decide) hq1 hq2, by show (0 : Int) ≤ cr; omega, by show (szs b)[md]? = some fs.length; rw [hfl]; exact hmd, hfs⟩, by show fs.length ≤ 10; omega⟩
            rw [List.mem_singleton.mp he]; cases b <;> decide
    · obtain ⟨a6, a7, a8, a9, a10, rs, t5, rfl, rfl, hl, hr, hrs, ht5⟩ := hI
      rw [Nat.zero_add, rng_len] at ht5 hl
      walk_at "D"
      refine wC_tuple (lstOf_reg r2_1) ?_
      walk_at "D"
      refine .cut (pu_craft ⟨szs b, rs⟩) ?_
      refine Eq.mp (congrArg _ cut1.symm) ?_
      refine k ⟨szs b, rs⟩ t5 ⟨?_, by show 0 < rs.length; omega, fun r hr => (hrs r hr).1, by show rs.length ≤ 10; rw [hl]; decide, by show (szs b).length ≤ 10; omega, fun r hr => (hrs r hr).2⟩ ⟨row0, hr, he0⟩ (ht5.mono (by omega))
      show 0 < (szs b).length
      cases b <;> decide
end
end PB
namespace PB
open PySem PySem.Spec PyProof.Rows L2 DL
theorem comp_invF {g : TG} {tt : TT} {te : TE} {δ : Sl} {Φ : List Dt → List MO → Prop} (I : Nat → List Dt → List MO → Prop) : ∀ {items acc : List Dt} {μ : List MO} (n : Nat) (h0 : I n acc μ)
    (h : ∀ (i : Nat) (d : Dt) (acc : List Dt) (μ : List MO), items[i]? = some d → I (n + i) acc μ → wG g d δ (μ ++ [.lst acc]) fun δ1 μ1 => wT tt δ1 μ1 fun c μ2 =>
      (c = true → wE te δ1 μ2 fun e μ3 => ∃ μ4, μ3 = μ4 ++ [.lst acc] ∧ μ4.length = μ.length ∧ Pu e ∧ I (n + i + 1) (acc ++ [e]) μ4) ∧ (c = false → ∃ μ4, μ2 = μ4 ++ [.lst acc] ∧ μ4.length = μ.length ∧ I (n + i + 1) acc μ4))
    (k : ∀ acc μ, I (n + items.length) acc μ → Φ acc μ), CompL g tt te δ Φ items acc μ
  | [], acc, μ, n, h0, h, k => k acc μ h0
  | d :: ds, acc, μ, n, h0, h, k => by
    have rest : ∀ acc' μ', I (n + 1) acc' μ' → CompL g tt te δ Φ ds acc' μ' := fun acc' μ' hI => comp_invF I (n + 1) hI (fun i d' acc' μ' hi hI' => by
        have := h (i + 1) d' acc' μ' (by rw [List.getElem?_cons_succ]; exact hi) (by rw [show n + (i + 1) = n + 1 + i by omega]; exact hI')
        rwa [show n + (i + 1) = n + 1 + i by omega] at this) (fun acc' μ' hI' => k acc' μ' (by rw [List.length_cons, show n + (ds.length + 1) = n + 1 + ds.length by omega]; exact hI'))
    intro σ H α v Q R D q
    refine h 0 d acc μ rfl h0 σ H α v Q R D fun σ' H' α' δ' μ' nn R' w => q σ' H' α' δ' μ' nn R' ?_
    intro σ H α Q R q
    refine w σ H α Q R fun c H' α' μ' n' R' k' => q c H' α' μ' n' R' ⟨fun hc => wE_mono (k'.1 hc) ?_, fun hc => ?_⟩
    · rintro e μ3 ⟨μ4, rfl, hl, pu, hI⟩
      exact ⟨μ4, rfl, hl, pu, rest _ _ hI⟩
    · obtain ⟨μ4, rfl, hl, hI⟩ := k'.2 hc
      exact ⟨μ4, rfl, hl, rest _ _ hI⟩
def okEls (c : Craft) (wb : Web) (els pre : List Nat) : Prop := els.length = pre.length ∧ ∀ (i e s : Nat), els[i]? = some e → pre[i]? = some s → ∃ ve re, wb[e]? = some ve ∧ c.rows[ve.1]? = some re ∧ re.shape = s
theorem okEls.snoc {c : Craft} {wb : Web} {els pre : List Nat} {k s : Nat} {ve : Ver} {re : Row} (h : okEls c wb els pre) (h1 : wb[k]? = some ve) (h2 : c.rows[ve.1]? = some re) (h3 : re.shape = s) : okEls c wb (els ++ [k]) (pre ++ [s]) := by
  refine ⟨by rw [List.length_append, List.length_append, h.1]; rfl, fun i e z a b => ?_⟩
  by_cases hi : i < els.length
  · rw [List.getElem?_append_left hi] at a
    rw [List.getElem?_append_left (by rw [← h.1]; exact hi)] at b
    exact h.2 i e z a b
  · rw [List.getElem?_append_right (by omega)] at a
    rw [List.getElem?_append_right (by rw [← h.1]; omega), ← h.1] at b
    cases hj : i - els.length with
    | zero =>
      rw [hj] at a b
      cases a; cases b
      exact ⟨ve, re, h1, h2, h3⟩
    | succ j => rw [hj] at a; simp at a
abbrev natsD (l : List Nat) : Dt := .tup (l.map natD)
def shapeOf (c : Craft) (v : Ver) : Nat := ((c.rows[v.1]?).map (·.shape)).getD 0
theorem rng_get {n i : Nat} {d : Dt} (h : (rngD n)[i]? = some d) : i < n ∧ d = natD i := by
  have h1 := (List.getElem?_eq_some_iff.mp h).1
  rw [rng_len] at h1
  refine ⟨h1, ?_⟩
  unfold rngD at h
  rw [List.getElem?_map, List.getElem?_range h1] at h
  exact (Option.some.inj h).symm
local macro_rules | `(tactic| walk_at "ix") => `(tactic| first
  | with_reducible exact at0 | with_reducible exact at1 | with_reducible exact at2 | with_reducible exact at3 | with_reducible exact at4 | with_reducible exact at_map (by assumption) | with_reducible exact at_nat (by assumption)
  | exact at0 | exact at1 | exact at2 | exact at3 | exact at4 | exact at_nat (by assumption) | exact at_map (by assumption) | rfl)
local macro_rules | `(tactic| walk_at "b") => `(tactic| first
  | refine ⟨true, rfl, fun _ => ?_, fun hx => tf hx⟩
  | refine ⟨false, rfl, fun hx => ft hx, fun _ => ?_⟩
  | refine ⟨true, rfl, fun hx => ft hx, fun _ => ?_⟩
  | refine ⟨false, rfl, fun _ => ?_, fun hx => tf hx⟩
  | refine ⟨_, rfl, ?_⟩)
local macro_rules | `(tactic| walk_at "t") => `(tactic| first
  | refine ⟨Nat.le_of_ble_eq_true rfl, ?_⟩
  | refine ⟨fun _ => ?_, fun hx => tf hx⟩
  | refine ⟨fun hx => ft hx, fun _ => ?_⟩)
local macro_rules | `(tactic| walk_at "isi") => `(tactic| first
  | refine wC_isi rfl k_ii ?_ | refine wC_isi rfl k_ib ?_ | refine wC_isi rfl k_tt ?_ | refine wC_isi rfl k_tl ?_ | refine wC_isi rfl k_ll ?_ | refine wC_isi rfl k_lt ?_ | refine wC_isi rfl k_sb ?_ | refine wC_isi rfl k_si ?_
  | refine wC_isi rfl k_bb ?_ | refine wC_isi rfl k_bi ?_ | refine wC_isi rfl k_st ?_ | refine wC_isi rfl k_sl ?_ | refine wC_isi rfl k_il ?_ | refine wC_isi rfl k_it ?_
  | refine wC_isi2 rfl k_tl k_tt ?_ | refine wC_isi2 rfl k_ll k_lt ?_ | refine wC_isi2 rfl k_il k_it ?_ | refine wC_isi2 rfl k_sl k_st ?_ | refine wC_isi2 rfl k_ib k_is ?_ | refine wC_isi2 rfl k_sb k_ss ?_)
local macro_rules | `(tactic| walk_at "dE") => `(tactic| first
  | with_reducible refine wE_var rfl ?_ | with_reducible refine wE_op ?_ | with_reducible refine wE_int ?_ | with_reducible refine wE_call ?_ | with_reducible refine wE_str ?_
  | with_reducible refine wE_lenSet ?_ | with_reducible refine wE_sortedSet ?_ | with_reducible refine wE_cb ?_ | with_reducible refine wE_and ?_ | with_reducible refine wE_or ?_ | with_reducible refine wE_not ?_ | with_reducible refine wE_if ?_
  | with_reducible refine wE_tup ?_ | with_reducible refine wE_ty ?_ | with_reducible refine wE_bl ?_ | with_reducible refine wE_non ?_ | with_reducible refine wE_chain ?_ | with_reducible refine wE_un ?_ | with_reducible refine wE_slice ?_)
local macro_rules | `(tactic| walk_at "dS") => `(tactic| first
  | with_reducible refine wS_seq ?_ | with_reducible refine wS_set ?_ | with_reducible refine wS_if ?_ | with_reducible refine wS_drop ?_ | with_reducible refine wS_next ?_ | with_reducible refine wS_ret ?_ | with_reducible refine wS_asg ?_
  | with_reducible refine wS_cont ?_ | with_reducible refine wS_par ?_ | with_reducible refine wS_for ?_)
local macro_rules | `(tactic| walk_at "dT") => `(tactic| first
  | with_reducible refine wT_test ?_ | with_reducible refine wT_B ?_ | with_reducible refine wT_and ?_ | with_reducible refine wT_or ?_ | with_reducible refine wT_not ?_)
local macro_rules | `(tactic| walk_at "dO") => `(tactic| first
  | with_reducible refine wO_int ?_ | with_reducible refine wO_intB ?_ | with_reducible refine wO_eqI ?_ | with_reducible refine wO_eqS ?_ | with_reducible refine wO_neI ?_ | with_reducible refine wO_eqB ?_ | with_reducible refine wO_neB ?_
  | with_reducible refine wO_isN ?_ | with_reducible refine wO_notN ?_ | (refine wO_ixT (by walk_at "ix") ?_))
local macro_rules | `(tactic| walk_at "dC") => `(tactic| first
  | walk_at "isi" | (refine wC_len (.inl rfl) ?_) | with_reducible refine wC_intI ?_ | with_reducible refine wC_intB ?_ | with_reducible refine wC_abs ?_ | with_reducible refine wC_min ?_)
local macro_rules | `(tactic| walk_at "d") => `(tactic| first
  | ((with_reducible refine isE ?_); walk_at "dE")
  | ((with_reducible refine isA ?_); first | with_reducible refine wA_cons ?_ | with_reducible refine wA_nil ?_)
  | ((with_reducible refine isO ?_); walk_at "dO")
  | ((with_reducible refine isS ?_); walk_at "dS")
  | ((with_reducible refine isT ?_); walk_at "dT")
  | ((with_reducible refine isC ?_); walk_at "dC")
  | with_reducible refine wG_name ?_ | ((with_reducible refine isG ?_); refine wG_tup rfl ?_) | with_reducible refine wGs_cons ?_ | with_reducible refine wGs_nil ?_
  | with_reducible refine forL_cons ?_ | with_reducible refine forL_nil ?_
  | with_reducible refine wP_none ?_ | with_reducible refine wP_some ?_)
local macro_rules | `(tactic| walk_at "D") => `(tactic| repeat (first | walk_at "d" | walk_at "t" | walk_at "b"))

section
variable {P : Program} {w : World} {K : PySem.W.Frag} {mg : Str → Option Value} {base : Heap} {cU : Addr}
def CComes : Con := fun ds μ Φ _ => ∃ (c : Craft) (wb : Web), ds = [craftD c, webD wb] ∧ okCraft c ∧ okWeb c wb ∧ wb.length ≤ 6 ∧
  ∀ vs : List Ver, (∀ v ∈ vs, okVer c wb v) → vs.length ≤ 1000 → (okFirst c → vs ≠ []) → Φ (.lst (vs.map verD)) μ
theorem c__law_comes (T__law_comes : HasFn K mg "_law_comes" s__law_comes ["_law_house_so", "_law_tale_so"]) (B : Bt mg) : Cal P w K mg base (0 + 1) "_law_comes" ["_law_house_so", "_law_tale_so"] (spD cU (CComes)) := by
  refine fnC (0) T__law_comes sc__law_comes (fun ds μ Φ Ψ h => ?_) (fun f cdv A outer s H E hr => ⟨_,
    (pss_cons (ps_set (i := 2) sc__law_comes.nd rfl (by first | exact Or.inl rfl | exact Or.inr rfl) (pe_lst pa_nil))
    (pss_cons (ps_set (i := 3) sc__law_comes.nd rfl (by first | exact Or.inl rfl | exact Or.inr rfl) (pe_lc (own := [("_law_own", 4)]) (g := (gName 4)) rfl sc__law_comes.nd (pi_tupK (K := K) (pv 1)) (blkOk_by (own := [("_law_own", 4)]) (N := ["_law_house_so", "_law_tale_so", "_law_found", "_law_kinds_so", "_law_own", "_law_r", "_law_line_so", "_law_elders_so", "_law_longer_so", "_law_its", "_law_k"]) (sc := defScope s__law_comes) (by decide +kernel)) (fun _ _ _ _ _ => (pg_name (i := 4) sc__law_comes.nd rfl (by first | exact Or.inl rfl | exact Or.inr rfl))) (fun _ _ _ _ _ => pts_nil) (fun _ _ _ _ _ => (pe_ix (ix_tupK (K := K)) (pe_ix (ix_tupK (K := K)) (pe_ix (ix_tupK (K := K)) (pv 0) pe_int (fun _ _ => rfl)) (pe_ix (ix_tupK (K := K)) (pv 4) pe_int (fun _ _ => rfl)) (fun _ _ => rfl)) pe_int (fun _ _ => rfl)))))
    (pss_cons (ps_for PassesOwn.never rfl (pi_enumTK (K := K) (by rfl) B.enumerate_ (pa_cons (pe_ix (ix_tupK (K := K)) (pv 0) pe_int (fun _ _ => rfl)) pa_nil)) (pg_tupK (K := K) (n := 2) rfl (pgs_cons (pg_name (i := 5) sc__law_comes.nd rfl (by first | exact Or.inl rfl | exact Or.inr rfl)) (pgs_cons (pg_name (i := 6) sc__law_comes.nd rfl (by first | exact Or.inl rfl | exact Or.inr rfl)) pgs_nil))) (pss_cons (ps_set (i := 7) sc__law_comes.nd rfl (by first | exact Or.inl rfl | exact Or.inr rfl) (pe_lst (pa_cons (pe_tup pa_nil) pa_nil)))
    (pss_cons (ps_for PassesOwn.never rfl (pi_tupK (K := K) (pe_ix (ix_tupK (K := K)) (pv 6) pe_int (fun _ _ => rfl))) (pg_name (i := 4) sc__law_comes.nd rfl (by first | exact Or.inl rfl | exact Or.inr rfl)) (pss_cons (ps_set (i := 8) sc__law_comes.nd rfl (by first | exact Or.inl rfl | exact Or.inr rfl) (pe_lst pa_nil))
    (pss_cons (ps_for PassesOwn.never rfl (pi_listK (K := K) (pv 7)) (pg_name (i := 9) sc__law_comes.nd rfl (by first | exact Or.inl rfl | exact Or.inr rfl)) (pss_one (ps_set (i := 8) sc__law_comes.nd rfl (by first | exact Or.inl rfl | exact Or.inr rfl) (pe_op op_cat (pv 8) (pe_lc (own := [("_law_k", 10)]) (g := (gName 10)) rfl sc__law_comes.nd (pi_range1 (by rfl) B.range_ (pa_cons (pe_callB (lenK (K := K)) (by rfl) B.len_ (by decide +kernel) (pa_cons (pv 1) pa_nil)) pa_nil)) (blkOk_by (own := [("_law_k", 10)]) (N := ["_law_house_so", "_law_tale_so", "_law_found", "_law_kinds_so", "_law_own", "_law_r", "_law_line_so", "_law_elders_so", "_law_longer_so", "_law_its", "_law_k"]) (sc := defScope s__law_comes) (by decide +kernel)) (fun _ _ _ _ _ => (pg_name (i := 10) sc__law_comes.nd rfl (by first | exact Or.inl rfl | exact Or.inr rfl))) (fun _ _ _ _ _ => (pts_one (pt_cmpR op_eq (pe_ix (ix_listK (K := K)) (pv 3) (pv 10) (fun _ _ => rfl)) (pv 4) (nomark _)))) (fun _ _ _ _ _ => (pe_op (catTK (K := K)) (pv 9) (pe_tup (pa_cons (pv 10) pa_nil)))))))))
    (pss_one (ps_set (i := 7) sc__law_comes.nd rfl (by first | exact Or.inl rfl | exact Or.inr rfl) (pv 8))))))
    (pss_one (ps_set (i := 2) sc__law_comes.nd rfl (by first | exact Or.inl rfl | exact Or.inr rfl) (pe_op op_cat (pv 2) (pe_lc (own := [("_law_its", 9)]) (g := (gName 9)) rfl sc__law_comes.nd (pi_listK (K := K) (pv 7)) (blkOk_by (own := [("_law_its", 9)]) (N := ["_law_house_so", "_law_tale_so", "_law_found", "_law_kinds_so", "_law_own", "_law_r", "_law_line_so", "_law_elders_so", "_law_longer_so", "_law_its", "_law_k"]) (sc := defScope s__law_comes) (by decide +kernel)) (fun _ _ _ _ _ => (pg_name (i := 9) sc__law_comes.nd rfl (by first | exact Or.inl rfl | exact Or.inr rfl))) (fun _ _ _ _ _ => pts_nil) (fun _ _ _ _ _ => (pe_tup (pa_cons (pv 5) (pa_cons (pv 9) pa_nil)))))))))))
    (pss_one (ps_ret (pv 2)))))), fun ds μ Φ Ψ h => ?_⟩)
  · obtain ⟨c, wb, rfl, _⟩ := h; rfl
  · obtain ⟨c, wb, rfl, okc, okw, few, k⟩ := h
    have rl := okc.small.1
    walk_at "D"
    refine wE_lst (wA_nil ⟨Nat.zero_le _, ?_⟩)
    walk_at "D"
    refine wE_lc mono_name (only_name (by decide)) (wI_tup ?_)
    walk_at "D"
    refine ⟨by rw [List.length_map]; omega, comp_inv (fun j acc μ' => μ = μ' ∧ acc = ((wb.take j).map (shapeOf c)).map natD) 0 ⟨rfl, rfl⟩ (fun j d acc μ' hj hI => ?_) (fun acc μ' hI => ?_)⟩
    · obtain ⟨rfl, rfl⟩ := hI
      obtain ⟨v, hv, rfl⟩ := map_get hj
      obtain ⟨row, h1, h2, h3⟩ := okw.2 j v hv
      have hs : shapeOf c v = row.shape := by unfold shapeOf; rw [h1]; rfl
      walk_at "D"
      refine ⟨rfl, .int _, rfl, ?_⟩
      rw [Nat.zero_add, take_snoc hv, List.map_append, List.map_append, ← hs]; rfl
    obtain ⟨rfl, rfl⟩ := hI
    rw [Nat.zero_add, List.length_map, List.take_length]
    walk_at "D"
    refine wI_enumT ?_
    walk_at "D"
    refine forL_inv (fun i δ' μ' => ∃ (a4 a5 a6 a7 a8 a9 a10 : Option Dt) (vs : List Ver), δ' = [some (craftD c), some (webD wb), some (.lst (vs.map verD)), some (.lst ((wb.map (shapeOf c)).map natD)), a4, a5, a6, a7, a8, a9, a10] ∧ μ = μ' ∧ (∀ v ∈ vs, okVer c wb v) ∧ vs.length ≤ i * 36 ∧ (1 ≤ i → okFirst c → vs ≠ [])) 0 ⟨none, none, none, none, none, none, none, [], rfl, rfl, fun _ h => (nomatch h), Nat.zero_le _, fun h => absurd h (by decide)⟩ (fun i d δ' μ' hi hI => ?_) (fun δ' μ' hI => ?_)
    · obtain ⟨a4, a5, a6, a7, a8, a9, a10, vs, rfl, rfl, hv, hl, hne⟩ := hI
      rw [Nat.zero_add] at hl
      rw [enumD_get] at hi
      cases hf : (c.rows.map rowD)[i]? with
      | none => rw [hf] at hi; cases hi
      | some d' =>
        rw [hf] at hi
        cases hi
        obtain ⟨row, hr, rfl⟩ := map_get hf
        have okr := okc.each row (List.mem_of_getElem? hr)
        have hil : i < c.rows.length := (List.getElem?_eq_some_iff.mp hr).1
        have hel := okr.few
        simp only [Nat.zero_add]
        walk_at "D"
        refine wE_lst ?_
        walk_at "D"
        refine wI_tup ?_
        walk_at "D"
        refine forL_inv (fun j δ' μ' => ∃ (a4 a8 a9 a10 : Option Dt) (es : List (List Nat)), δ' = [some (craftD c), some (webD wb), some (.lst (vs.map verD)), some (.lst ((wb.map (shapeOf c)).map natD)), a4, some (natD i), some (rowD row), some (.lst (es.map natsD)), a8, a9, a10] ∧ μ = μ' ∧ (∀ e ∈ es, okEls c wb e (row.el.take j)) ∧ es.length ≤ 6 ^ j ∧ (j = 0 → es ≠ [])) 0 ⟨_, _, _, _, [[]], rfl, rfl, fun e he => (by rw [List.mem_singleton.mp he]; exact ⟨rfl, fun _ _ _ h => by simp at h⟩), by decide, fun _ => by simp⟩ (fun j d δ' μ' hj hI => ?_) (fun δ' μ' hI => ?_)
        · obtain ⟨a4, a8, a9, a10, es, rfl, rfl, he, hel2, hz⟩ := hI
          rw [Nat.zero_add] at he hel2
          obtain ⟨s, hs, rfl⟩ := map_get hj
          have hjl : j < row.el.length := (List.getElem?_eq_some_iff.mp hs).1
          have h6 : 6 ^ j ≤ 6 := by
            rcases (show j = 0 ∨ j = 1 by omega) with h | h <;> subst h <;> decide
          simp only [Nat.zero_add]
          walk_at "D"
          refine wE_lst (wA_nil ⟨Nat.zero_le _, ?_⟩)
          walk_at "D"
          refine wI_lst ?_
          walk_at "D"
          refine forL_inv (fun m δ' μ' => ∃ (a9 a10 : Option Dt) (ls : List (List Nat)), δ' = [some (craftD c), some (webD wb), some (.lst (vs.map verD)), some (.lst ((wb.map (shapeOf c)).map natD)), some (natD s), some (natD i), some (rowD row), some (.lst (es.map natsD)), some (.lst (ls.map natsD)), a9, a10] ∧ μ = μ' ∧ (∀ e ∈ ls, okEls c wb e (row.el.take (j + 1))) ∧ ls.length ≤ m * 6) 0 ⟨_, _, [], rfl, rfl, fun _ h => (nomatch h), Nat.zero_le _⟩ (fun m d δ' μ' hm hI => ?_) (fun δ' μ' hI => ?_)
          · obtain ⟨a9, a10, ls, rfl, rfl, hls, hll⟩ := hI
            rw [Nat.zero_add] at hll
            obtain ⟨e, hee, rfl⟩ := map_get hm
            have hml : m < es.length := (List.getElem?_eq_some_iff.mp hee).1
            have oke := he e (List.mem_of_getElem? hee)
            simp only [Nat.zero_add]
            walk_at "D"
            refine wE_lc mono_name (only_name (by decide)) (wI_rng ?_)
            walk_at "D"
            refine ⟨by omega, by rw [List.length_map]; omega, ?_⟩
            have ez : (((wb.map verD).length : Int)).toNat = wb.length := by rw [List.length_map]; omega
            rw [ez]
            refine ⟨by rw [rng_len]; omega, comp_invF (fun x acc μ' => ∃ l2 : List (List Nat), μ = μ' ∧ acc = l2.map natsD ∧ (∀ e ∈ l2, okEls c wb e (row.el.take (j + 1))) ∧ l2.length ≤ x) 0 ⟨[], rfl, rfl, fun _ h => (nomatch h), Nat.le_refl _⟩ (fun x d acc μ' hx hI => ?_) (fun acc μ' hI => ?_)⟩
            · obtain ⟨l2, rfl, rfl, h2, h3⟩ := hI
              rw [Nat.zero_add] at h3
              obtain ⟨hxl, rfl⟩ := rng_get hx
              have hwx : wb[x]? = some wb[x] := List.getElem?_eq_getElem hxl
              obtain ⟨rx, g1, g2, g3⟩ := okw.2 x _ hwx
              have hsx : shapeOf c wb[x] = rx.shape := by unfold shapeOf; rw [g1]; rfl
              have hkx : (wb.map (shapeOf c))[x]? = some rx.shape := by rw [List.getElem?_map, hwx, ← hsx]; rfl
              simp only [Nat.zero_add]
              walk_at "D"
              refine wO_ixL rfl (at_map hkx) ?_
              walk_at "D"
              refine ⟨fun hc => ?_, fun hc => ?_⟩
              · have hc' : rx.shape = s := by have := of_decide_eq_true hc; omega
                walk_at "D"
                refine wO_catT (by rw [List.length_map, oke.1, List.length_take]; simp; omega) ?_
                refine ⟨_, rfl, rfl, .tup (PuL.append (PuL.map _ pu_nat _) (.cons (.int _) .nil)), l2 ++ [e ++ [x]], rfl, by simp [natsD], fun e' he' => ?_, by rw [List.length_append]; exact Nat.succ_le_succ h3⟩
                rcases List.mem_append.mp he' with he' | he'
                · exact h2 e' he'
                · rw [List.mem_singleton.mp he', take_snoc hs]
                  exact oke.snoc hwx g1 hc'
              · exact ⟨_, rfl, rfl, l2, rfl, rfl, h2, by omega⟩
            obtain ⟨l2, rfl, rfl, h2, h3⟩ := hI
            rw [Nat.zero_add, rng_len] at h3
            refine wO_cat rfl rfl (by rw [List.length_map, List.length_map]; omega) ?_
            refine ⟨_, _, ls ++ l2, by rw [List.map_append]; rfl, rfl, fun e' he' => ?_, by rw [List.length_append]; omega⟩
            rcases List.mem_append.mp he' with he' | he'
            · exact hls e' he'
            · exact h2 e' he'
          · obtain ⟨a9, a10, ls, rfl, rfl, hls, hll⟩ := hI
            rw [Nat.zero_add, List.length_map] at hll
            walk_at "D"
            refine ⟨_, _, _, _, ls, rfl, rfl, hls, ?_, fun h => absurd h (by omega)⟩
            rw [Nat.pow_succ]
            exact Nat.le_trans hll (Nat.mul_le_mul_right _ hel2)
        · obtain ⟨a4, a8, a9, a10, es, rfl, rfl, he, hel2, hz⟩ := hI
          rw [Nat.zero_add, List.length_map] at he hel2 hz
          rw [List.take_length] at he
          have h6 : 6 ^ row.el.length ≤ 36 := by
            rcases (show row.el.length = 0 ∨ row.el.length = 1 ∨ row.el.length = 2 by omega) with h | h | h <;> rw [h] <;> decide
          walk_at "D"
          refine wE_lc mono_name (only_name (by decide)) (wI_lst ?_)
          walk_at "D"
          refine ⟨by rw [List.length_map]; omega, comp_inv (fun m acc μ' => μ = μ' ∧ acc = ((es.take m).map fun e => (i, e)).map verD) 0 ⟨rfl, rfl⟩ (fun m d acc μ' hm hI => ?_) (fun acc μ' hI => ?_)⟩
          · obtain ⟨rfl, rfl⟩ := hI
            obtain ⟨e, hee, rfl⟩ := map_get hm
            simp only [Nat.zero_add]
            walk_at "D"
            refine ⟨rfl, pu_ver (i, e), rfl, ?_⟩
            rw [take_snoc hee, List.map_append, List.map_append]; rfl
          obtain ⟨rfl, rfl⟩ := hI
          rw [Nat.zero_add, List.length_map, List.take_length]
          refine wO_cat rfl rfl (by rw [List.length_map, List.length_map, List.length_map]; omega) ?_
          refine ⟨_, _, _, _, _, _, _, vs ++ es.map (fun e => (i, e)), by rw [List.map_append]; rfl, rfl, fun v hv' => ?_, by rw [List.length_append, List.length_map]; omega, fun _ hf1 => ?_⟩
          · rcases List.mem_append.mp hv' with hv' | hv'
            · exact hv v hv'
            · obtain ⟨e, hee, rfl⟩ := List.mem_map.mp hv'
              exact ⟨row, hr, (he e hee).1, (he e hee).2⟩
          · by_cases h0 : i = 0
            · subst h0
              obtain ⟨r0, hr0, hr1⟩ := hf1
              rw [hr] at hr0
              cases hr0
              have := hz (by rw [hr1]; rfl)
              intro h
              rw [List.append_eq_nil_iff] at h
              exact this (List.map_eq_nil_iff.mp h.2)
            · intro h
              rw [List.append_eq_nil_iff] at h
              exact hne (by omega) hf1 h.1
    · obtain ⟨a4, a5, a6, a7, a8, a9, a10, vs, rfl, rfl, hv, hl, hne⟩ := hI
      rw [Nat.zero_add, enumD_len, List.length_map] at hl hne
      walk_at "D"
      exact .same (k vs hv (by omega) (hne okc.rows))
end
end PB
namespace PB
open PySem PySem.Spec PyProof.Rows L2 DL
theorem py_nats (n : Nat) : ∀ l : List Nat, ∃ ps, PyL n (l.map natD) ps
  | [] => ⟨_, .nil⟩
  | e :: l => by
    obtain ⟨ps, h⟩ := py_nats n l
    exact ⟨_, .cons (.int _) h⟩
theorem py_vers : ∀ l : List Ver, ∃ ps, PyL 5 (l.map verD) ps
  | [] => ⟨_, .nil⟩
  | e :: l => by
    obtain ⟨ps, h⟩ := py_vers l
    obtain ⟨qs, h2⟩ := py_nats 3 e.2
    exact ⟨_, .cons (.tup (.cons (.int _) (.cons (.tup h2) .nil))) h⟩
theorem okWeb.snoc {c : Craft} {wb : Web} {v : Ver} (h : okWeb c wb) (hv : okVer c wb v) (l : wb.length < 60) : okWeb c (wb ++ [v]) := by
  refine ⟨by rw [List.length_append]; exact l, fun i u hu => ?_⟩
  by_cases hi : i < wb.length
  · rw [List.getElem?_append_left hi] at hu
    rw [List.take_append_of_le_length (by omega)]
    exact h.2 i u hu
  · rw [List.getElem?_append_right (by omega)] at hu
    have e : i = wb.length := by
      have := (List.getElem?_eq_some_iff.mp hu).1
      rw [List.length_singleton] at this; omega
    subst e
    rw [Nat.sub_self] at hu
    cases hu
    rw [List.take_left]; exact hv
theorem at_last {l : List Nat} (h : l ≠ []) : ∃ z : Nat, atI (l.map natD) (-1) = some (natD z) := by
  refine ⟨l.getLast h, ?_⟩
  have e : l.map natD = l.dropLast.map natD ++ [natD (l.getLast h)] := by
    conv => lhs; rw [← List.dropLast_concat_getLast h]
    rw [List.map_append]; rfl
  rw [e]
  exact atI_last _ _
local macro_rules | `(tactic| walk_at "ix") => `(tactic| first
  | with_reducible exact at0 | with_reducible exact at1 | with_reducible exact at2 | with_reducible exact at3 | with_reducible exact at4 | with_reducible exact at_map (by assumption) | with_reducible exact at_nat (by assumption)
  | exact at0 | exact at1 | exact at2 | exact at3 | exact at4 | exact at_nat (by assumption) | exact at_map (by assumption) | rfl)
local macro_rules | `(tactic| walk_at "b") => `(tactic| first
  | refine ⟨true, rfl, fun _ => ?_, fun hx => tf hx⟩
  | refine ⟨false, rfl, fun hx => ft hx, fun _ => ?_⟩
  | refine ⟨true, rfl, fun hx => ft hx, fun _ => ?_⟩
  | refine ⟨false, rfl, fun _ => ?_, fun hx => tf hx⟩
  | refine ⟨_, rfl, ?_⟩)
local macro_rules | `(tactic| walk_at "t") => `(tactic| first
  | refine ⟨Nat.le_of_ble_eq_true rfl, ?_⟩
  | refine ⟨fun _ => ?_, fun hx => tf hx⟩
  | refine ⟨fun hx => ft hx, fun _ => ?_⟩)
local macro_rules | `(tactic| walk_at "isi") => `(tactic| first
  | refine wC_isi rfl k_ii ?_ | refine wC_isi rfl k_ib ?_ | refine wC_isi rfl k_tt ?_ | refine wC_isi rfl k_tl ?_ | refine wC_isi rfl k_ll ?_ | refine wC_isi rfl k_lt ?_ | refine wC_isi rfl k_sb ?_ | refine wC_isi rfl k_si ?_
  | refine wC_isi rfl k_bb ?_ | refine wC_isi rfl k_bi ?_ | refine wC_isi rfl k_st ?_ | refine wC_isi rfl k_sl ?_ | refine wC_isi rfl k_il ?_ | refine wC_isi rfl k_it ?_
  | refine wC_isi2 rfl k_tl k_tt ?_ | refine wC_isi2 rfl k_ll k_lt ?_ | refine wC_isi2 rfl k_il k_it ?_ | refine wC_isi2 rfl k_sl k_st ?_ | refine wC_isi2 rfl k_ib k_is ?_ | refine wC_isi2 rfl k_sb k_ss ?_)
local macro_rules | `(tactic| walk_at "dE") => `(tactic| first
  | with_reducible refine wE_var rfl ?_ | with_reducible refine wE_op ?_ | with_reducible refine wE_int ?_ | with_reducible refine wE_call ?_ | with_reducible refine wE_str ?_
  | with_reducible refine wE_lenSet ?_ | with_reducible refine wE_sortedSet ?_ | with_reducible refine wE_cb ?_ | with_reducible refine wE_and ?_ | with_reducible refine wE_or ?_ | with_reducible refine wE_not ?_ | with_reducible refine wE_if ?_
  | with_reducible refine wE_tup ?_ | with_reducible refine wE_ty ?_ | with_reducible refine wE_bl ?_ | with_reducible refine wE_non ?_ | with_reducible refine wE_chain ?_ | with_reducible refine wE_un ?_ | with_reducible refine wE_slice ?_)
local macro_rules | `(tactic| walk_at "dS") => `(tactic| first
  | with_reducible refine wS_seq ?_ | with_reducible refine wS_set ?_ | with_reducible refine wS_if ?_ | with_reducible refine wS_drop ?_ | with_reducible refine wS_next ?_ | with_reducible refine wS_ret ?_ | with_reducible refine wS_asg ?_
  | with_reducible refine wS_cont ?_ | with_reducible refine wS_par ?_ | with_reducible refine wS_for ?_)
local macro_rules | `(tactic| walk_at "dT") => `(tactic| first
  | with_reducible refine wT_test ?_ | with_reducible refine wT_B ?_ | with_reducible refine wT_and ?_ | with_reducible refine wT_or ?_ | with_reducible refine wT_not ?_)
local macro_rules | `(tactic| walk_at "dO") => `(tactic| first
  | with_reducible refine wO_int ?_ | with_reducible refine wO_intB ?_ | with_reducible refine wO_eqI ?_ | with_reducible refine wO_eqS ?_ | with_reducible refine wO_neI ?_ | with_reducible refine wO_eqB ?_ | with_reducible refine wO_neB ?_
  | with_reducible refine wO_isN ?_ | with_reducible refine wO_notN ?_ | (refine wO_ixT (by walk_at "ix") ?_))
local macro_rules | `(tactic| walk_at "dC") => `(tactic| first
  | walk_at "isi" | (refine wC_len (.inl rfl) ?_) | with_reducible refine wC_intI ?_ | with_reducible refine wC_intB ?_ | with_reducible refine wC_abs ?_ | with_reducible refine wC_min ?_)
local macro_rules | `(tactic| walk_at "d") => `(tactic| first
  | ((with_reducible refine isE ?_); walk_at "dE")
  | ((with_reducible refine isA ?_); first | with_reducible refine wA_cons ?_ | with_reducible refine wA_nil ?_)
  | ((with_reducible refine isO ?_); walk_at "dO")
  | ((with_reducible refine isS ?_); walk_at "dS")
  | ((with_reducible refine isT ?_); walk_at "dT")
  | ((with_reducible refine isC ?_); walk_at "dC")
  | with_reducible refine wG_name ?_ | ((with_reducible refine isG ?_); refine wG_tup rfl ?_) | with_reducible refine wGs_cons ?_ | with_reducible refine wGs_nil ?_
  | with_reducible refine forL_cons ?_ | with_reducible refine forL_nil ?_
  | with_reducible refine wP_none ?_ | with_reducible refine wP_some ?_)
local macro_rules | `(tactic| walk_at "D") => `(tactic| repeat (first | walk_at "d" | walk_at "t" | walk_at "b"))

section
variable {P : Program} {w : World} {K : PySem.W.Frag} {mg : Str → Option Value} {base : Heap} {cU : Addr}
def CTale : Con := fun ds μ Φ _ => ∃ (t : List Dt) (ν : List MO) (n : Nat) (c : Craft), ds = [.reg 0, craftD c, .int 6] ∧ μ = .lst t :: ν ∧ TinL t (n + 100) ∧ okCraft c ∧ okFirst c ∧ ∀ (wb : Web) (t' : List Dt), okWeb c wb → wb ≠ [] → wb.length ≤ 6 → TinL t' n → Φ (webD wb) (.lst t' :: ν)
theorem c__law_tale (T__law_tale : HasFn K mg "_law_tale" s__law_tale ["_law_tin", "_law_house_so", "_law_count_so"]) (B : Bt mg) (c__law_take : Cal P w K mg base 1 "_law_take" ["_law_tin", "_law_below_so"] (spD cU CTake)) (c__law_of : Cal P w K mg base 2 "_law_of" ["_law_tin", "_law_goods_so"] (spD cU COf)) (c__law_comes : Cal P w K mg base 1 "_law_comes" ["_law_house_so", "_law_tale_so"] (spD cU CComes)) : Cal P w K mg base (2 + 1) "_law_tale" ["_law_tin", "_law_house_so", "_law_count_so"] (spD cU (CTale)) := by
  refine fnC (2) T__law_tale sc__law_tale (fun ds μ Φ Ψ h => ?_) (fun f cdv A outer s H E hr => ⟨_,
    (pss_cons (ps_set (i := 3) sc__law_tale.nd rfl (by first | exact Or.inl rfl | exact Or.inr rfl) (pe_tup pa_nil))
    (pss_cons (ps_for PassesOwn.never rfl (pi_range1 (by rfl) B.range_ (pa_cons (pv 2) pa_nil)) (pg_name (i := 4) sc__law_tale.nd rfl (by first | exact Or.inl rfl | exact Or.inr rfl)) (pss_cons (ps_set (i := 5) sc__law_tale.nd rfl (by first | exact Or.inl rfl | exact Or.inr rfl) (pe_cal c__law_comes (hr.mono (by omega)) (by rfl) (pa_cons (pv 1) (pa_cons (pv 3) pa_nil))))
    (pss_cons (ps_if (pt_cmpR (eqDK (K := K) hr.units) (pv 5) (pe_lst pa_nil) (nomark _)) (pss_one (ps_ret (pv 3))) pss_nil)
    (pss_cons (ps_setLc (i := 6) (own := [("_law_own", 7)]) (g := (gName 7)) rfl sc__law_tale.nd rfl rfl (sw_true rfl rfl rfl (by decide +kernel)) (pi_listK (K := K) (pv 5)) (blkOk_by (own := [("_law_own", 7)]) (N := ["_law_tin", "_law_house_so", "_law_count_so", "_law_found", "_law_lap", "_law_goods_so", "_law_late_so", "_law_own"]) (sc := defScope s__law_tale) (by decide +kernel)) (fun _ _ _ _ _ => (pg_name (i := 7) sc__law_tale.nd rfl (by first | exact Or.inl rfl | exact Or.inr rfl))) (fun _ _ _ _ _ => (pts_one (PW.pt (pw_and (pt_cmpR (neDK (K := K) hr.units) (pe_ix (ix_tupK (K := K)) (pv 7) pe_int (fun _ _ => rfl)) (pe_tup pa_nil) (nomark _)) (pw_and1 (pt_cmpR op_ge (pe_ix (ix_tupK (K := K)) (pe_ix (ix_tupK (K := K)) (pv 7) pe_int (fun _ _ => rfl)) (pe_un un_neg pe_int) (fun _ _ => rfl)) (pe_op op_sub (pv 4) pe_int) (nomark _))))))) (fun _ _ _ _ _ => (pv 7)))
    (pss_cons (ps_if (PW.pt (pw_and (pt_cmpR (neDK (K := K) hr.units) (pv 6) (pe_lst pa_nil) (nomark _)) (pw_and1 (pt_cmpR op_gt (pe_cal c__law_take (hr.mono (by omega)) (by rfl) (pa_cons (pv 0) (pa_cons pe_int pa_nil))) pe_int (nomark _))))) (pss_one (ps_set (i := 5) sc__law_tale.nd rfl (by first | exact Or.inl rfl | exact Or.inr rfl) (pv 6))) pss_nil)
    (pss_one (ps_set (i := 3) sc__law_tale.nd rfl (by first | exact Or.inl rfl | exact Or.inr rfl) (pe_op (catTK (K := K)) (pv 3) (pe_tup (pa_cons (pe_cal c__law_of (hr.mono (by omega)) (by rfl) (pa_cons (pv 0) (pa_cons (pv 5) pa_nil))) pa_nil))))))))))
    (pss_one (ps_ret (pv 3))))), fun ds μ Φ Ψ h => ?_⟩)
  · obtain ⟨t, ν, n, c, rfl, _⟩ := h; rfl
  · obtain ⟨t, ν, n, c, rfl, rfl, ht, okc, okf, k⟩ := h
    walk_at "D"
    refine wI_rng (wA_cons (wE_var rfl (wA_nil ⟨6, rfl, by decide, by decide, ?_⟩)))
    refine forL_inv (fun i δ' μ' => ∃ (a4 a5 a6 a7 : Option Dt) (wb : Web) (t' : List Dt), δ' = [some (.reg 0), some (craftD c), some (.int 6), some (webD wb), a4, a5, a6, a7] ∧ μ' = .lst t' :: ν ∧ okWeb c wb ∧ wb.length = i ∧ TinL t' (n + 100 - 10 * i)) 0 ⟨none, none, none, none, [], t, rfl, rfl, ⟨by decide, fun i v h => by simp at h⟩, rfl, ht⟩ (fun i d δ' μ' hi hI => ?_) (fun δ' μ' hI => ?_)
    · obtain ⟨a4, a5, a6, a7, wb, t1, rfl, rfl, okw, hwl, ht1⟩ := hI
      rw [Nat.zero_add] at hwl ht1
      have hi : (rngD 6)[i]? = some d := hi
      obtain ⟨hi6, rfl⟩ := rng_get hi
      simp only [Nat.zero_add]
      have hm : ∃ m, n + 100 - 10 * i = m + 10 ∧ m = n + 100 - 10 * (i + 1) ∧ n ≤ m := ⟨_, by omega, rfl, by omega⟩
      obtain ⟨m, hm1, hm2, hm3⟩ := hm
      rw [hm1] at ht1
      rw [← hm2]
      walk_at "D"
      refine ⟨c, wb, rfl, okc, okw, by omega, fun vs hvs hvl hvn => ?_⟩
      obtain ⟨ps, hps⟩ := py_vers vs
      walk_at "D"
      refine wE_lst (wA_nil ⟨Nat.zero_le _, ?_⟩)
      refine wO_eqNil rfl hps (by decide) ?_
      refine ⟨_, rfl, ?_⟩
      refine ⟨fun hc => ?_, fun hc => ?_⟩
      · have : vs = [] := by cases vs with
          | nil => rfl
          | cons => cases hc
        walk_at "D"
        refine .same (k wb t1 okw ?_ (by omega) (ht1.mono (by omega)))
        intro h0
        exact hvn okf this
      · have hvs0 : vs ≠ [] := fun h => by subst h; cases hc
        walk_at "D"
        refine wE_lc mono_name (only_name (by decide)) (wI_lst ?_)
        walk_at "D"
        refine ⟨by rw [List.length_map]; omega, comp_invF (fun x acc μ' => ∃ us : List Ver, μ' = .lst t1 :: ν ∧ acc = us.map verD ∧ (∀ v ∈ us, v ∈ vs) ∧ us.length ≤ x) 0 ⟨[], rfl, rfl, fun _ h => (nomatch h), Nat.le_refl _⟩ (fun x d acc μ' hx hI => ?_) (fun acc μ' hI => ?_)⟩
        · obtain ⟨us, rfl, rfl, hus, hul⟩ := hI
          rw [Nat.zero_add] at hul
          obtain ⟨v, hv, rfl⟩ := map_get hx
          obtain ⟨qs, hqs⟩ := py_nats 3 v.2
          simp only [Nat.zero_add]
          walk_at "D"
          have hskip : ∃ μ4, MO.lst t1 :: ν ++ [.lst (us.map verD)] = μ4 ++ [.lst (us.map verD)] ∧ μ4.length = (MO.lst t1 :: ν).length ∧ ∃ us2 : List Ver, μ4 = .lst t1 :: ν ∧ us.map verD = us2.map verD ∧ (∀ v ∈ us2, v ∈ vs) ∧ us2.length ≤ x + 1 := ⟨_, rfl, rfl, us, rfl, rfl, hus, by omega⟩
          refine wO_neNilT hqs (by decide) ?_
          refine ⟨_, rfl, fun hc => ?_, fun hc => ?_⟩
          · have hne : v.2 ≠ [] := fun h => by rw [h] at hc; cases hc
            obtain ⟨z, hz⟩ := at_last hne
            walk_at "D"
            refine wU_neg ?_
            refine wO_ixT hz ?_
            walk_at "D"
            refine ⟨fun _ => ?_, fun _ => hskip⟩
            walk_at "D"
            refine ⟨rfl, pu_ver v, us ++ [v], rfl, by rw [List.map_append]; rfl, fun u hu => ?_, by rw [List.length_append]; exact Nat.succ_le_succ hul⟩
            rcases List.mem_append.mp hu with hu | hu
            · exact hus u hu
            · rw [List.mem_singleton.mp hu]; exact List.mem_of_getElem? hv
          · exact ⟨fun h => tf h.symm, fun _ => hskip⟩
        obtain ⟨us, rfl, rfl, hus, hul⟩ := hI
        rw [Nat.zero_add, List.length_map] at hul
        obtain ⟨ps2, hps2⟩ := py_vers us
        refine wS_seq (wS_mono (P := { nx := fun δ' μ' => ∃ (a6 a7 : Option Dt) (us : List Ver) (t' : List Dt), δ' = [some (.reg 0), some (craftD c), some (.int 6), some (webD wb), some (natD i), some (.lst (us.map verD)), a6, a7] ∧ μ' = .lst t' :: ν ∧ us ≠ [] ∧ us.length ≤ 1000 ∧ (∀ v ∈ us, v ∈ vs) ∧ TinL t' (m + 5), rt := fun _ _ => False }) ?_ ?_ (fun _ _ h => h.elim) (fun _ _ h => h.elim) (fun _ _ h => h.elim) (fun _ h => h.elim))
        · walk_at "D"
          refine wE_lst (wA_nil ⟨Nat.zero_le _, ?_⟩)
          refine wO_neNil rfl hps2 (by decide) ?_
          refine ⟨_, rfl, ?_⟩
          have keep : (∃ (b6 b7 : Option Dt) (us' : List Ver) (t' : List Dt), [some (.reg 0), some (craftD c), some (.int 6), some (webD wb), some (natD i), some (.lst (vs.map verD)), some (.lst (us.map verD)), a7] = [some (.reg 0), some (craftD c), some (.int 6), some (webD wb), some (natD i), some (.lst (us'.map verD)), b6, b7] ∧ MO.lst t1 :: ν = .lst t' :: ν ∧ us' ≠ [] ∧ us'.length ≤ 1000 ∧ (∀ v ∈ us', v ∈ vs) ∧ TinL t' (m + 5)) := ⟨_, a7, vs, t1, rfl, rfl, hvs0, hvl, fun _ h => h, ht1.mono (by omega)⟩
          refine ⟨fun hc => ?_, fun hc => ?_⟩
          · walk_at "D"
            refine ⟨t1, ν, m + 9, 3, rfl, rfl, ht1, by decide, by decide, fun x6 t6 hx6 ht6 => ?_⟩
            walk_at "D"
            refine ⟨fun _ => ?_, fun _ => ?_⟩
            · walk_at "D"
              refine ⟨_, a7, us, t6, rfl, rfl, ?_, by omega, hus, ht6.mono (by omega)⟩
              intro h; rw [h] at hc; cases hc
            · walk_at "D"
              exact ⟨_, a7, vs, t6, rfl, rfl, hvs0, hvl, fun _ h => h, ht6.mono (by omega)⟩
          · refine ⟨fun h => (nomatch h), fun _ => wS_next ?_⟩
            exact keep
        rintro δ μ ⟨a6', a7', us', t2, rfl, rfl, hne2, hul2, hus2, ht2⟩
        walk_at "D"
        refine ⟨t2, ν, m, us'.map verD, rfl, rfl, ht2.mono (by omega), by simpa using hne2, by rw [List.length_map]; omega, fun e t3 he ht3 => ?_⟩
        obtain ⟨v, hv, rfl⟩ := List.mem_map.mp he
        walk_at "D"
        refine wO_catT (by rw [List.length_map]; simp; omega) ?_
        exact ⟨some (natD i), some (.lst (us'.map verD)), a6', a7', wb ++ [v], t3, by simp [webD], rfl, okw.snoc (hvs v (hus2 v hv)) (by omega), by rw [List.length_append, hwl]; rfl, ht3⟩
    · obtain ⟨a4, a5, a6, a7, wb, t1, rfl, rfl, okw, hwl, ht1⟩ := hI
      rw [Nat.zero_add, rng_len] at hwl ht1
      have hwl : wb.length = 6 := hwl
      walk_at "D"
      refine .same (k wb t1 okw ?_ (by omega) (ht1.mono (by show n ≤ n + 100 - 10 * 6; omega)))
      intro h; rw [h] at hwl; cases hwl
end
end PB
namespace PB
open PySem PySem.Spec PyProof.Rows L2 DL
def RL : Nat → List Dt → Dt → Prop
  | 0 => fun _ _ => False
  | n + 1 => fun ds r => ∃ d, ds = [d] ∧ TO n d ∧ r = lstd d
theorem TO.pul : ∀ {n : Nat} {d : Dt}, TO n d → Pu (PB.lstd d)
  | _, _, .int i => .int i
  | _, _, .str x => .str x
  | _, _, .tup (ds := ds) h _ => by
    rw [PB.lstd, lstdL_map]
    exact .lst (PuL.of fun d hd => by obtain ⟨e, he, rfl⟩ := List.mem_map.mp hd; exact (h e he).pul)
local macro_rules | `(tactic| walk_at "ix") => `(tactic| first
  | with_reducible exact at0 | with_reducible exact at1 | with_reducible exact at2 | with_reducible exact at3 | with_reducible exact at4 | with_reducible exact at_map (by assumption) | with_reducible exact at_nat (by assumption)
  | exact at0 | exact at1 | exact at2 | exact at3 | exact at4 | exact at_nat (by assumption) | exact at_map (by assumption) | rfl)
local macro_rules | `(tactic| walk_at "b") => `(tactic| first
  | refine ⟨true, rfl, fun _ => ?_, fun hx => tf hx⟩
  | refine ⟨false, rfl, fun hx => ft hx, fun _ => ?_⟩
  | refine ⟨true, rfl, fun hx => ft hx, fun _ => ?_⟩
  | refine ⟨false, rfl, fun _ => ?_, fun hx => tf hx⟩
  | refine ⟨_, rfl, ?_⟩)
local macro_rules | `(tactic| walk_at "t") => `(tactic| first
  | refine ⟨Nat.le_of_ble_eq_true rfl, ?_⟩
  | refine ⟨fun _ => ?_, fun hx => tf hx⟩
  | refine ⟨fun hx => ft hx, fun _ => ?_⟩)
local macro_rules | `(tactic| walk_at "isi") => `(tactic| first
  | refine wC_isi rfl k_ii ?_ | refine wC_isi rfl k_ib ?_ | refine wC_isi rfl k_tt ?_ | refine wC_isi rfl k_tl ?_ | refine wC_isi rfl k_ll ?_ | refine wC_isi rfl k_lt ?_ | refine wC_isi rfl k_sb ?_ | refine wC_isi rfl k_si ?_
  | refine wC_isi rfl k_bb ?_ | refine wC_isi rfl k_bi ?_ | refine wC_isi rfl k_st ?_ | refine wC_isi rfl k_sl ?_ | refine wC_isi rfl k_il ?_ | refine wC_isi rfl k_it ?_
  | refine wC_isi2 rfl k_tl k_tt ?_ | refine wC_isi2 rfl k_ll k_lt ?_ | refine wC_isi2 rfl k_il k_it ?_ | refine wC_isi2 rfl k_sl k_st ?_ | refine wC_isi2 rfl k_ib k_is ?_ | refine wC_isi2 rfl k_sb k_ss ?_)
local macro_rules | `(tactic| walk_at "dE") => `(tactic| first
  | with_reducible refine wE_var rfl ?_ | with_reducible refine wE_op ?_ | with_reducible refine wE_int ?_ | with_reducible refine wE_call ?_ | with_reducible refine wE_str ?_
  | with_reducible refine wE_lenSet ?_ | with_reducible refine wE_sortedSet ?_ | with_reducible refine wE_cb ?_ | with_reducible refine wE_and ?_ | with_reducible refine wE_or ?_ | with_reducible refine wE_not ?_ | with_reducible refine wE_if ?_
  | with_reducible refine wE_tup ?_ | with_reducible refine wE_ty ?_ | with_reducible refine wE_bl ?_ | with_reducible refine wE_non ?_ | with_reducible refine wE_chain ?_ | with_reducible refine wE_un ?_ | with_reducible refine wE_slice ?_)
local macro_rules | `(tactic| walk_at "dS") => `(tactic| first
  | with_reducible refine wS_seq ?_ | with_reducible refine wS_set ?_ | with_reducible refine wS_if ?_ | with_reducible refine wS_drop ?_ | with_reducible refine wS_next ?_ | with_reducible refine wS_ret ?_ | with_reducible refine wS_asg ?_
  | with_reducible refine wS_cont ?_ | with_reducible refine wS_par ?_ | with_reducible refine wS_for ?_)
local macro_rules | `(tactic| walk_at "dT") => `(tactic| first
  | with_reducible refine wT_test ?_ | with_reducible refine wT_B ?_ | with_reducible refine wT_and ?_ | with_reducible refine wT_or ?_ | with_reducible refine wT_not ?_)
local macro_rules | `(tactic| walk_at "dO") => `(tactic| first
  | with_reducible refine wO_int ?_ | with_reducible refine wO_intB ?_ | with_reducible refine wO_eqI ?_ | with_reducible refine wO_eqS ?_ | with_reducible refine wO_neI ?_ | with_reducible refine wO_eqB ?_ | with_reducible refine wO_neB ?_
  | with_reducible refine wO_isN ?_ | with_reducible refine wO_notN ?_ | (refine wO_ixT (by walk_at "ix") ?_))
local macro_rules | `(tactic| walk_at "dC") => `(tactic| first
  | walk_at "isi" | (refine wC_len (.inl rfl) ?_) | with_reducible refine wC_intI ?_ | with_reducible refine wC_intB ?_ | with_reducible refine wC_abs ?_ | with_reducible refine wC_min ?_)
local macro_rules | `(tactic| walk_at "d") => `(tactic| first
  | ((with_reducible refine isE ?_); walk_at "dE")
  | ((with_reducible refine isA ?_); first | with_reducible refine wA_cons ?_ | with_reducible refine wA_nil ?_)
  | ((with_reducible refine isO ?_); walk_at "dO")
  | ((with_reducible refine isS ?_); walk_at "dS")
  | ((with_reducible refine isT ?_); walk_at "dT")
  | ((with_reducible refine isC ?_); walk_at "dC")
  | with_reducible refine wG_name ?_ | ((with_reducible refine isG ?_); refine wG_tup rfl ?_) | with_reducible refine wGs_cons ?_ | with_reducible refine wGs_nil ?_
  | with_reducible refine forL_cons ?_ | with_reducible refine forL_nil ?_
  | with_reducible refine wP_none ?_ | with_reducible refine wP_some ?_)
local macro_rules | `(tactic| walk_at "D") => `(tactic| repeat (first | walk_at "d" | walk_at "t" | walk_at "b"))

section
variable {P : Program} {w : World} {K : PySem.W.Frag} {mg : Str → Option Value} {base : Heap} {cU : Addr}
theorem c__law_lists (T__law_lists : HasFn K mg "_law_lists" s__law_lists ["_law_matter"]) (B : Bt mg) {n : Nat} (c__law_lists : Cal P w K mg base n "_law_lists" ["_law_matter"] (spD cU (PC (RL n)))) : Cal P w K mg base (n + 1) "_law_lists" ["_law_matter"] (spD cU (PC (RL (n + 1)))) := by
  refine fnC (n) T__law_lists sc__law_lists (fun ds μ Φ Ψ h => ?_) (fun f cdv A outer s H E hr => ⟨_,
    (pss_one (ps_ret (pe_ifExp (pt_val (pe_callB (isi2K (K := K)) (by rfl) B.isinstance_ (by decide +kernel) (pa_cons (pv 0) (pa_cons (pe_tup (pa_cons (pe_bltn (v := .ty "list") (by rfl) B.list_ (by decide +kernel) rfl) (pa_cons (pe_bltn (v := .ty "tuple") (by rfl) B.tuple_ (by decide +kernel) rfl) pa_nil))) pa_nil)))) (pe_lc (own := [("_law_bit", 1)]) (g := (gName 1)) rfl sc__law_lists.nd (pi_seqK (K := K) (pv 0)) (blkOk_by (own := [("_law_bit", 1)]) (N := ["_law_matter", "_law_bit"]) (sc := defScope s__law_lists) (by decide +kernel)) (fun _ _ _ _ _ => (pg_name (i := 1) sc__law_lists.nd rfl (by first | exact Or.inl rfl | exact Or.inr rfl))) (fun _ _ _ _ _ => pts_nil) (fun _ _ _ _ _ => (pe_cal c__law_lists (hr.mono (by omega)) (by rfl) (pa_cons (pv 1) pa_nil)))) (pv 0)))), fun ds μ Φ Ψ h => ?_⟩)
  · obtain ⟨r, ⟨d, rfl, _⟩, _⟩ := h; rfl
  · obtain ⟨r, ⟨d, rfl, td, rfl⟩, k⟩ := h
    cases td with
    | int i =>
      walk_at "D"
      exact .same k
    | str x =>
      walk_at "D"
      exact .same k
    | @tup n es he hl =>
      walk_at "D"
      refine wE_lc mono_name (only_name (by decide)) (wI_seq ?_)
      walk_at "D"
      refine ⟨es, .inl rfl, by omega, comp_map (f := lstd) (fun d hd acc => ?_) (fun d hd => (he d hd).pul) ?_⟩
      · walk_at "D"
        exact ⟨_, ⟨d, rfl, he d hd, rfl⟩, rfl, rfl⟩
      refine .same ?_
      rw [List.nil_append, ← lstdL_map]
      exact k
inductive TS : Nat → Dt → Prop
  | int {n : Nat} (i : Int) : TS n (.int i)
  | str {n : Nat} (x : Str) : TS n (.str x)
  | tup {n : Nat} {ds : List Dt} (h : ∀ d ∈ ds, TS n d) (l : ds.length ≤ 1000) : TS (n + 1) (.tup ds)
  | lst {n : Nat} {ds : List Dt} (h : ∀ d ∈ ds, TS n d) (l : ds.length ≤ 1000) : TS (n + 1) (.lst ds)
def RS : Nat → List Dt → Dt → Prop
  | 0 => fun _ _ => False
  | n + 1 => fun ds r => ∃ d, ds = [d, d] ∧ TS n d ∧ r = .bl true
theorem c__law_same (T__law_same : HasFn K mg "_law_same" s__law_same ["_law_got", "_law_due"]) (B : Bt mg) {n : Nat} (c__law_same : Cal P w K mg base n "_law_same" ["_law_got", "_law_due"] (spD cU (PC (RS n)))) : Cal P w K mg base (n + 1) "_law_same" ["_law_got", "_law_due"] (spD cU (PC (RS (n + 1)))) := by
  refine fnC (n) T__law_same sc__law_same (fun ds μ Φ Ψ h => ?_) (fun f cdv A outer s H E hr => ⟨_,
    (pss_cons (ps_if (pt_val (pe_callB (isi2K (K := K)) (by rfl) B.isinstance_ (by decide +kernel) (pa_cons (pv 1) (pa_cons (pe_tup (pa_cons (pe_bltn (v := .ty "list") (by rfl) B.list_ (by decide +kernel) rfl) (pa_cons (pe_bltn (v := .ty "tuple") (by rfl) B.tuple_ (by decide +kernel) rfl) pa_nil))) pa_nil)))) (pss_cons (ps_if (PW.pt (pw_or (pt_cmpR op_ne (pe_callB (isiK (K := K)) (by rfl) B.isinstance_ (by decide +kernel) (pa_cons (pv 0) (pa_cons (pe_bltn (v := .ty "list") (by rfl) B.list_ (by decide +kernel) rfl) pa_nil))) (pe_callB (isiK (K := K)) (by rfl) B.isinstance_ (by decide +kernel) (pa_cons (pv 1) (pa_cons (pe_bltn (v := .ty "list") (by rfl) B.list_ (by decide +kernel) rfl) pa_nil))) (nomark _)) (pw_or1 (pt_cmpR op_ne (pe_callB (isiK (K := K)) (by rfl) B.isinstance_ (by decide +kernel) (pa_cons (pv 0) (pa_cons (pe_bltn (v := .ty "tuple") (by rfl) B.tuple_ (by decide +kernel) rfl) pa_nil))) (pe_callB (isiK (K := K)) (by rfl) B.isinstance_ (by decide +kernel) (pa_cons (pv 1) (pa_cons (pe_bltn (v := .ty "tuple") (by rfl) B.tuple_ (by decide +kernel) rfl) pa_nil))) (nomark _))))) (pss_one (ps_ret pe_bl)) pss_nil)
    (pss_one (ps_ret (pe_and (pe_cmpR op_eq (pe_callB (lenK (K := K)) (by rfl) B.len_ (by decide +kernel) (pa_cons (pv 0) pa_nil)) (pe_callB (lenK (K := K)) (by rfl) B.len_ (by decide +kernel) (pa_cons (pv 1) pa_nil)) (nomark _)) (pe_one (pe_callB (allK (K := K) rfl) (by rfl) B.all_ (by decide +kernel) (pa_cons (pe_lc (own := [("_law_mine", 2), ("_law_its", 3)]) (g := (gTup K 2 (gCons (gName 2) (gCons (gName 3) gNil)))) rfl sc__law_same.nd (pi_zipK (K := K) (by rfl) B.zip_ (pa_cons (pv 0) (pa_cons (pv 1) pa_nil))) (blkOk_by (own := [("_law_mine", 2), ("_law_its", 3)]) (N := ["_law_got", "_law_due", "_law_mine", "_law_its"]) (sc := defScope s__law_same) (by decide +kernel)) (fun _ _ _ _ _ => (pg_tupK (K := K) (n := 2) rfl (pgs_cons (pg_name (i := 2) sc__law_same.nd rfl (by first | exact Or.inl rfl | exact Or.inr rfl)) (pgs_cons (pg_name (i := 3) sc__law_same.nd rfl (by first | exact Or.inl rfl | exact Or.inr rfl)) pgs_nil)))) (fun _ _ _ _ _ => pts_nil) (fun _ _ _ _ _ => (pe_cal c__law_same (hr.mono (by omega)) (by rfl) (pa_cons (pv 2) (pa_cons (pv 3) pa_nil))))) pa_nil))))))) pss_nil)
    (pss_cons (ps_if (PW.pt (pw_or (pt_cmpR op_isN (pv 1) pe_non (nomark _)) (pw_or1 (pt_val (pe_callB (isi2K (K := K)) (by rfl) B.isinstance_ (by decide +kernel) (pa_cons (pv 1) (pa_cons (pe_tup (pa_cons (pe_bltn (v := .ty "bool") (by rfl) B.bool_ (by decide +kernel) rfl) (pa_cons (pe_bltn (v := .ty "str") (by rfl) B.str_ (by decide +kernel) rfl) pa_nil))) pa_nil))))))) (pss_one (ps_ret (pe_and (pe_cmpR op_eq (pv 0) (pv 1) (nomark _)) (pe_and (pe_cmpR op_eq (pe_callB (isiK (K := K)) (by rfl) B.isinstance_ (by decide +kernel) (pa_cons (pv 0) (pa_cons (pe_bltn (v := .ty "bool") (by rfl) B.bool_ (by decide +kernel) rfl) pa_nil))) (pe_callB (isiK (K := K)) (by rfl) B.isinstance_ (by decide +kernel) (pa_cons (pv 1) (pa_cons (pe_bltn (v := .ty "bool") (by rfl) B.bool_ (by decide +kernel) rfl) pa_nil))) (nomark _)) (pe_one (pe_cmpR op_eq (pe_cmpR op_isN (pv 0) pe_non (nomark _)) (pe_cmpR op_isN (pv 1) pe_non (nomark _)) (nomark _))))))) pss_nil)
    (pss_one (ps_ret (pe_and (pe_callB (isiK (K := K)) (by rfl) B.isinstance_ (by decide +kernel) (pa_cons (pv 0) (pa_cons (pe_bltn (v := .ty "int") (by rfl) B.int_ (by decide +kernel) rfl) pa_nil))) (pe_and (pe_not (pe_callB (isiK (K := K)) (by rfl) B.isinstance_ (by decide +kernel) (pa_cons (pv 0) (pa_cons (pe_bltn (v := .ty "bool") (by rfl) B.bool_ (by decide +kernel) rfl) pa_nil)))) (pe_one (pe_cmpR op_eq (pv 0) (pv 1) (nomark _))))))))), fun ds μ Φ Ψ h => ?_⟩)
  · obtain ⟨r, ⟨d, rfl, _⟩, _⟩ := h; rfl
  · obtain ⟨r, ⟨d, rfl, td, rfl⟩, k⟩ := h
    cases td with
    | int i =>
      walk_at "D"
      rw [decide_eq_true rfl]
      exact .same k
    | str x =>
      walk_at "D"
      refine pt (dt rfl) ?_
      walk_at "D"
      rw [decide_eq_true rfl]
      exact .same k
    | @tup n es he hl =>
      walk_at "D"
      refine pt (dt rfl) ?_
      walk_at "D"
      refine wE_lc (mono_tup (mono_cons mono_name (mono_cons mono_name mono_nil))) (only_tup (only_cons mono_name (only_name (by decide)) (mono_cons mono_name mono_nil) (only_cons mono_name (only_name (by decide)) mono_nil only_nil))) (wI_zip ?_)
      walk_at "D"
      refine ⟨es, es, .inl rfl, ?_⟩
      refine ⟨by rw [zip_len]; omega, ?_⟩
      refine all_true (fun d hd acc => ?_) ?_
      · obtain ⟨i, hi⟩ := List.getElem?_of_mem hd
        obtain ⟨a, b, h1, h2, rfl⟩ := DL.zip_get hi
        rw [h1] at h2
        cases h2
        walk_at "D"
        exact ⟨_, ⟨a, rfl, he a (List.mem_of_getElem? h1), rfl⟩, rfl, rfl⟩
      walk_at "D"
      refine wC_all rfl (rep_bl _) ?_
      rw [rep_all]
      exact .same k
    | @lst n es he hl =>
      walk_at "D"
      refine wC_len (.inr rfl) ?_
      walk_at "D"
      refine wC_len (.inr rfl) ?_
      walk_at "D"
      refine pt (dt rfl) ?_
      walk_at "D"
      refine wE_lc (mono_tup (mono_cons mono_name (mono_cons mono_name mono_nil))) (only_tup (only_cons mono_name (only_name (by decide)) (mono_cons mono_name mono_nil) (only_cons mono_name (only_name (by decide)) mono_nil only_nil))) (wI_zip ?_)
      walk_at "D"
      refine ⟨es, es, .inr rfl, ?_⟩
      refine ⟨by rw [zip_len]; omega, ?_⟩
      refine all_true (fun d hd acc => ?_) ?_
      · obtain ⟨i, hi⟩ := List.getElem?_of_mem hd
        obtain ⟨a, b, h1, h2, rfl⟩ := DL.zip_get hi
        rw [h1] at h2
        cases h2
        walk_at "D"
        exact ⟨_, ⟨a, rfl, he a (List.mem_of_getElem? h1), rfl⟩, rfl, rfl⟩
      walk_at "D"
      refine wC_all rfl (rep_bl _) ?_
      rw [rep_all]
      exact .same k
end
end PB
namespace PB
open PySem PySem.Spec PyProof.Rows L2 DL
local macro_rules | `(tactic| walk_at "ix") => `(tactic| first
  | with_reducible exact at0 | with_reducible exact at1 | with_reducible exact at2 | with_reducible exact at3 | with_reducible exact at4 | with_reducible exact at_map (by assumption) | with_reducible exact at_nat (by assumption)
  | exact at0 | exact at1 | exact at2 | exact at3 | exact at4 | exact at_nat (by assumption) | exact at_map (by assumption) | rfl)
local macro_rules | `(tactic| walk_at "b") => `(tactic| first
  | refine ⟨true, rfl, fun _ => ?_, fun hx => tf hx⟩
  | refine ⟨false, rfl, fun hx => ft hx, fun _ => ?_⟩
  | refine ⟨true, rfl, fun hx => ft hx, fun _ => ?_⟩
  | refine ⟨false, rfl, fun _ => ?_, fun hx => tf hx⟩
  | refine ⟨_, rfl, ?_⟩)
local macro_rules | `(tactic| walk_at "t") => `(tactic| first
  | refine ⟨Nat.le_of_ble_eq_true rfl, ?_⟩
  | refine ⟨fun _ => ?_, fun hx => tf hx⟩
  | refine ⟨fun hx => ft hx, fun _ => ?_⟩)
local macro_rules | `(tactic| walk_at "isi") => `(tactic| first
  | refine wC_isi rfl k_ii ?_ | refine wC_isi rfl k_ib ?_ | refine wC_isi rfl k_tt ?_ | refine wC_isi rfl k_tl ?_ | refine wC_isi rfl k_ll ?_ | refine wC_isi rfl k_lt ?_ | refine wC_isi rfl k_sb ?_ | refine wC_isi rfl k_si ?_
  | refine wC_isi rfl k_bb ?_ | refine wC_isi rfl k_bi ?_ | refine wC_isi rfl k_st ?_ | refine wC_isi rfl k_sl ?_ | refine wC_isi rfl k_il ?_ | refine wC_isi rfl k_it ?_
  | refine wC_isi2 rfl k_tl k_tt ?_ | refine wC_isi2 rfl k_ll k_lt ?_ | refine wC_isi2 rfl k_il k_it ?_ | refine wC_isi2 rfl k_sl k_st ?_ | refine wC_isi2 rfl k_ib k_is ?_ | refine wC_isi2 rfl k_sb k_ss ?_)
local macro_rules | `(tactic| walk_at "dE") => `(tactic| first
  | with_reducible refine wE_var rfl ?_ | with_reducible refine wE_op ?_ | with_reducible refine wE_int ?_ | with_reducible refine wE_call ?_ | with_reducible refine wE_str ?_
  | with_reducible refine wE_lenSet ?_ | with_reducible refine wE_sortedSet ?_ | with_reducible refine wE_cb ?_ | with_reducible refine wE_and ?_ | with_reducible refine wE_or ?_ | with_reducible refine wE_not ?_ | with_reducible refine wE_if ?_
  | with_reducible refine wE_tup ?_ | with_reducible refine wE_ty ?_ | with_reducible refine wE_bl ?_ | with_reducible refine wE_non ?_ | with_reducible refine wE_chain ?_ | with_reducible refine wE_un ?_ | with_reducible refine wE_slice ?_)
local macro_rules | `(tactic| walk_at "dS") => `(tactic| first
  | with_reducible refine wS_seq ?_ | with_reducible refine wS_set ?_ | with_reducible refine wS_if ?_ | with_reducible refine wS_drop ?_ | with_reducible refine wS_next ?_ | with_reducible refine wS_ret ?_ | with_reducible refine wS_asg ?_
  | with_reducible refine wS_cont ?_ | with_reducible refine wS_par ?_ | with_reducible refine wS_for ?_)
local macro_rules | `(tactic| walk_at "dT") => `(tactic| first
  | with_reducible refine wT_test ?_ | with_reducible refine wT_B ?_ | with_reducible refine wT_and ?_ | with_reducible refine wT_or ?_ | with_reducible refine wT_not ?_)
local macro_rules | `(tactic| walk_at "dO") => `(tactic| first
  | with_reducible refine wO_int ?_ | with_reducible refine wO_intB ?_ | with_reducible refine wO_eqI ?_ | with_reducible refine wO_eqS ?_ | with_reducible refine wO_neI ?_ | with_reducible refine wO_eqB ?_ | with_reducible refine wO_neB ?_
  | with_reducible refine wO_isN ?_ | with_reducible refine wO_notN ?_ | (refine wO_ixT (by walk_at "ix") ?_))
local macro_rules | `(tactic| walk_at "dC") => `(tactic| first
  | walk_at "isi" | (refine wC_len (.inl rfl) ?_) | with_reducible refine wC_intI ?_ | with_reducible refine wC_intB ?_ | with_reducible refine wC_abs ?_ | with_reducible refine wC_min ?_)
local macro_rules | `(tactic| walk_at "d") => `(tactic| first
  | ((with_reducible refine isE ?_); walk_at "dE")
  | ((with_reducible refine isA ?_); first | with_reducible refine wA_cons ?_ | with_reducible refine wA_nil ?_)
  | ((with_reducible refine isO ?_); walk_at "dO")
  | ((with_reducible refine isS ?_); walk_at "dS")
  | ((with_reducible refine isT ?_); walk_at "dT")
  | ((with_reducible refine isC ?_); walk_at "dC")
  | with_reducible refine wG_name ?_ | ((with_reducible refine isG ?_); refine wG_tup rfl ?_) | with_reducible refine wGs_cons ?_ | with_reducible refine wGs_nil ?_
  | with_reducible refine forL_cons ?_ | with_reducible refine forL_nil ?_
  | with_reducible refine wP_none ?_ | with_reducible refine wP_some ?_)
local macro_rules | `(tactic| walk_at "D") => `(tactic| repeat (first | walk_at "d" | walk_at "t" | walk_at "b"))

section
variable {P : Program} {w : World} {K : PySem.W.Frag} {mg : Str → Option Value} {base : Heap} {cU : Addr}
def CRight : Con := fun ds μ Φ _ => ∃ t : List Dt, ds = [.reg 0] ∧ μ = [.lst t] ∧ TinL t 2000 ∧ ∀ t', Φ (.bl true) [.lst t']
theorem ts_list {a b c : Dt} {n : Nat} (ha : TS n a) (hb : TS n b) (hc : TS n c) : TS (n + 1) (.lst [a, b, c]) := .lst (fun d hd => by
  simp only [List.mem_cons, List.not_mem_nil, or_false] at hd
  rcases hd with h | h | h <;> subst h
  · exact ha
  · exact hb
  · exact hc) (by simp)
theorem ts_intsR {n : Nat} (l : List Int) (h : l.length ≤ 1000) : TS (n + 1) (.tup (l.map Dt.int)) := .tup (fun d hd => by obtain ⟨i, _, rfl⟩ := List.mem_map.mp hd; exact .int i) (by rw [List.length_map]; exact h)
theorem c__law_right (T__law_right : HasFn K mg "_law_right" s__law_right ["_law_tin"]) (B : Bt mg) (c__law_take : Cal P w K mg base 1 "_law_take" ["_law_tin", "_law_below_so"] (spD cU CTake)) (c__law_house_two : Cal P w K mg base 5 "_law_house_two" ["_law_tin"] (spD cU CHouse)) (c__law_house_one : Cal P w K mg base 5 "_law_house_one" ["_law_tin"] (spD cU CHouse)) (c__law_tale : Cal P w K mg base 3 "_law_tale" ["_law_tin", "_law_house_so", "_law_count_so"] (spD cU CTale)) (c__law_at_once_so : Cal P w K mg base 12 "_law_at_once_so" ["_law_house_so", "_law_tale_so"] (spD cU (PC ROnceL))) (c_paid_at_once : Cal P w K mg base 11 "paid_at_once" ["craft", "web"] (spD cU (PC RPaid))) (c_cost_at_once : Cal P w K mg base 12 "cost_at_once" ["craft", "web"] (spD cU (PC RCostO))) (c__law_lists : Cal P w K mg base 8 "_law_lists" ["_law_matter"] (spD cU (PC (RL 8)))) (c__law_same : Cal P w K mg base 4 "_law_same" ["_law_got", "_law_due"] (spD cU (PC (RS 4)))) (c_unforced : Cal P w K mg base 14 "unforced" ["craft", "web"] (spD cU CUnf)) (c__law_cost : Cal P w K mg base 13 "_law_cost" ["_law_house_so", "_law_tale_so"] (spD cU CCostL)) : Cal P w K mg base (14 + 1) "_law_right" ["_law_tin"] (spD cU (CRight)) := by
  refine fnC (14) T__law_right sc__law_right (fun ds μ Φ Ψ h => ?_) (fun f cdv A outer s H E hr => ⟨_,
    (pss_cons (ps_set (i := 1) sc__law_right.nd rfl (by first | exact Or.inl rfl | exact Or.inr rfl) (pe_ifExp (pt_cmpR op_eq (pe_cal c__law_take (hr.mono (by omega)) (by rfl) (pa_cons (pv 0) (pa_cons pe_int pa_nil))) pe_int (nomark _)) (pe_cal c__law_house_two (hr.mono (by omega)) (by rfl) (pa_cons (pv 0) pa_nil)) (pe_cal c__law_house_one (hr.mono (by omega)) (by rfl) (pa_cons (pv 0) pa_nil))))
    (pss_cons (ps_set (i := 2) sc__law_right.nd rfl (by first | exact Or.inl rfl | exact Or.inr rfl) (pe_cal c__law_tale (hr.mono (by omega)) (by rfl) (pa_cons (pv 0) (pa_cons (pv 1) (pa_cons pe_int pa_nil)))))
    (pss_cons (ps_set (i := 3) sc__law_right.nd rfl (by first | exact Or.inl rfl | exact Or.inr rfl) (pe_cal c__law_at_once_so (hr.mono (by omega)) (by rfl) (pa_cons (pv 1) (pa_cons (pv 2) pa_nil))))
    (pss_cons (ps_set (i := 4) sc__law_right.nd rfl (by first | exact Or.inl rfl | exact Or.inr rfl) (pe_lst (pa_cons (pe_cal c_paid_at_once (hr.mono (by omega)) (by rfl) (pa_cons (pv 1) (pa_cons (pv 2) pa_nil))) (pa_cons (pe_cal c_paid_at_once (hr.mono (by omega)) (by rfl) (pa_cons (pe_cal c__law_lists (hr.mono (by omega)) (by rfl) (pa_cons (pv 1) pa_nil)) (pa_cons (pe_cal c__law_lists (hr.mono (by omega)) (by rfl) (pa_cons (pv 2) pa_nil)) pa_nil))) pa_nil))))
    (pss_cons (ps_set (i := 4) sc__law_right.nd rfl (by first | exact Or.inl rfl | exact Or.inr rfl) (pe_op op_cat (pv 4) (pe_lst (pa_cons (pe_cal c_cost_at_once (hr.mono (by omega)) (by rfl) (pa_cons (pv 1) (pa_cons (pv 2) pa_nil))) pa_nil))))
    (pss_cons (ps_if (pt_not (pt_val (pe_cal c__law_same (hr.mono (by omega)) (by rfl) (pa_cons (pv 4) (pa_cons (pe_lst (pa_cons (pv 3) (pa_cons (pv 3) (pa_cons (pe_callB (sumTK (K := K) rfl) (by rfl) B.sum_ (by decide +kernel) (pa_cons (pv 3) pa_nil)) pa_nil)))) pa_nil))))) (pss_one (ps_ret pe_bl)) pss_nil)
    (pss_cons (ps_set (i := 5) sc__law_right.nd rfl (by first | exact Or.inl rfl | exact Or.inr rfl) (pe_cal c__law_take (hr.mono (by omega)) (by rfl) (pa_cons (pv 0) (pa_cons (pe_callB (lenK (K := K)) (by rfl) B.len_ (by decide +kernel) (pa_cons (pv 2) pa_nil)) pa_nil))))
    (pss_cons (ps_if (pt_not (pt_val (pe_cal c__law_same (hr.mono (by omega)) (by rfl) (pa_cons (pe_cal c_paid_at_once (hr.mono (by omega)) (by rfl) (pa_cons (pv 1) (pa_cons (pe_slice (sl_tupK (K := K)) (pv 2) po_none (po_some (pv 5))) pa_nil))) (pa_cons (pe_slice (sl_tupK (K := K)) (pv 3) po_none (po_some (pv 5))) pa_nil))))) (pss_one (ps_ret pe_bl)) pss_nil)
    (pss_cons (ps_set (i := 6) sc__law_right.nd rfl (by first | exact Or.inl rfl | exact Or.inr rfl) (pe_callB (sumK (K := K) rfl) (by rfl) B.sum_ (by decide +kernel) (pa_cons (pe_lc (own := [("_law_own", 7)]) (g := (gName 7)) rfl sc__law_right.nd (pi_tupK (K := K) (pe_cal c_unforced (hr.mono (by omega)) (by rfl) (pa_cons (pv 1) (pa_cons (pv 2) pa_nil)))) (blkOk_by (own := [("_law_own", 7)]) (N := ["_law_tin", "_law_house_so", "_law_tale_so", "_law_due", "_law_got", "_law_k", "_law_left_so", "_law_own"]) (sc := defScope s__law_right) (by decide +kernel)) (fun _ _ _ _ _ => (pg_name (i := 7) sc__law_right.nd rfl (by first | exact Or.inl rfl | exact Or.inr rfl))) (fun _ _ _ _ _ => pts_nil) (fun _ _ _ _ _ => (pe_ix (ix_tupK (K := K)) (pe_ix (ix_tupK (K := K)) (pe_ix (ix_tupK (K := K)) (pe_ix (ix_tupK (K := K)) (pe_ix (ix_tupK (K := K)) (pv 1) pe_int (fun _ _ => rfl)) (pe_ix (ix_tupK (K := K)) (pe_ix (ix_tupK (K := K)) (pv 2) (pe_ix (ix_tupK (K := K)) (pv 7) pe_int (fun _ _ => rfl)) (fun _ _ => rfl)) pe_int (fun _ _ => rfl)) (fun _ _ => rfl)) pe_int (fun _ _ => rfl)) (pe_ix (ix_tupK (K := K)) (pv 7) pe_int (fun _ _ => rfl)) (fun _ _ => rfl)) pe_int (fun _ _ => rfl)))) pa_nil)))
    (pss_one (ps_ret (pe_cal c__law_same (hr.mono (by omega)) (by rfl) (pa_cons (pe_cal c_cost_at_once (hr.mono (by omega)) (by rfl) (pa_cons (pv 1) (pa_cons (pv 2) pa_nil))) (pa_cons (pe_op op_add (pe_cal c__law_cost (hr.mono (by omega)) (by rfl) (pa_cons (pv 1) (pa_cons (pv 2) pa_nil))) (pv 6)) pa_nil)))))))))))))), fun ds μ Φ Ψ h => ?_⟩)
  · obtain ⟨t, rfl, _⟩ := h; rfl
  · obtain ⟨t, rfl, rfl, ht, k⟩ := h
    refine wS_seq (wS_set (wE_mono (Ψ := fun d μ1 => ∃ (c : Craft) (t1 : List Dt), d = craftD c ∧ μ1 = [.lst t1] ∧ okCraft c ∧ okFirst c ∧ TinL t1 1000) ?_ ?_))
    · walk_at "D"
      refine ⟨t, [], 1999, 3, rfl, rfl, ht, by decide, by decide, fun x t1 hx ht1 => ?_⟩
      walk_at "D"
      refine ⟨fun _ => ?_, fun _ => ?_⟩
      · walk_at "D"
        exact ⟨t1, [], 1000, rfl, rfl, ht1.mono (by decide), fun c t2 h1 h2 h3 => ⟨c, t2, rfl, rfl, h1, h2, h3⟩⟩
      · walk_at "D"
        exact ⟨t1, [], 1000, rfl, rfl, ht1.mono (by decide), fun c t2 h1 h2 h3 => ⟨c, t2, rfl, rfl, h1, h2, h3⟩⟩
    rintro d μ1 ⟨c, t1, rfl, rfl, okc, okf, ht1⟩
    walk_at "D"
    refine ⟨t1, [], 900, c, rfl, rfl, ht1, okc, okf, fun wb t2 okw hne few ht2 => ?_⟩
    have tc := to_craft okc
    have tw := to_web okc okw
    have al : (atOnce c wb).length ≤ 1000 := by unfold atOnce; rw [List.length_map]; omega
    walk_at "D"
    refine ⟨_, ⟨c, wb, rfl, okc, okw, few, rfl⟩, ?_⟩
    walk_at "D"
    refine wE_lst ?_
    walk_at "D"
    refine ⟨_, ⟨_, _, c, wb, rfl, tc.td, tc.same, okc, tw.td, tw.same, okw, rfl⟩, ?_⟩
    walk_at "D"
    refine ⟨_, ⟨_, rfl, tc, rfl⟩, ?_⟩
    walk_at "D"
    refine ⟨_, ⟨_, rfl, tw, rfl⟩, ?_⟩
    walk_at "D"
    refine ⟨_, ⟨_, _, c, wb, rfl, tc.lstd.1, tc.lstd.2, okc, tw.lstd.1, tw.lstd.2, okw, rfl⟩, ?_⟩
    walk_at "D"
    refine wE_lst ?_
    walk_at "D"
    refine ⟨_, ⟨_, _, c, wb, rfl, tc.td, tc.same, okc, tw.td, tw.same, okw, rfl⟩, ?_⟩
    walk_at "D"
    refine wO_cat rfl rfl (by simp) ?_
    walk_at "D"
    refine wE_lst ?_
    walk_at "D"
    refine wC_sumT rfl ?_
    walk_at "D"
    refine ⟨_, ⟨_, rfl, ts_list (ts_intsR _ al) (ts_intsR _ al) (.int _), rfl⟩, ?_⟩
    walk_at "D"
    have hpos : 0 < wb.length := List.length_pos_iff.mpr hne
    refine ⟨t2, [], 800, wb.length, by rw [List.length_map], rfl, ht2.mono (by decide), hpos, by omega, fun n t3 hn ht3 => ?_⟩
    walk_at "D"
    refine wSl_tup ?_
    rw [web_take]
    walk_at "D"
    refine ⟨_, ⟨_, _, c, wb.take n, rfl, tc.td, tc.same, okc, (to_web okc (okw.take n)).td, (to_web okc (okw.take n)).same, okw.take n, rfl⟩, ?_⟩
    walk_at "D"
    refine wSl_tup ?_
    rw [cut_take, ← List.map_take, ← once_take]
    walk_at "D"
    refine ⟨_, ⟨_, rfl, ts_intsR _ (by rw [once_take, List.length_take]; omega), rfl⟩, ?_⟩
    walk_at "D"
    refine wE_lc mono_name (only_name (by decide)) (wI_tup ?_)
    walk_at "D"
    refine ⟨c, wb, rfl, okc, okw, few, fun D us hD hu => ?_⟩
    have okn := news_ok okc okw
    have ul : us.length ≤ 1000 := by
      have := hu.length_eq
      have h2 := List.length_filter_le (fun p => !decide (p ∈ D)) ((news c wb).map (·.1))
      rw [List.length_map] at h2
      have := okn.few
      omega
    walk_at "D"
    refine ⟨by rw [List.length_map]; omega, comp_map (f := fun d => .int (costOf (news c wb) (spotOf d))) (fun d hd acc => ?_) (fun d hd => .int _) ?_⟩
    · obtain ⟨p, hp, rfl⟩ := List.mem_map.mp hd
      obtain ⟨x, hx, rfl⟩ := List.mem_map.mp (List.mem_filter.mp (hu.mem_iff.mp hp)).1
      obtain ⟨v2, row2, ws, s1, s2, s3⟩ := news_at okw hx
      walk_at "D"
      exact ⟨by rw [spotOf_spot, costOf_eq okn hx], rfl⟩
    walk_at "D"
    refine wC_sum (ns := us.map (costOf (news c wb))) rfl (by rw [List.nil_append, List.map_map, List.map_map]; exact List.map_congr_left fun p _ => by show Dt.int (costOf (news c wb) (spotOf (spotD p))) = _; rw [spotOf_spot]; rfl) ?_
    walk_at "D"
    refine ⟨_, ⟨_, _, c, wb, rfl, tc.td, tc.same, okc, tw.td, tw.same, okw, rfl⟩, ?_⟩
    walk_at "D"
    refine ⟨c, wb, rfl, okc, okw, few, fun rows rl hp => ?_⟩
    walk_at "D"
    refine ⟨_, ⟨_, by rw [once_sum okc okw rl hp hD hu], .int _, rfl⟩, .same (k t3)⟩
end
end PB
/-! F26: defs that raise; a call by keywords alone -/
namespace DL
open PySem PySem.Spec PyProof.Rows L2
/-- Unfit() -/
theorem pmk_own0 {X : Cx} {C : Addr} {bmB : List Value} {B newId initId : String} {x : Str} {p pos : Pos} (F : ExcBaseFacts B newId initId bmB) (q : PySem.W.excIn X.K C bmB newId = true) (gC : X.mg x = some (.ref C))
    (kC : PySem.W.keepIn X.K (.ref C) = true) (r : Raises X (.ref C)) (hg : Gl X x) (hdb : (x == ("__debug__" : Str)) = false := by decide) :
    PMk X (.Call (.Name x p) [] [] pos) (fun _ H Q => Q (.ref C) none H) := by
  intro pins s σ H Q I h
  refine wpAny_Call_Name_kw (ld_glob I hg gC ?_ hdb)
  refine PySem.W.callWith_K0 I.kIn kC ?_
  show wpAny _ _ (call (.ref C) []) _ _ _
  obtain ⟨bm, N, nm, qn, bs, hdct, sn, sub, ab, col, dd, k0, k1, k2, k3, k5, mN, hC, hN, hni, T⟩ := exc_obj I.kIn q
  refine wpAny_call_exc_subT F T hC hN hni (fun h' e hm => ?_) (by show 0 ≤ sizeLine; exact Nat.zero_le _)
  exact mk_of I hm r h (I.hok.gone hm.new)
/-- what the top has left of Unfit -/
structure Unf (K : PySem.W.Frag) (mg : Str → Option Value) (cU : Addr) : Prop where
  g : mg "Unfit" = some (.ref cU)
  x : PySem.W.excIn K cU [.type "ValueError", .type "Exception", .type "BaseException", .type "object"] "ValueError.__new__" = true
  k : PySem.W.keepIn K (.ref cU) = true
  b : PySem.W.subIn K (.ref cU) (.type "BaseException") = some true
  t : PySem.W.typeIn K (.ref cU) = some (.type "type")
  i : PySem.W.isClsIn K cU = true
  s : PySem.W.subIn K (.ref cU) (.ref cU) = some true
theorem exm_self {K : PySem.W.Frag} {S : Addr} (h1 : PySem.W.subIn K (.ref S) (.type "BaseException") = some true) (h2 : PySem.W.isClsIn K S = true) (h3 : PySem.W.typeIn K (.ref S) = some (.type "type")) (h4 : PySem.W.subIn K (.ref S) (.ref S) = some true) :
    PySem.W.exmOne K (.ref S) (.ref S) = some true := by
  have e1 : (PySem.W.subIn K (.ref S) (.type "BaseException") == some true) = true := by rw [h1] <;> rfl
  have e2 : ((PySem.W.clsIn K S).isSome && PySem.W.typeIn K (.ref S) == some (.type "type")) = true := by
    have h2' : (PySem.W.clsIn K S).isSome = true := h2
    rw [h2', h3] <;> rfl
  show (if (PySem.W.subIn K (.ref S) (.type "BaseException") == some true) = true then (if ((PySem.W.clsIn K S).isSome && PySem.W.typeIn K (.ref S) == some (.type "type")) = true then PySem.W.subIn K (.ref S) (.ref S) else none) else none) = some true
  rw [if_pos e1, if_pos e2]
  exact h4
/-- raise Unfit() -/
def tRaiseU (cU : Addr) (W : WX) : TS := fun _ σ H => W (.ref cU) none σ H
theorem ps_raiseU {X : Cx} {cU : Addr} {W : WX} {p pos pos2 : Pos} (hc : X.calm = true) (U : Unf X.K X.mg cU) (tk : Takes X W) (hg : Gl X "Unfit" := by rfl) : PS X (.Raise (some (.Call (.Name "Unfit" p) [] [] pos)) none pos2) (tRaiseU cU W) :=
  ps_raise hc tk (pmk_own0 PySem.F.excBase_ValueError U.x U.g U.k (raises_own U.b U.t) hg)

/-! ### defs that raise -/
structure CalX (P : Program) (w : World) (K : PySem.W.Frag) (mg : Str → Option Value) (base : Heap) (k : Nat) (x : Str) (ps : List Str) (sp : Sp) : Prop where
  ex : ∃ f fd, FnOk P w K mg base (L2.CX P w) k f fd ps sp ∧ mg x = some (.ref f) ∧ PySem.W.keepIn K (.ref f) = true ∧ Binds K fd ps []
theorem pe_calX {X : Cx} {k : Nat} {x : Str} {ps : List Str} {sp : Sp} {p pos : Pos} {e : Expr} {es : List Expr} {t : TA} {E : XK} (c : CalX X.prog X.w X.K X.mg X.base k x ps sp) (hr : Room k X.A) (hg : Gl X x) (tk : Takes X fun cls d _ H => E cls d H)
    (ha : PA X (e :: es) t) (hdb : (x == ("__debug__" : Str)) = false := by decide) (he : starEach (e :: es) X.env = (false, eval e X.env) :: starEach es X.env := by rfl) (hpl : (backTo pos (starEach es X.env)).any (·.1) = false := by rfl) :
    PE X (.Call (.Name x p) (e :: es) [] pos) (tCall sp [] E t) := by
  obtain ⟨f, fd, F, hm, hk, hb⟩ := c.ex
  exact pe_call F hr hg hm hk hb .nil (passes_call tk fun _ _ _ _ h => h) ha hdb he hpl
theorem pe_calS {X : Cx} {k : Nat} {x : Str} {ps : List Str} {sp : Sp} {p pos : Pos} {e : Expr} {es : List Expr} {t : TA} {W : WX} (c : CalX X.prog X.w X.K X.mg X.base k x ps sp) (hr : Room k X.A) (hg : Gl X x) (tk : Takes X W)
    (ha : PA X (e :: es) t) (hdb : (x == ("__debug__" : Str)) = false := by decide) (he : starEach (e :: es) X.env = (false, eval e X.env) :: starEach es X.env := by rfl) (hpl : (backTo pos (starEach es X.env)).any (·.1) = false := by rfl) :
    PE X (.Call (.Name x p) (e :: es) [] pos) (tCallS sp (WE W) t) := by
  obtain ⟨f, fd, F, hm, hk, hb⟩ := c.ex
  exact pe_callS F hr hg hm hk hb (fun σ => passAt tk σ) ha hdb he hpl
section
variable {P : Program} {w : World} {K : PySem.W.Frag} {mg : Str → Option Value} {base : Heap} {cU : Addr}
theorem CalX.mono {j k : Nat} {x : Str} {ps : List Str} {sp : Sp} (c : CalX P w K mg base j x ps sp) (h : j ≤ k) : CalX P w K mg base k x ps sp := by
  obtain ⟨f, fd, F, r⟩ := c.ex
  exact ⟨f, fd, F.mono h, r⟩
theorem fnX {x : Str} {st : Stmt} {N ps : List Str} (k : Nat) {C : Con} (hx : HasFn K mg x st ps) (S : FnScope N ps (defScope st)) (hl : ∀ ds μ Φ Ψ, C ds μ Φ Ψ → ds.length = ps.length)
    (hb : ∀ (f : Addr) (cdv : Value) (A : Around) (outer : List Env) (s : Shared) (H : Hp) (E : XK), Room k (A.deeper (envOfC x (defScope st) s.heap.objs.size f cdv)) → ∃ t, PSs (cxOf (L2.CX P w) P w K mg base N x (defScope st) f cdv A outer s H E) (defBody st) t ∧
      ∀ ds μ Φ Ψ, C ds μ Φ Ψ → wS (fun H' => E (.ref cU) none H') t (startD N.length ds) μ { nx := fun _ μ' => Ret μ.length Φ .non μ', rt := Ret μ.length Φ, ex := fun μ' => Ψ (μ'.take μ.length) }) : CalX P w K mg base (k + 1) x ps (spD cU C) := by
  obtain ⟨f, fd, F, hm, hbd⟩ := hx.ex
  refine ⟨f, fd, F.okX S (fun vs H Q E h => ?_) (fun cdv A outer s H vs Q E hrm h => ?_), hm, F.kp, hbd⟩
  · obtain ⟨α, ds, μ, Φ, Ψ, R, D, c, _⟩ := h
    rw [D.length]; exact hl _ _ _ _ c
  · obtain ⟨t, ht, hr⟩ := hb f cdv A outer s H E hrm
    refine ⟨t, ht, ?_⟩
    obtain ⟨α, ds, μ, Φ, Ψ, R, D, c, q, qe⟩ := h
    refine hr ds μ Φ Ψ c _ H α _ (start_rel R D) ⟨fun σ' H' α' δ' μ' n R' k => ret_ok R q n R'.rm .non k, fun v H' α' d μ' n R' D' k => ret_ok R q n R' D' k, fun _ _ _ _ _ _ _ k => k.elim, fun _ _ _ _ _ _ _ k => k.elim, fun H' α' μ' n R' k => ?_⟩
    exact qe H' _ _ (n.cut (k := μ.length) (Nat.le_of_eq R.len)) (R'.cut _) k
end
/-- it raises, surely -/
def wEX (te : TE) (δ : Sl) (μ : List MO) (X : Hp → Prop) (Ψ : List MO → Prop) : Prop :=
  ∀ (σ : L2.St) (H : Hp) (α : List Addr) (Q : VK), Rel H α σ δ μ → (∀ H' α' μ', Nx α H α' H' → RM H' α' μ' → Ψ μ' → X H') → te σ H Q
def wAX (ta : TA) (δ : Sl) (μ : List MO) (X : Hp → Prop) (Ψ : List MO → Prop) : Prop :=
  ∀ (σ : L2.St) (H : Hp) (α : List Addr) (Q : List V → Hp → Prop), Rel H α σ δ μ → (∀ H' α' μ', Nx α H α' H' → RM H' α' μ' → Ψ μ' → X H') → ta σ H Q
section
variable {X : Hp → Prop} {te : TE} {t : TA} {δ : Sl} {μ : List MO} {Ψ : List MO → Prop} {P : DE} {C : Con} {cU : Addr} {E : XK}
theorem wEX_call (hE : ∀ H, X H → E (.ref cU) none H) (h : wA t δ μ fun ds μ1 => C ds μ1 (fun _ _ => False) Ψ) : wEX (tCall (spD cU C) [] E t) δ μ X Ψ := fun σ H α Q R q =>
  h σ H α _ R fun vs H1 α1 ds μ1 n1 R1 D1 c => by
    show spD cU C (vs ++ []) H1 Q E
    rw [List.append_nil]
    exact ⟨α1, ds, μ1, _, _, R1, D1, c, fun v H' α' d μ' n R' D' k => k.elim, fun H' α' μ' n R' k => hE H' (q H' α' μ' (n1.trans n) R' k)⟩
theorem wAX_head (h : wEX te δ μ X Ψ) : wAX (tCons te t) δ μ X Ψ := fun σ H α Q R q => h σ H α _ R q
theorem wEX_cb {f : List V → Hp → VK → Prop} (h : wAX t δ μ X Ψ) : wEX (tCB f t) δ μ X Ψ := fun σ H α Q R q => h σ H α _ R q
theorem wS_asgX {g : TG} (h : wEX te δ μ X P.ex) : wS X (tAsg te g) δ μ P := fun σ H α D R f => h σ H α _ R fun H' α' μ' n R' k => f.ex H' α' μ' n R' k
theorem wS_retX (h : wEX te δ μ X P.ex) : wS X (tRet te) δ μ P := fun σ H α D R f => h σ H α _ R fun H' α' μ' n R' k => f.ex H' α' μ' n R' k
theorem wS_parX {i j : Nat} {tr : TA} (h : wAX tr δ μ X P.ex) : wS X (tPar i j tr) δ μ P := fun σ H α D R f => h σ H α _ R fun H' α' μ' n R' k => f.ex H' α' μ' n R' k
theorem wS_raiseU {W : WX} (hW : ∀ σ H, X H → W (.ref cU) none σ H) (k : P.ex μ) : wS X (tRaiseU cU W) δ μ P := fun σ H α D R f => hW σ H (f.ex H α μ .refl R.rm k)
end

/-! ### a call by keywords alone -/
theorem pe_callK0 {X : Cx} {CX : CXT} {k : Nat} {f : Addr} {fd : FuncData} {ps ks : List Str} {sp : Sp} {E : XK} {x : Str} {p pos : Pos} {kws : List Keyword} {tk : TA} {g : List Value → List Value → List Value} {gV : List V → List V → List V}
    (F : FnOk X.prog X.w X.K X.mg X.base CX k f fd ps sp) (hr : Room k X.A) (hg : Gl X x) (hm : X.mg x = some (.ref f)) (hk : PySem.W.keepIn X.K (.ref f) = true) (hb : KBinds X.K fd ps ks g gV) (hx : Passes CX X E)
    (hkw : PK X kws tk) (hall : (backToKw pos (keywordEach kws X.env)).all (·.1.isSome) = true := by rfl) (hks : (backToKw pos (keywordEach kws X.env)).filterMap (·.1) = ks := by rfl)
    (hdb : (x == ("__debug__" : Str)) = false := by decide) (hpl : ((backTo pos (starEach [] X.env)).any (·.1) || (backToKw pos (keywordEach kws X.env)).any (·.1.isNone)) = false := by rfl) :
    PE X (.Call (.Name x p) [] kws pos) (tCallK sp gV E tNil tk) := by
  refine ⟨fun pins s σ H Q I h => ?_⟩
  refine wpAny_Call_Name_kw (ld_glob I hg hm ?_ hdb)
  refine PySem.W.callWith_KW0 (h₀ := X.base) I.ok.mod.kin hk hall ?_ hpl
  refine thn (hkw.run pos pins s σ H _ I h) fun ws s2 ⟨zs, H2, I2, rz, q2⟩ => ⟨I2.kIn, ?_⟩
  rw [hks]
  exact run_fnk (us := []) (vs := []) F hr hb hx I2 .nil rz q2
theorem vals_rev : ∀ {xs : List V} {us : List Value}, Vals xs us → Vals xs.reverse us.reverse
  | _, _, .nil => .nil
  | _, _, .cons h t => by
    rw [List.reverse_cons, List.reverse_cons]
    exact (vals_rev t).append (.cons h .nil)
/-- keywords alone, from the last parameter on -/
def gRev {α : Type} (us ws : List α) : List α := match us with
  | [] => ws.reverse
  | _ => []
def tCalK (sp : Sp) (tk : TA) : TE := fun σ H Q => tk σ H fun zs H2 => sp zs.reverse H2 Q E0
theorem pe_calK {X : Cx} {k : Nat} {x : Str} {st : Stmt} {ps ks : List Str} {sp : Sp} {p pos : Pos} {kws : List Keyword} {tk : TA} (c : Cal X.prog X.w X.K X.mg X.base k x ps sp) (T : HasFn X.K X.mg x st ps) (hr : Room k X.A) (hg : Gl X x) (hkw : PK X kws tk)
    (hb : ∀ (kV doc pm : Value) (an : Option Addr) (cdv ct : Value) (ws : List Value), ws.length = ps.length → bindArgs (PySem.W.fnOf x x (defArgs st) (defBody st) (defScope st) .none kV doc pm an cdv ct) ⟨[], ks.zip ws⟩ = pure (ps.zip ws.reverse))
    (hps : ps ≠ []) (hall : (backToKw pos (keywordEach kws X.env)).all (·.1.isSome) = true := by rfl) (hks : (backToKw pos (keywordEach kws X.env)).filterMap (·.1) = ks := by rfl)
    (hdb : (x == ("__debug__" : Str)) = false := by decide) (hpl : ((backTo pos (starEach [] X.env)).any (·.1) || (backToKw pos (keywordEach kws X.env)).any (·.1.isNone)) = false := by rfl) :
    PE X (.Call (.Name x p) [] kws pos) (tCalK sp tk) := by
  obtain ⟨f, fd, F, hm, hk, _, oc, od, osl, lk⟩ := c.ex
  obtain ⟨f', fd', F', hm', _⟩ := T.ex
  rw [hm] at hm'
  cases hm'
  obtain ⟨oc', od', kV, doc, pm, an, cdv, ct, osl', rfl, lk', hcd⟩ := F'.ex
  rw [lk] at lk'
  cases lk'
  have kb : KBinds X.K (PySem.W.fnOf x x (defArgs st) (defBody st) (defScope st) .none kV doc pm an cdv ct) ps ks gRev gRev := by
    refine ⟨fun s us ws _ hl => ?_, fun r rz => ?_⟩
    · cases us with
      | nil =>
        refine .of_eq (hb kV doc pm an cdv ct ws ?_)
        have : ws.reverse.length = ps.length := hl
        rwa [List.length_reverse] at this
      | cons u us =>
        have : 0 = ps.length := hl
        exact absurd (List.eq_nil_of_length_eq_zero this.symm) hps
    · cases r with
      | nil => exact vals_rev rz
      | cons _ _ => exact .nil
  exact pe_callK0 F hr hg hm hk kb pass0 hkw hall hks hdb hpl
theorem wE_calK {cU : Addr} {C : Con} {tk : TA} {δ : Sl} {μ : List MO} {Φ : DK} (h : wA tk δ μ fun ds μ1 => C ds.reverse μ1 Φ fun _ => False) : wE (tCalK (spD cU C) tk) δ μ Φ := fun σ H α Q R q =>
  h σ H α _ R fun vs H1 α1 ds μ1 n1 R1 D1 c =>
    ⟨α1, ds.reverse, μ1, Φ, _, R1, D1.reverse, c, fun v H' α' d μ' n R' D' k => q v H' α' d μ' (n1.trans n) R' D' k, fun _ _ _ _ _ k => k.elim⟩
/-- a list made of two, as a register -/
theorem wO_catR {x y : Dt} {ds es : List Dt} {μ : List MO} {Φ : DK} (hx : lstOf μ x = some ds) (hy : lstOf μ y = some es) (hl : ds.length + es.length ≤ 100000) (p : PuL ds) (p2 : PuL es) (k : Φ (.reg μ.length) (μ ++ [.lst (ds ++ es)])) : wO rCat x y μ Φ := fun H α v w Q R D1 D2 q => by
  obtain ⟨a, xs, rfl, e1, k1⟩ := lst_at R D1 hx
  obtain ⟨b, ys, rfl, e2, k2⟩ := lst_at R D2 hy
  exact ⟨_, _, _, _, rfl, rfl, e1, e2, by rw [k1.length, k2.length]; exact size_ok hl, fun l hl => q _ _ (α ++ [l]) _ _ (.reg hl) (reg_lst R hl ((k1.append k2).pure (p.append p2))) (.reg (by rw [← R.len]; exact get_reg)) k⟩
end DL
namespace PB
open PySem PySem.Spec PyProof.Rows L2 DL
/-! what is refused -/
abbrev noRowsD (sizes : List Nat) : Dt := .tup [.tup (sizes.map natD), .tup []]
def badC (d : Dt) : Prop := ∃ sizes : List Nat, TD 7 d ∧ tupd d = noRowsD sizes ∧ 0 < sizes.length ∧ sizes.length ≤ 10
def badW (d e : Dt) : Prop := ∃ (c : Craft) (v : Ver), TD 7 d ∧ tupd d = craftD c ∧ okCraft c ∧ TD 7 e ∧ tupd e = webD [v] ∧ badVer c v
/-- no craft, or a web that begins with heirs -/
def badIn (d e : Dt) : Prop := badC d ∧ TD 7 e ∨ badW d e
local macro_rules | `(tactic| walk_at "ix") => `(tactic| first
  | with_reducible exact at0 | with_reducible exact at1 | with_reducible exact at2 | with_reducible exact at3 | with_reducible exact at4 | with_reducible exact at_map (by assumption) | with_reducible exact at_nat (by assumption)
  | exact at0 | exact at1 | exact at2 | exact at3 | exact at4 | exact at_nat (by assumption) | exact at_map (by assumption) | rfl)
local macro_rules | `(tactic| walk_at "b") => `(tactic| first
  | refine ⟨true, rfl, fun _ => ?_, fun hx => tf hx⟩
  | refine ⟨false, rfl, fun hx => ft hx, fun _ => ?_⟩
  | refine ⟨true, rfl, fun hx => ft hx, fun _ => ?_⟩
  | refine ⟨false, rfl, fun _ => ?_, fun hx => tf hx⟩
  | refine ⟨_, rfl, ?_⟩)
local macro_rules | `(tactic| walk_at "t") => `(tactic| first
  | refine ⟨Nat.le_of_ble_eq_true rfl, ?_⟩
  | refine ⟨fun _ => ?_, fun hx => tf hx⟩
  | refine ⟨fun hx => ft hx, fun _ => ?_⟩)
local macro_rules | `(tactic| walk_at "isi") => `(tactic| first
  | refine wC_isi rfl k_ii ?_ | refine wC_isi rfl k_ib ?_ | refine wC_isi rfl k_tt ?_ | refine wC_isi rfl k_tl ?_ | refine wC_isi rfl k_ll ?_ | refine wC_isi rfl k_lt ?_ | refine wC_isi rfl k_sb ?_ | refine wC_isi rfl k_si ?_
  | refine wC_isi rfl k_bb ?_ | refine wC_isi rfl k_bi ?_ | refine wC_isi rfl k_st ?_ | refine wC_isi rfl k_sl ?_ | refine wC_isi rfl k_il ?_ | refine wC_isi rfl k_it ?_
  | refine wC_isi2 rfl k_tl k_tt ?_ | refine wC_isi2 rfl k_ll k_lt ?_ | refine wC_isi2 rfl k_il k_it ?_ | refine wC_isi2 rfl k_sl k_st ?_ | refine wC_isi2 rfl k_ib k_is ?_ | refine wC_isi2 rfl k_sb k_ss ?_)
local macro_rules | `(tactic| walk_at "dE") => `(tactic| first
  | with_reducible refine wE_var rfl ?_ | with_reducible refine wE_op ?_ | with_reducible refine wE_int ?_ | with_reducible refine wE_call ?_ | with_reducible refine wE_str ?_
  | with_reducible refine wE_lenSet ?_ | with_reducible refine wE_sortedSet ?_ | with_reducible refine wE_cb ?_ | with_reducible refine wE_and ?_ | with_reducible refine wE_or ?_ | with_reducible refine wE_not ?_ | with_reducible refine wE_if ?_
  | with_reducible refine wE_tup ?_ | with_reducible refine wE_ty ?_ | with_reducible refine wE_bl ?_ | with_reducible refine wE_non ?_ | with_reducible refine wE_chain ?_ | with_reducible refine wE_un ?_ | with_reducible refine wE_slice ?_)
local macro_rules | `(tactic| walk_at "dS") => `(tactic| first
  | with_reducible refine wS_seq ?_ | with_reducible refine wS_set ?_ | with_reducible refine wS_if ?_ | with_reducible refine wS_drop ?_ | with_reducible refine wS_next ?_ | with_reducible refine wS_ret ?_ | with_reducible refine wS_asg ?_
  | with_reducible refine wS_cont ?_ | with_reducible refine wS_par ?_ | with_reducible refine wS_for ?_)
local macro_rules | `(tactic| walk_at "dT") => `(tactic| first
  | with_reducible refine wT_test ?_ | with_reducible refine wT_B ?_ | with_reducible refine wT_and ?_ | with_reducible refine wT_or ?_ | with_reducible refine wT_not ?_)
local macro_rules | `(tactic| walk_at "dO") => `(tactic| first
  | with_reducible refine wO_int ?_ | with_reducible refine wO_intB ?_ | with_reducible refine wO_eqI ?_ | with_reducible refine wO_eqS ?_ | with_reducible refine wO_neI ?_ | with_reducible refine wO_eqB ?_ | with_reducible refine wO_neB ?_
  | with_reducible refine wO_isN ?_ | with_reducible refine wO_notN ?_ | (refine wO_ixT (by walk_at "ix") ?_))
local macro_rules | `(tactic| walk_at "dC") => `(tactic| first
  | walk_at "isi" | (refine wC_len (.inl rfl) ?_) | with_reducible refine wC_intI ?_ | with_reducible refine wC_intB ?_ | with_reducible refine wC_abs ?_ | with_reducible refine wC_min ?_)
local macro_rules | `(tactic| walk_at "d") => `(tactic| first
  | ((with_reducible refine isE ?_); walk_at "dE")
  | ((with_reducible refine isA ?_); first | with_reducible refine wA_cons ?_ | with_reducible refine wA_nil ?_)
  | ((with_reducible refine isO ?_); walk_at "dO")
  | ((with_reducible refine isS ?_); walk_at "dS")
  | ((with_reducible refine isT ?_); walk_at "dT")
  | ((with_reducible refine isC ?_); walk_at "dC")
  | with_reducible refine wG_name ?_ | ((with_reducible refine isG ?_); refine wG_tup rfl ?_) | with_reducible refine wGs_cons ?_ | with_reducible refine wGs_nil ?_
  | with_reducible refine forL_cons ?_ | with_reducible refine forL_nil ?_
  | with_reducible refine wP_none ?_ | with_reducible refine wP_some ?_)
local macro_rules | `(tactic| walk_at "D") => `(tactic| repeat (first | walk_at "d" | walk_at "t" | walk_at "b"))

section
variable {P : Program} {w : World} {K : PySem.W.Frag} {mg : Str → Option Value} {base : Heap} {cU : Addr}
def CSureCX : Con := fun ds μ Φ Ψ => ∃ d : Dt, ds = [d] ∧ ((∃ c : Craft, TD 7 d ∧ tupd d = craftD c ∧ okCraft c ∧ Φ (craftD c) μ) ∨ (badC d ∧ Ψ μ))
theorem c_sure_craftX (U : Unf K mg cU) (T_sure_craft : HasFn K mg "sure_craft" s_sure_craft ["craft"]) (B : Bt mg) (c_tupled : Cal P w K mg base 8 "tupled" ["value"] (spD cU (PC (RT 8)))) (c_is_craft : Cal P w K mg base 7 "is_craft" ["thing"] (spD cU (PC RCraft))) : CalX P w K mg base (8 + 1) "sure_craft" ["craft"] (spD cU (CSureCX)) := by
  refine fnX (8) T_sure_craft sc_sure_craft (fun ds μ Φ Ψ h => ?_) (fun f cdv A outer s H E hr => ⟨_,
    (pss_cons (ps_set (i := 1) sc_sure_craft.nd rfl (by first | exact Or.inl rfl | exact Or.inr rfl) (pe_cal c_tupled (hr.mono (by omega)) (by rfl) (pa_cons (pv 0) pa_nil)))
    (pss_cons (ps_if (pt_not (pt_val (pe_cal c_is_craft (hr.mono (by omega)) (by rfl) (pa_cons (pv 1) pa_nil)))) (pss_one (ps_raiseU rfl U (takes_of rfl rfl rfl rfl))) pss_nil)
    (PSs.nox (pss_one (ps_ret (pv 1)))))), fun ds μ Φ Ψ h => ?_⟩)
  · obtain ⟨d, rfl, _⟩ := h; rfl
  · obtain ⟨d, rfl, h⟩ := h
    rcases h with ⟨c, td, e, ok, k⟩ | ⟨⟨sizes, td, e, h1, h2⟩, k⟩
    · walk_at "D"
      refine ⟨_, ⟨d, rfl, td, rfl⟩, ?_⟩
      rw [e]
      walk_at "D"
      refine ⟨_, .inl ⟨c, rfl, ok, rfl⟩, ?_⟩
      walk_at "D"
      exact .same k
    · walk_at "D"
      refine ⟨_, ⟨d, rfl, td, rfl⟩, ?_⟩
      rw [e]
      walk_at "D"
      refine ⟨_, .inr ⟨sizes, rfl, h1, h2, rfl⟩, ?_⟩
      walk_at "D"
      refine wS_raiseU (fun _ _ h => h) ?_
      show Ψ (μ.take μ.length)
      rw [List.take_length]; exact k
def CBad : Con := fun ds μ Φ Ψ => ∃ d e : Dt, ds = [d, e] ∧ badIn d e ∧ Ψ μ
theorem c_sure_webX (U : Unf K mg cU) (T_sure_web : HasFn K mg "sure_web" s_sure_web ["craft", "web"]) (B : Bt mg) (c_sure_craftX : CalX P w K mg base 9 "sure_craft" ["craft"] (spD cU CSureCX)) (c_tupled : Cal P w K mg base 8 "tupled" ["value"] (spD cU (PC (RT 8)))) (c_fits : Cal P w K mg base 5 "fits" ["craft", "thing"] (spD cU (PC RFits))) : CalX P w K mg base (9 + 1) "sure_web" ["craft", "web"] (spD cU (CBad)) := by
  refine fnX (9) T_sure_web sc_sure_web (fun ds μ Φ Ψ h => ?_) (fun f cdv A outer s H E hr => ⟨_,
    (pss_cons (ps_par (i := 2) (j := 3) rfl sc_sure_web.nd rfl rfl (by decide) rfl rfl (pa_cons (pe_calX c_sure_craftX (hr.mono (by omega)) (by rfl) (takes_of rfl rfl rfl rfl) (pa_cons (pv 0) pa_nil)) (pa_cons (pe_cal c_tupled (hr.mono (by omega)) (by rfl) (pa_cons (pv 1) pa_nil)) pa_nil)) (by rfl))
    (pss_cons (ps_if (pt_not (pt_val (pe_cal c_fits (hr.mono (by omega)) (by rfl) (pa_cons (pv 2) (pa_cons (pv 3) pa_nil))))) (pss_one (ps_raiseU rfl U (takes_of rfl rfl rfl rfl))) pss_nil)
    (PSs.nox (pss_one (ps_ret (pe_tup (pa_cons (pv 2) (pa_cons (pv 3) pa_nil)))))))), fun ds μ Φ Ψ h => ?_⟩)
  · obtain ⟨d, e, rfl, _⟩ := h; rfl
  · obtain ⟨d, e, rfl, h, k⟩ := h
    have k' : Ψ (μ.take μ.length) := by rw [List.take_length]; exact k
    rcases h with ⟨bc, te⟩ | ⟨c, v, t1, e1, okc, t2, e2, bv⟩
    · refine wS_seq (wS_parX (wAX_head (wEX_call (fun _ h => h) ?_)))
      walk_at "D"
      exact .inr ⟨bc, k'⟩
    · walk_at "D"
      refine .inl ⟨c, t1, e1, okc, ?_⟩
      walk_at "D"
      refine ⟨_, ⟨e, rfl, t2, rfl⟩, ?_⟩
      rw [e2]
      walk_at "D"
      refine ⟨_, _, rfl, ?_⟩
      walk_at "D"
      refine ⟨_, ⟨c, [v], rfl, okc, .inr ⟨v, rfl, bv, rfl⟩⟩, ?_⟩
      walk_at "D"
      exact wS_raiseU (fun _ _ h => h) k'
theorem c_paid_at_onceX (U : Unf K mg cU) (T_paid_at_once : HasFn K mg "paid_at_once" s_paid_at_once ["craft", "web"]) (B : Bt mg) (c_sure_webX : CalX P w K mg base 10 "sure_web" ["craft", "web"] (spD cU CBad)) : CalX P w K mg base (10 + 1) "paid_at_once" ["craft", "web"] (spD cU (CBad)) := by
  refine fnX (10) T_paid_at_once sc_paid_at_once (fun ds μ Φ Ψ h => ?_) (fun f cdv A outer s H E hr => ⟨_,
    (pss_cons (ps_asg (pe_calX c_sure_webX (hr.mono (by omega)) (by rfl) (takes_of rfl rfl rfl rfl) (pa_cons (pv 0) (pa_cons (pv 1) pa_nil))) (pg_tupK (K := K) (n := 2) rfl (pgs_cons (pg_name (i := 2) sc_paid_at_once.nd rfl (by first | exact Or.inl rfl | exact Or.inr rfl)) (pgs_cons (pg_name (i := 3) sc_paid_at_once.nd rfl (by first | exact Or.inl rfl | exact Or.inr rfl)) pgs_nil))))
    (PSs.nox (pss_cons (ps_set (i := 4) sc_paid_at_once.nd rfl (by first | exact Or.inl rfl | exact Or.inr rfl) (pe_lst pa_nil))
    (pss_cons (ps_for PassesOwn.never rfl (pi_tupK (K := K) (pv 3)) (pg_tupK (K := K) (n := 2) rfl (pgs_cons (pg_name (i := 5) sc_paid_at_once.nd rfl (by first | exact Or.inl rfl | exact Or.inr rfl)) (pgs_cons (pg_name (i := 6) sc_paid_at_once.nd rfl (by first | exact Or.inl rfl | exact Or.inr rfl)) pgs_nil))) (pss_cons (ps_asg (pe_ix (ix_tupK (K := K)) (pe_ix (ix_tupK (K := K)) (pv 2) pe_int (fun _ _ => rfl)) (pv 5) (fun _ _ => rfl)) (pg_tupK (K := K) (n := 5) rfl (pgs_cons (pg_name (i := 6) sc_paid_at_once.nd rfl (by first | exact Or.inl rfl | exact Or.inr rfl)) (pgs_cons (pg_name (i := 6) sc_paid_at_once.nd rfl (by first | exact Or.inl rfl | exact Or.inr rfl)) (pgs_cons (pg_name (i := 7) sc_paid_at_once.nd rfl (by first | exact Or.inl rfl | exact Or.inr rfl)) (pgs_cons (pg_name (i := 6) sc_paid_at_once.nd rfl (by first | exact Or.inl rfl | exact Or.inr rfl)) (pgs_cons (pg_name (i := 8) sc_paid_at_once.nd rfl (by first | exact Or.inl rfl | exact Or.inr rfl)) pgs_nil)))))))
    (pss_one (ps_expr (pe_bmK (K := K) PySem.F.plainAttrs_list PySem.F.slot_list_append PySem.F.type_list_append mt_append (pv 4) (pa_cons (pe_op op_add (pv 7) (pe_callB (sumK (K := K) rfl) (by rfl) B.sum_ (by decide +kernel) (pa_cons (pe_lc (own := [("filling", 9)]) (g := (gName 9)) rfl sc_paid_at_once.nd (pi_tupK (K := K) (pv 8)) (blkOk_by (own := [("filling", 9)]) (N := ["craft", "web", "own", "told", "found", "row", "_", "cost", "slots", "filling"]) (sc := defScope s_paid_at_once) (by decide +kernel)) (fun _ _ _ _ _ => (pg_name (i := 9) sc_paid_at_once.nd rfl (by first | exact Or.inl rfl | exact Or.inr rfl))) (fun _ _ _ _ _ => (pts_one (pt_cmpR op_eq (pe_ix (ix_tupK (K := K)) (pv 9) pe_int (fun _ _ => rfl)) pe_str (nomark _)))) (fun _ _ _ _ _ => (pe_ix (ix_tupK (K := K)) (pv 9) pe_int (fun _ _ => rfl)))) pa_nil))) pa_nil))))))
    (pss_one (ps_ret (pe_callTy (tupleK (K := K)) (by rfl) B.tuple_ (by decide +kernel) (pa_cons (pv 4) pa_nil)))))))), fun ds μ Φ Ψ h => ?_⟩)
  · obtain ⟨d, e, rfl, _⟩ := h; rfl
  · obtain ⟨d, e, rfl, h, k⟩ := h
    have k' : Ψ (μ.take μ.length) := by rw [List.take_length]; exact k
    refine wS_seq (wS_asgX (wEX_call (fun _ h => h) ?_))
    walk_at "D"
    exact ⟨d, e, rfl, h, k'⟩
theorem c_cost_at_onceX (U : Unf K mg cU) (T_cost_at_once : HasFn K mg "cost_at_once" s_cost_at_once ["craft", "web"]) (B : Bt mg) (c_paid_at_onceX : CalX P w K mg base 11 "paid_at_once" ["craft", "web"] (spD cU CBad)) : CalX P w K mg base (11 + 1) "cost_at_once" ["craft", "web"] (spD cU (CBad)) := by
  refine fnX (11) T_cost_at_once sc_cost_at_once (fun ds μ Φ Ψ h => ?_) (fun f cdv A outer s H E hr => ⟨_,
    (pss_one (ps_ret (pe_callB (sumTK (K := K) rfl) (by rfl) B.sum_ (by decide +kernel) (pa_cons (pe_calX c_paid_at_onceX (hr.mono (by omega)) (by rfl) (takes_of rfl rfl rfl rfl) (pa_cons (pv 0) (pa_cons (pv 1) pa_nil))) pa_nil)))), fun ds μ Φ Ψ h => ?_⟩)
  · obtain ⟨d, e, rfl, _⟩ := h; rfl
  · obtain ⟨d, e, rfl, h, k⟩ := h
    have k' : Ψ (μ.take μ.length) := by rw [List.take_length]; exact k
    refine wS_retX (wEX_cb (wAX_head (wEX_call (fun _ h => h) ?_)))
    walk_at "D"
    exact ⟨d, e, rfl, h, k'⟩
end
end PB
namespace PB
open PySem PySem.Spec PyProof.Rows L2 DL
section
variable {X : Hp → Prop} {te ta tb : TE} {tt : TT} {t : TA} {δ : Sl} {μ : List MO} {Ψ : List MO → Prop} {P : DE} {C : Con} {cU : Addr} {W : WX} {K : PySem.W.Frag}
/-- within a try: it raises Unfit, surely -/
def wES (cU : Addr) (W : WX) (te : TE) (δ : Sl) (μ : List MO) (Ψ : List MO → Prop) : Prop :=
  ∀ (σ : L2.St) (H : Hp) (α : List Addr) (Q : VK), Rel H α σ δ μ → (∀ H' α' μ', Nx α H α' H' → RM H' α' μ' → Ψ μ' → W (.ref cU) none σ H') → te σ H Q
theorem wES_call (h : wA t δ μ fun ds μ1 => C ds μ1 (fun _ _ => False) Ψ) : wES cU W (tCallS (spD cU C) (WE W) t) δ μ Ψ := fun σ H α Q R q =>
  h σ H α _ R fun vs H1 α1 ds μ1 n1 R1 D1 c => ⟨α1, ds, μ1, _, _, R1, D1, c, fun v H' α' d μ' n R' D' k => k.elim, fun H' α' μ' n R' k => q H' α' μ' (n1.trans n) R' k⟩
theorem wES_if (h : wT tt δ μ fun c μ1 => (c = true → wES cU W ta δ μ1 Ψ) ∧ (c = false → wES cU W tb δ μ1 Ψ)) : wES cU W (tIf tt ta tb) δ μ Ψ := fun σ H α Q R q =>
  h σ H α _ R fun c H1 α1 μ1 n1 R1 ⟨h1, h2⟩ => by
    cases c with
    | true => exact h1 rfl σ H1 α1 Q (R.nx n1 R1) fun H2 α2 μ2 n2 R2 k => q H2 α2 μ2 (n1.trans n2) R2 k
    | false => exact h2 rfl σ H1 α1 Q (R.nx n1 R1) fun H2 α2 μ2 n2 R2 k => q H2 α2 μ2 (n1.trans n2) R2 k
theorem wS_tryU {te : WX → TE} {s : Str} (hx : PySem.W.exmOne K (.ref cU) (.ref cU) = some true) (h : ∀ W : WX, wES cU W (te W) δ μ fun μ' => P.rt (.str s) μ') :
    wS X (fun D σ H => tRet (te (wOnly K (.ref cU) (fun _ _ _ => tRet (tC (.str s))) (fun _ _ _ _ => False) D)) D σ H) δ μ P := fun σ H α D R f =>
  h _ σ H α _ R fun H' α' μ' n R' k => ⟨true, hx, fun _ a _ => f.rt _ H' α' _ μ' n R' (.str s) k, fun z => nomatch z⟩
end
local macro_rules | `(tactic| walk_at "ix") => `(tactic| first
  | with_reducible exact at0 | with_reducible exact at1 | with_reducible exact at2 | with_reducible exact at3 | with_reducible exact at4 | with_reducible exact at_map (by assumption) | with_reducible exact at_nat (by assumption)
  | exact at0 | exact at1 | exact at2 | exact at3 | exact at4 | exact at_nat (by assumption) | exact at_map (by assumption) | rfl)
local macro_rules | `(tactic| walk_at "b") => `(tactic| first
  | refine ⟨true, rfl, fun _ => ?_, fun hx => tf hx⟩
  | refine ⟨false, rfl, fun hx => ft hx, fun _ => ?_⟩
  | refine ⟨true, rfl, fun hx => ft hx, fun _ => ?_⟩
  | refine ⟨false, rfl, fun _ => ?_, fun hx => tf hx⟩
  | refine ⟨_, rfl, ?_⟩)
local macro_rules | `(tactic| walk_at "t") => `(tactic| first
  | refine ⟨Nat.le_of_ble_eq_true rfl, ?_⟩
  | refine ⟨fun _ => ?_, fun hx => tf hx⟩
  | refine ⟨fun hx => ft hx, fun _ => ?_⟩)
local macro_rules | `(tactic| walk_at "isi") => `(tactic| first
  | refine wC_isi rfl k_ii ?_ | refine wC_isi rfl k_ib ?_ | refine wC_isi rfl k_tt ?_ | refine wC_isi rfl k_tl ?_ | refine wC_isi rfl k_ll ?_ | refine wC_isi rfl k_lt ?_ | refine wC_isi rfl k_sb ?_ | refine wC_isi rfl k_si ?_
  | refine wC_isi rfl k_bb ?_ | refine wC_isi rfl k_bi ?_ | refine wC_isi rfl k_st ?_ | refine wC_isi rfl k_sl ?_ | refine wC_isi rfl k_il ?_ | refine wC_isi rfl k_it ?_
  | refine wC_isi2 rfl k_tl k_tt ?_ | refine wC_isi2 rfl k_ll k_lt ?_ | refine wC_isi2 rfl k_il k_it ?_ | refine wC_isi2 rfl k_sl k_st ?_ | refine wC_isi2 rfl k_ib k_is ?_ | refine wC_isi2 rfl k_sb k_ss ?_)
local macro_rules | `(tactic| walk_at "dE") => `(tactic| first
  | with_reducible refine wE_var rfl ?_ | with_reducible refine wE_op ?_ | with_reducible refine wE_int ?_ | with_reducible refine wE_call ?_ | with_reducible refine wE_str ?_
  | with_reducible refine wE_lenSet ?_ | with_reducible refine wE_sortedSet ?_ | with_reducible refine wE_cb ?_ | with_reducible refine wE_and ?_ | with_reducible refine wE_or ?_ | with_reducible refine wE_not ?_ | with_reducible refine wE_if ?_
  | with_reducible refine wE_tup ?_ | with_reducible refine wE_ty ?_ | with_reducible refine wE_bl ?_ | with_reducible refine wE_non ?_ | with_reducible refine wE_chain ?_ | with_reducible refine wE_un ?_ | with_reducible refine wE_slice ?_)
local macro_rules | `(tactic| walk_at "dS") => `(tactic| first
  | with_reducible refine wS_seq ?_ | with_reducible refine wS_set ?_ | with_reducible refine wS_if ?_ | with_reducible refine wS_drop ?_ | with_reducible refine wS_next ?_ | with_reducible refine wS_ret ?_ | with_reducible refine wS_asg ?_
  | with_reducible refine wS_cont ?_ | with_reducible refine wS_par ?_ | with_reducible refine wS_for ?_)
local macro_rules | `(tactic| walk_at "dT") => `(tactic| first
  | with_reducible refine wT_test ?_ | with_reducible refine wT_B ?_ | with_reducible refine wT_and ?_ | with_reducible refine wT_or ?_ | with_reducible refine wT_not ?_)
local macro_rules | `(tactic| walk_at "dO") => `(tactic| first
  | with_reducible refine wO_int ?_ | with_reducible refine wO_intB ?_ | with_reducible refine wO_eqI ?_ | with_reducible refine wO_eqS ?_ | with_reducible refine wO_neI ?_ | with_reducible refine wO_eqB ?_ | with_reducible refine wO_neB ?_
  | with_reducible refine wO_isN ?_ | with_reducible refine wO_notN ?_ | (refine wO_ixT (by walk_at "ix") ?_))
local macro_rules | `(tactic| walk_at "dC") => `(tactic| first
  | walk_at "isi" | (refine wC_len (.inl rfl) ?_) | with_reducible refine wC_intI ?_ | with_reducible refine wC_intB ?_ | with_reducible refine wC_abs ?_ | with_reducible refine wC_min ?_)
local macro_rules | `(tactic| walk_at "d") => `(tactic| first
  | ((with_reducible refine isE ?_); walk_at "dE")
  | ((with_reducible refine isA ?_); first | with_reducible refine wA_cons ?_ | with_reducible refine wA_nil ?_)
  | ((with_reducible refine isO ?_); walk_at "dO")
  | ((with_reducible refine isS ?_); walk_at "dS")
  | ((with_reducible refine isT ?_); walk_at "dT")
  | ((with_reducible refine isC ?_); walk_at "dC")
  | with_reducible refine wG_name ?_ | ((with_reducible refine isG ?_); refine wG_tup rfl ?_) | with_reducible refine wGs_cons ?_ | with_reducible refine wGs_nil ?_
  | with_reducible refine forL_cons ?_ | with_reducible refine forL_nil ?_
  | with_reducible refine wP_none ?_ | with_reducible refine wP_some ?_)
local macro_rules | `(tactic| walk_at "D") => `(tactic| repeat (first | walk_at "d" | walk_at "t" | walk_at "b"))

section
variable {P : Program} {w : World} {K : PySem.W.Frag} {mg : Str → Option Value} {base : Heap} {cU : Addr}
def RRef (ds : List Dt) (r : Dt) : Prop := ∃ (door : Nat) (d e : Dt), ds = [natD door, d, e] ∧ badIn d e ∧ r = .str "unfit"
theorem c__law_refused (T__law_refused : HasFn K mg "_law_refused" s__law_refused ["_law_door", "_law_house_so", "_law_tale_so"]) (B : Bt mg) (U : Unf K mg cU) (c_paid_at_onceX : CalX P w K mg base 11 "paid_at_once" ["craft", "web"] (spD cU CBad)) (c_cost_at_onceX : CalX P w K mg base 12 "cost_at_once" ["craft", "web"] (spD cU CBad)) : Cal P w K mg base (12 + 1) "_law_refused" ["_law_door", "_law_house_so", "_law_tale_so"] (spD cU (PC RRef)) := by
  refine fnC (12) T__law_refused sc__law_refused (fun ds μ Φ Ψ h => ?_) (fun f cdv A outer s H E hr => ⟨_,
    (pss_one (ps_try_only (c := .ref cU) (Wout := fun _ _ _ _ => False) rfl rfl ⟨rfl, by decide, .inl U.g⟩ takes0 (fun W pn xe tk _ => (pss_one (ps_ret (pe_ifExp (pt_cmpR op_eq (pv 0) pe_int (nomark _)) (pe_calS c_paid_at_onceX (hr.mono (by omega)) (by rfl) tk (pa_cons (pv 1) (pa_cons (pv 2) pa_nil))) (pe_calS c_cost_at_onceX (hr.mono (by omega)) (by rfl) tk (pa_cons (pv 1) (pa_cons (pv 2) pa_nil))))))) (fun a oe cls d pn _ _ => (pss_one (ps_ret pe_str))))), fun ds μ Φ Ψ h => ?_⟩)
  · obtain ⟨r, ⟨door, d, e, rfl, _⟩, _⟩ := h; rfl
  · obtain ⟨r, ⟨door, d, e, rfl, hb, rfl⟩, k⟩ := h
    refine wS_tryU (K := K) (te := fun W => tIf (tTest (tOp rEq (tVar 0) (tC (.int 0)))) (tCallS (spD cU CBad) (WE W) (tCons (tVar 1) (tCons (tVar 2) tNil))) (tCallS (spD cU CBad) (WE W) (tCons (tVar 1) (tCons (tVar 2) tNil)))) (s := "unfit") (exm_self U.b U.i U.t U.s) fun W => ?_
    refine wES_if ?_
    walk_at "D"
    refine ⟨fun _ => wES_call ?_, fun _ => wES_call ?_⟩
    · walk_at "D"
      exact ⟨d, e, rfl, hb, .same k⟩
    · walk_at "D"
      exact ⟨d, e, rfl, hb, .same k⟩
end
end PB
namespace PB
open PySem PySem.Spec PyProof.Rows L2 DL
/-! the written crafts -/
def chainC : Craft := ⟨[1], [⟨[], [], 0, 0, [.none]⟩, ⟨[0], [], 0, 0, [.new 1 [(0, 0)]]⟩, ⟨[0], [(0, 0)], 0, 0, [.none]⟩]⟩
def twinsC : Craft := ⟨[2, 0], [⟨[], [], 0, 0, [.new 3 [], .new 3 []]⟩, ⟨[0], [(0, 0)], 0, 1, []⟩, ⟨[0], [(0, 1)], 0, 1, []⟩]⟩
def meldsC : Craft := ⟨[1], [⟨[], [], 0, 0, [.new 4 []]⟩, ⟨[0, 0], [(0, 0), (1, 0)], 0, 0, [.none]⟩]⟩
def keptC : Craft := ⟨[2], [⟨[], [], 0, 0, [.none, .new 1 []]⟩, ⟨[0], [], 0, 0, [.new 0 [(0, 0), (0, 1)], .kept 0 1]⟩, ⟨[0], [(0, 0)], 0, 0, [.none, .kept 0 1]⟩]⟩
def doubleC : Craft := ⟨[2], [⟨[], [], 0, 0, [.new 1 [], .new 1 []]⟩, ⟨[0], [], 0, 0, [.new 0 [(0, 0), (0, 1)], .new 0 [(0, 0), (0, 1)]]⟩, ⟨[0], [(0, 0)], 0, 0, [.none, .none]⟩]⟩
def towerW : Web := [(0, []), (1, [0]), (1, [1]), (2, [2]), (2, [2])]
/-! ### what is right can be reckoned -/
def okSpotB (sizes els : List Nat) (p : Spot) : Bool := match els[p.1]? with
  | none => false
  | some e => match sizes[e]? with
    | none => false
    | some z => decide (p.2 < z)
theorem okSpotB_ok {sizes els : List Nat} {p : Spot} (h : okSpotB sizes els p = true) : okSpot sizes els p := by
  unfold okSpotB at h
  cases e1 : els[p.1]? with
  | none => rw [e1] at h; cases h
  | some e =>
    rw [e1] at h; dsimp only at h
    cases e2 : sizes[e]? with
    | none => rw [e2] at h; cases h
    | some z => rw [e2] at h; exact ⟨e, z, e1, e2, of_decide_eq_true h⟩
def okSpotsB (sizes els : List Nat) (ws : List Spot) : Bool := ws.all (okSpotB sizes els) && decide ws.Nodup && decide (ws.length ≤ 10)
theorem okSpotsB_ok {sizes els : List Nat} {ws : List Spot} (h : okSpotsB sizes els ws = true) : okSpots sizes els ws := by
  unfold okSpotsB at h
  simp only [Bool.and_eq_true, decide_eq_true_eq, List.all_eq_true] at h
  exact ⟨fun p hp => okSpotB_ok (h.1.1 p hp), h.1.2, h.2⟩
def ascB : List Spot → Bool
  | [] => true
  | a :: r => (r.all fun b => decide (a.1 < b.1 ∨ (a.1 = b.1 ∧ a.2 < b.2))) && ascB r
theorem ascB_ok : ∀ {ws : List Spot}, ascB ws = true → Asc ws
  | [], _ => .nil
  | a :: r, h => by
    unfold ascB at h
    simp only [Bool.and_eq_true, List.all_eq_true, decide_eq_true_eq] at h
    exact .cons h.1 (ascB_ok h.2)
def okFilB (sizes els : List Nat) : Fil → Bool
  | .none => true
  | .kept p s => okSpotB sizes els (p, s)
  | .new c ws => decide (0 ≤ c) && okSpotsB sizes els ws && ascB ws
theorem okFilB_ok {sizes els : List Nat} {f : Fil} (h : okFilB sizes els f = true) : okFil sizes els f := by
  cases f with
  | none => trivial
  | kept p s => exact okSpotB_ok h
  | new c ws =>
    unfold okFilB at h
    simp only [Bool.and_eq_true, decide_eq_true_eq] at h
    exact ⟨h.1.1, okSpotsB_ok h.1.2, ascB_ok h.2⟩
def okRowB (sizes : List Nat) (r : Row) : Bool := decide (r.el.length ≤ 2) && (r.el.all fun e => decide (e < sizes.length)) && okSpotsB sizes r.el r.looks && decide (0 ≤ r.cost) && decide (sizes[r.shape]? = some r.slots.length) && r.slots.all (okFilB sizes r.el) && decide (r.slots.length ≤ 10)
theorem okRowB_ok {sizes : List Nat} {r : Row} (h : okRowB sizes r = true) : okRow sizes r ∧ r.slots.length ≤ 10 := by
  unfold okRowB at h
  simp only [Bool.and_eq_true, decide_eq_true_eq, List.all_eq_true] at h
  obtain ⟨⟨⟨⟨⟨⟨h1, h2⟩, h3⟩, h4⟩, h5⟩, h6⟩, h7⟩ := h
  exact ⟨⟨h1, h2, okSpotsB_ok h3, h4, h5, fun f hf => okFilB_ok (h6 f hf)⟩, h7⟩
def okCraftB (c : Craft) : Bool := decide (0 < c.sizes.length) && decide (0 < c.rows.length) && c.rows.all (okRowB c.sizes) && decide (c.rows.length ≤ 10) && decide (c.sizes.length ≤ 10)
theorem okCraftB_ok {c : Craft} (h : okCraftB c = true) : okCraft c := by
  unfold okCraftB at h
  simp only [Bool.and_eq_true, decide_eq_true_eq, List.all_eq_true] at h
  obtain ⟨⟨⟨⟨h1, h2⟩, h3⟩, h4⟩, h5⟩ := h
  exact ⟨h1, h2, fun r hr => (okRowB_ok (h3 r hr)).1, h4, h5, fun r hr => (okRowB_ok (h3 r hr)).2⟩
def okElB (c : Craft) (wb : Web) (e s : Nat) : Bool := match wb[e]? with
  | none => false
  | some ve => match c.rows[ve.1]? with
    | none => false
    | some re => decide (re.shape = s)
def okElsB (c : Craft) (wb : Web) : List Nat → List Nat → Bool
  | [], [] => true
  | e :: es, s :: ss => okElB c wb e s && okElsB c wb es ss
  | _, _ => false
theorem okElsB_ok {c : Craft} {wb : Web} : ∀ {es ss : List Nat}, okElsB c wb es ss = true → es.length = ss.length ∧ ∀ (i e s : Nat), es[i]? = some e → ss[i]? = some s → ∃ ve re, wb[e]? = some ve ∧ c.rows[ve.1]? = some re ∧ re.shape = s
  | [], [], _ => ⟨rfl, fun i e s h => by simp at h⟩
  | [], _ :: _, h => by cases h
  | _ :: _, [], h => by cases h
  | e :: es, s :: ss, h => by
    unfold okElsB at h
    simp only [Bool.and_eq_true] at h
    obtain ⟨h1, h2⟩ := okElsB_ok h.2
    refine ⟨by rw [List.length_cons, List.length_cons, h1], fun i e' s' a b => ?_⟩
    cases i with
    | zero =>
      cases a; cases b
      have h3 := h.1
      unfold okElB at h3
      cases e1 : wb[e]? with
      | none => rw [e1] at h3; cases h3
      | some ve =>
        rw [e1] at h3; dsimp only at h3
        cases e2 : c.rows[ve.1]? with
        | none => rw [e2] at h3; cases h3
        | some re => rw [e2] at h3; exact ⟨ve, re, rfl, e2, of_decide_eq_true h3⟩
    | succ i => exact h2 i e' s' a b
def okVerB (c : Craft) (wb : Web) (v : Ver) : Bool := match c.rows[v.1]? with
  | none => false
  | some row => okElsB c wb v.2 row.el
theorem okVerB_ok {c : Craft} {wb : Web} {v : Ver} (h : okVerB c wb v = true) : okVer c wb v := by
  unfold okVerB at h
  cases e : c.rows[v.1]? with
  | none => rw [e] at h; cases h
  | some row => rw [e] at h; exact ⟨row, e, (okElsB_ok h).1, (okElsB_ok h).2⟩
def okWebB (c : Craft) (wb : Web) : Bool := decide (wb.length ≤ 60) && (List.range wb.length).all fun i => match wb[i]? with
  | none => true
  | some v => okVerB c (wb.take i) v
theorem okWebB_ok {c : Craft} {wb : Web} (h : okWebB c wb = true) : okWeb c wb := by
  unfold okWebB at h
  simp only [Bool.and_eq_true, decide_eq_true_eq, List.all_eq_true, List.mem_range] at h
  refine ⟨h.1, fun i v hv => ?_⟩
  have := h.2 i (List.getElem?_eq_some_iff.mp hv).1
  rw [hv] at this
  exact okVerB_ok this
theorem ok_chain : okCraft chainC := okCraftB_ok (by decide +kernel)
theorem ok_twins : okCraft twinsC := okCraftB_ok (by decide +kernel)
theorem ok_melds : okCraft meldsC := okCraftB_ok (by decide +kernel)
theorem ok_kept : okCraft keptC := okCraftB_ok (by decide +kernel)
theorem ok_double : okCraft doubleC := okCraftB_ok (by decide +kernel)
local macro_rules | `(tactic| walk_at "ix") => `(tactic| first
  | with_reducible exact at0 | with_reducible exact at1 | with_reducible exact at2 | with_reducible exact at3 | with_reducible exact at4 | with_reducible exact at_map (by assumption) | with_reducible exact at_nat (by assumption)
  | exact at0 | exact at1 | exact at2 | exact at3 | exact at4 | exact at_nat (by assumption) | exact at_map (by assumption) | rfl)
local macro_rules | `(tactic| walk_at "b") => `(tactic| first
  | refine ⟨true, rfl, fun _ => ?_, fun hx => tf hx⟩
  | refine ⟨false, rfl, fun hx => ft hx, fun _ => ?_⟩
  | refine ⟨true, rfl, fun hx => ft hx, fun _ => ?_⟩
  | refine ⟨false, rfl, fun _ => ?_, fun hx => tf hx⟩
  | refine ⟨_, rfl, ?_⟩)
local macro_rules | `(tactic| walk_at "t") => `(tactic| first
  | refine ⟨Nat.le_of_ble_eq_true rfl, ?_⟩
  | refine ⟨fun _ => ?_, fun hx => tf hx⟩
  | refine ⟨fun hx => ft hx, fun _ => ?_⟩)
local macro_rules | `(tactic| walk_at "isi") => `(tactic| first
  | refine wC_isi rfl k_ii ?_ | refine wC_isi rfl k_ib ?_ | refine wC_isi rfl k_tt ?_ | refine wC_isi rfl k_tl ?_ | refine wC_isi rfl k_ll ?_ | refine wC_isi rfl k_lt ?_ | refine wC_isi rfl k_sb ?_ | refine wC_isi rfl k_si ?_
  | refine wC_isi rfl k_bb ?_ | refine wC_isi rfl k_bi ?_ | refine wC_isi rfl k_st ?_ | refine wC_isi rfl k_sl ?_ | refine wC_isi rfl k_il ?_ | refine wC_isi rfl k_it ?_
  | refine wC_isi2 rfl k_tl k_tt ?_ | refine wC_isi2 rfl k_ll k_lt ?_ | refine wC_isi2 rfl k_il k_it ?_ | refine wC_isi2 rfl k_sl k_st ?_ | refine wC_isi2 rfl k_ib k_is ?_ | refine wC_isi2 rfl k_sb k_ss ?_)
local macro_rules | `(tactic| walk_at "dE") => `(tactic| first
  | with_reducible refine wE_var rfl ?_ | with_reducible refine wE_op ?_ | with_reducible refine wE_int ?_ | with_reducible refine wE_call ?_ | with_reducible refine wE_str ?_
  | with_reducible refine wE_lenSet ?_ | with_reducible refine wE_sortedSet ?_ | with_reducible refine wE_cb ?_ | with_reducible refine wE_and ?_ | with_reducible refine wE_or ?_ | with_reducible refine wE_not ?_ | with_reducible refine wE_if ?_
  | with_reducible refine wE_tup ?_ | with_reducible refine wE_ty ?_ | with_reducible refine wE_bl ?_ | with_reducible refine wE_non ?_ | with_reducible refine wE_chain ?_ | with_reducible refine wE_un ?_ | with_reducible refine wE_slice ?_)
local macro_rules | `(tactic| walk_at "dS") => `(tactic| first
  | with_reducible refine wS_seq ?_ | with_reducible refine wS_set ?_ | with_reducible refine wS_if ?_ | with_reducible refine wS_drop ?_ | with_reducible refine wS_next ?_ | with_reducible refine wS_ret ?_ | with_reducible refine wS_asg ?_
  | with_reducible refine wS_cont ?_ | with_reducible refine wS_par ?_ | with_reducible refine wS_for ?_)
local macro_rules | `(tactic| walk_at "dT") => `(tactic| first
  | with_reducible refine wT_test ?_ | with_reducible refine wT_B ?_ | with_reducible refine wT_and ?_ | with_reducible refine wT_or ?_ | with_reducible refine wT_not ?_)
local macro_rules | `(tactic| walk_at "dO") => `(tactic| first
  | with_reducible refine wO_int ?_ | with_reducible refine wO_intB ?_ | with_reducible refine wO_eqI ?_ | with_reducible refine wO_eqS ?_ | with_reducible refine wO_neI ?_ | with_reducible refine wO_eqB ?_ | with_reducible refine wO_neB ?_
  | with_reducible refine wO_isN ?_ | with_reducible refine wO_notN ?_ | (refine wO_ixT (by walk_at "ix") ?_))
local macro_rules | `(tactic| walk_at "dC") => `(tactic| first
  | walk_at "isi" | (refine wC_len (.inl rfl) ?_) | with_reducible refine wC_intI ?_ | with_reducible refine wC_intB ?_ | with_reducible refine wC_abs ?_ | with_reducible refine wC_min ?_)
local macro_rules | `(tactic| walk_at "d") => `(tactic| first
  | ((with_reducible refine isE ?_); walk_at "dE")
  | ((with_reducible refine isA ?_); first | with_reducible refine wA_cons ?_ | with_reducible refine wA_nil ?_)
  | ((with_reducible refine isO ?_); walk_at "dO")
  | ((with_reducible refine isS ?_); walk_at "dS")
  | ((with_reducible refine isT ?_); walk_at "dT")
  | ((with_reducible refine isC ?_); walk_at "dC")
  | with_reducible refine wG_name ?_ | ((with_reducible refine isG ?_); refine wG_tup rfl ?_) | with_reducible refine wGs_cons ?_ | with_reducible refine wGs_nil ?_
  | with_reducible refine forL_cons ?_ | with_reducible refine forL_nil ?_
  | with_reducible refine wP_none ?_ | with_reducible refine wP_some ?_)
local macro_rules | `(tactic| walk_at "D") => `(tactic| repeat (first | walk_at "d" | walk_at "t" | walk_at "b"))

local macro_rules | `(tactic| walk_at "K") => `(tactic| repeat (first | with_reducible refine wA_cons ?_ | with_reducible refine wA_nil ?_ | with_reducible refine wE_int ?_ | with_reducible refine wE_str ?_ | with_reducible refine wE_tup ?_ | refine ⟨Nat.le_of_ble_eq_true rfl, ?_⟩ | with_reducible refine wS_ret ?_))
section
variable {P : Program} {w : World} {K : PySem.W.Frag} {mg : Str → Option Value} {base : Heap} {cU : Addr}
def RCon (d : Dt) (ds : List Dt) (r : Dt) : Prop := ds = [] ∧ r = d
theorem c__law_chain (T__law_chain : HasFn K mg "_law_chain" s__law_chain []) (B : Bt mg) : Cal P w K mg base (0 + 1) "_law_chain" [] (spD cU (PC (RCon (craftD chainC)))) := by
  refine fnC (0) T__law_chain sc__law_chain (fun ds μ Φ Ψ h => ?_) (fun f cdv A outer s H E hr => ⟨_,
    (pss_one (ps_ret (pe_tup (pa_cons (pe_tup (pa_cons pe_int pa_nil)) (pa_cons (pe_tup (pa_cons (pe_tup (pa_cons (pe_tup pa_nil) (pa_cons (pe_tup pa_nil) (pa_cons pe_int (pa_cons pe_int (pa_cons (pe_tup (pa_cons (pe_tup (pa_cons pe_str pa_nil)) pa_nil)) pa_nil)))))) (pa_cons (pe_tup (pa_cons (pe_tup (pa_cons pe_int pa_nil)) (pa_cons (pe_tup pa_nil) (pa_cons pe_int (pa_cons pe_int (pa_cons (pe_tup (pa_cons (pe_tup (pa_cons pe_str (pa_cons pe_int (pa_cons (pe_tup (pa_cons (pe_tup (pa_cons pe_int (pa_cons pe_int pa_nil))) pa_nil)) pa_nil)))) pa_nil)) pa_nil)))))) (pa_cons (pe_tup (pa_cons (pe_tup (pa_cons pe_int pa_nil)) (pa_cons (pe_tup (pa_cons (pe_tup (pa_cons pe_int (pa_cons pe_int pa_nil))) pa_nil)) (pa_cons pe_int (pa_cons pe_int (pa_cons (pe_tup (pa_cons (pe_tup (pa_cons pe_str pa_nil)) pa_nil)) pa_nil)))))) pa_nil)))) pa_nil))))), fun ds μ Φ Ψ h => ?_⟩)
  · obtain ⟨r, ⟨rfl, _⟩, _⟩ := h; rfl
  · obtain ⟨r, ⟨rfl, rfl⟩, k⟩ := h
    walk_at "K"
    exact .same k
theorem c__law_twins (T__law_twins : HasFn K mg "_law_twins" s__law_twins []) (B : Bt mg) : Cal P w K mg base (0 + 1) "_law_twins" [] (spD cU (PC (RCon (craftD twinsC)))) := by
  refine fnC (0) T__law_twins sc__law_twins (fun ds μ Φ Ψ h => ?_) (fun f cdv A outer s H E hr => ⟨_,
    (pss_one (ps_ret (pe_tup (pa_cons (pe_tup (pa_cons pe_int (pa_cons pe_int pa_nil))) (pa_cons (pe_tup (pa_cons (pe_tup (pa_cons (pe_tup pa_nil) (pa_cons (pe_tup pa_nil) (pa_cons pe_int (pa_cons pe_int (pa_cons (pe_tup (pa_cons (pe_tup (pa_cons pe_str (pa_cons pe_int (pa_cons (pe_tup pa_nil) pa_nil)))) (pa_cons (pe_tup (pa_cons pe_str (pa_cons pe_int (pa_cons (pe_tup pa_nil) pa_nil)))) pa_nil))) pa_nil)))))) (pa_cons (pe_tup (pa_cons (pe_tup (pa_cons pe_int pa_nil)) (pa_cons (pe_tup (pa_cons (pe_tup (pa_cons pe_int (pa_cons pe_int pa_nil))) pa_nil)) (pa_cons pe_int (pa_cons pe_int (pa_cons (pe_tup pa_nil) pa_nil)))))) (pa_cons (pe_tup (pa_cons (pe_tup (pa_cons pe_int pa_nil)) (pa_cons (pe_tup (pa_cons (pe_tup (pa_cons pe_int (pa_cons pe_int pa_nil))) pa_nil)) (pa_cons pe_int (pa_cons pe_int (pa_cons (pe_tup pa_nil) pa_nil)))))) pa_nil)))) pa_nil))))), fun ds μ Φ Ψ h => ?_⟩)
  · obtain ⟨r, ⟨rfl, _⟩, _⟩ := h; rfl
  · obtain ⟨r, ⟨rfl, rfl⟩, k⟩ := h
    walk_at "K"
    exact .same k
theorem c__law_melds (T__law_melds : HasFn K mg "_law_melds" s__law_melds []) (B : Bt mg) : Cal P w K mg base (0 + 1) "_law_melds" [] (spD cU (PC (RCon (craftD meldsC)))) := by
  refine fnC (0) T__law_melds sc__law_melds (fun ds μ Φ Ψ h => ?_) (fun f cdv A outer s H E hr => ⟨_,
    (pss_one (ps_ret (pe_tup (pa_cons (pe_tup (pa_cons pe_int pa_nil)) (pa_cons (pe_tup (pa_cons (pe_tup (pa_cons (pe_tup pa_nil) (pa_cons (pe_tup pa_nil) (pa_cons pe_int (pa_cons pe_int (pa_cons (pe_tup (pa_cons (pe_tup (pa_cons pe_str (pa_cons pe_int (pa_cons (pe_tup pa_nil) pa_nil)))) pa_nil)) pa_nil)))))) (pa_cons (pe_tup (pa_cons (pe_tup (pa_cons pe_int (pa_cons pe_int pa_nil))) (pa_cons (pe_tup (pa_cons (pe_tup (pa_cons pe_int (pa_cons pe_int pa_nil))) (pa_cons (pe_tup (pa_cons pe_int (pa_cons pe_int pa_nil))) pa_nil))) (pa_cons pe_int (pa_cons pe_int (pa_cons (pe_tup (pa_cons (pe_tup (pa_cons pe_str pa_nil)) pa_nil)) pa_nil)))))) pa_nil))) pa_nil))))), fun ds μ Φ Ψ h => ?_⟩)
  · obtain ⟨r, ⟨rfl, _⟩, _⟩ := h; rfl
  · obtain ⟨r, ⟨rfl, rfl⟩, k⟩ := h
    walk_at "K"
    exact .same k
theorem c__law_kept (T__law_kept : HasFn K mg "_law_kept" s__law_kept []) (B : Bt mg) : Cal P w K mg base (0 + 1) "_law_kept" [] (spD cU (PC (RCon (craftD keptC)))) := by
  refine fnC (0) T__law_kept sc__law_kept (fun ds μ Φ Ψ h => ?_) (fun f cdv A outer s H E hr => ⟨_,
    (pss_one (ps_ret (pe_tup (pa_cons (pe_tup (pa_cons pe_int pa_nil)) (pa_cons (pe_tup (pa_cons (pe_tup (pa_cons (pe_tup pa_nil) (pa_cons (pe_tup pa_nil) (pa_cons pe_int (pa_cons pe_int (pa_cons (pe_tup (pa_cons (pe_tup (pa_cons pe_str pa_nil)) (pa_cons (pe_tup (pa_cons pe_str (pa_cons pe_int (pa_cons (pe_tup pa_nil) pa_nil)))) pa_nil))) pa_nil)))))) (pa_cons (pe_tup (pa_cons (pe_tup (pa_cons pe_int pa_nil)) (pa_cons (pe_tup pa_nil) (pa_cons pe_int (pa_cons pe_int (pa_cons (pe_tup (pa_cons (pe_tup (pa_cons pe_str (pa_cons pe_int (pa_cons (pe_tup (pa_cons (pe_tup (pa_cons pe_int (pa_cons pe_int pa_nil))) (pa_cons (pe_tup (pa_cons pe_int (pa_cons pe_int pa_nil))) pa_nil))) pa_nil)))) (pa_cons (pe_tup (pa_cons pe_str (pa_cons pe_int (pa_cons pe_int pa_nil)))) pa_nil))) pa_nil)))))) (pa_cons (pe_tup (pa_cons (pe_tup (pa_cons pe_int pa_nil)) (pa_cons (pe_tup (pa_cons (pe_tup (pa_cons pe_int (pa_cons pe_int pa_nil))) pa_nil)) (pa_cons pe_int (pa_cons pe_int (pa_cons (pe_tup (pa_cons (pe_tup (pa_cons pe_str pa_nil)) (pa_cons (pe_tup (pa_cons pe_str (pa_cons pe_int (pa_cons pe_int pa_nil)))) pa_nil))) pa_nil)))))) pa_nil)))) pa_nil))))), fun ds μ Φ Ψ h => ?_⟩)
  · obtain ⟨r, ⟨rfl, _⟩, _⟩ := h; rfl
  · obtain ⟨r, ⟨rfl, rfl⟩, k⟩ := h
    walk_at "K"
    exact .same k
theorem c__law_double (T__law_double : HasFn K mg "_law_double" s__law_double []) (B : Bt mg) : Cal P w K mg base (0 + 1) "_law_double" [] (spD cU (PC (RCon (craftD doubleC)))) := by
  refine fnC (0) T__law_double sc__law_double (fun ds μ Φ Ψ h => ?_) (fun f cdv A outer s H E hr => ⟨_,
    (pss_one (ps_ret (pe_tup (pa_cons (pe_tup (pa_cons pe_int pa_nil)) (pa_cons (pe_tup (pa_cons (pe_tup (pa_cons (pe_tup pa_nil) (pa_cons (pe_tup pa_nil) (pa_cons pe_int (pa_cons pe_int (pa_cons (pe_tup (pa_cons (pe_tup (pa_cons pe_str (pa_cons pe_int (pa_cons (pe_tup pa_nil) pa_nil)))) (pa_cons (pe_tup (pa_cons pe_str (pa_cons pe_int (pa_cons (pe_tup pa_nil) pa_nil)))) pa_nil))) pa_nil)))))) (pa_cons (pe_tup (pa_cons (pe_tup (pa_cons pe_int pa_nil)) (pa_cons (pe_tup pa_nil) (pa_cons pe_int (pa_cons pe_int (pa_cons (pe_tup (pa_cons (pe_tup (pa_cons pe_str (pa_cons pe_int (pa_cons (pe_tup (pa_cons (pe_tup (pa_cons pe_int (pa_cons pe_int pa_nil))) (pa_cons (pe_tup (pa_cons pe_int (pa_cons pe_int pa_nil))) pa_nil))) pa_nil)))) (pa_cons (pe_tup (pa_cons pe_str (pa_cons pe_int (pa_cons (pe_tup (pa_cons (pe_tup (pa_cons pe_int (pa_cons pe_int pa_nil))) (pa_cons (pe_tup (pa_cons pe_int (pa_cons pe_int pa_nil))) pa_nil))) pa_nil)))) pa_nil))) pa_nil)))))) (pa_cons (pe_tup (pa_cons (pe_tup (pa_cons pe_int pa_nil)) (pa_cons (pe_tup (pa_cons (pe_tup (pa_cons pe_int (pa_cons pe_int pa_nil))) pa_nil)) (pa_cons pe_int (pa_cons pe_int (pa_cons (pe_tup (pa_cons (pe_tup (pa_cons pe_str pa_nil)) (pa_cons (pe_tup (pa_cons pe_str pa_nil)) pa_nil))) pa_nil)))))) pa_nil)))) pa_nil))))), fun ds μ Φ Ψ h => ?_⟩)
  · obtain ⟨r, ⟨rfl, _⟩, _⟩ := h; rfl
  · obtain ⟨r, ⟨rfl, rfl⟩, k⟩ := h
    walk_at "K"
    exact .same k
theorem c__law_tower (T__law_tower : HasFn K mg "_law_tower" s__law_tower []) (B : Bt mg) : Cal P w K mg base (0 + 1) "_law_tower" [] (spD cU (PC (RCon (webD towerW)))) := by
  refine fnC (0) T__law_tower sc__law_tower (fun ds μ Φ Ψ h => ?_) (fun f cdv A outer s H E hr => ⟨_,
    (pss_one (ps_ret (pe_tup (pa_cons (pe_tup (pa_cons pe_int (pa_cons (pe_tup pa_nil) pa_nil))) (pa_cons (pe_tup (pa_cons pe_int (pa_cons (pe_tup (pa_cons pe_int pa_nil)) pa_nil))) (pa_cons (pe_tup (pa_cons pe_int (pa_cons (pe_tup (pa_cons pe_int pa_nil)) pa_nil))) (pa_cons (pe_tup (pa_cons pe_int (pa_cons (pe_tup (pa_cons pe_int pa_nil)) pa_nil))) (pa_cons (pe_tup (pa_cons pe_int (pa_cons (pe_tup (pa_cons pe_int pa_nil)) pa_nil))) pa_nil)))))))), fun ds μ Φ Ψ h => ?_⟩)
  · obtain ⟨r, ⟨rfl, _⟩, _⟩ := h; rfl
  · obtain ⟨r, ⟨rfl, rfl⟩, k⟩ := h
    walk_at "K"
    exact .same k
end
end PB
namespace DL
open PySem PySem.Spec PyProof.Rows L2
theorem wS_seqA {X : Hp → Prop} {s t u : TS} {δ : Sl} {μ : List MO} {P : DE} (h : wS X (tSeq (tSeq s t) u) δ μ P) : wS X (tSeq s (tSeq t u)) δ μ P := h
/-- the last register becomes plain data, n its place -/
def Frz (δ1 δ2 : Sl) (n : Nat) (ds : List Dt) : Prop := δ2.length = δ1.length ∧ ∀ (i : Nat) (d : Dt), δ2[i]? = some (some d) → (Pu d ∧ δ1[i]? = some (some d)) ∨ (d = .lst ds ∧ δ1[i]? = some (some (.reg n)))
theorem Rel.frz {H : Hp} {α : List Addr} {σ : L2.St} {δ1 δ2 : Sl} {μ : List MO} {ds : List Dt} (R : Rel H α σ δ1 (μ ++ [.lst ds])) (f : Frz δ1 δ2 μ.length ds) : Rel H (α.take μ.length) σ δ2 μ where
  rm := by have := R.rm.cut μ.length; rwa [List.take_left] at this
  sl := R.sl.trans f.1.symm
  ss := fun i d e => by
    rcases f.2 i d e with ⟨p, e1⟩ | ⟨e0, e1⟩
    · obtain ⟨v, hv, D⟩ := R.ss i d e1
      exact ⟨v, hv, (D.pure p).cut.up⟩
    · obtain ⟨v, hv, D⟩ := R.ss i _ e1
      subst e0
      refine ⟨v, hv, ?_⟩
      cases D with
      | @reg a _ ea =>
        obtain ⟨xs, ex, kx⟩ := R.rm.ok _ a (.lst ds) ea last_of
        refine .lst ex (fun z => ?_) kx.cut.up
        obtain ⟨j, hj⟩ := List.getElem?_of_mem z
        have hin : j < μ.length := by
          have := (List.getElem?_eq_some_iff.mp hj).1
          rw [List.length_take] at this; omega
        rw [List.getElem?_take_of_lt hin] at hj
        obtain ⟨h1, e1⟩ := List.getElem?_eq_some_iff.mp hj
        obtain ⟨h2, e2⟩ := List.getElem?_eq_some_iff.mp ea
        have := (List.getElem_inj R.rm.nd).mp (e1.trans e2.symm)
        omega
theorem wS_seqF {X : Hp → Prop} {t u : TS} {δ : Sl} {μ : List MO} {P : DE} (h : wS X t δ μ { P with nx := fun δ1 μ1 => ∃ δ2 μ2 ds, μ1 = μ2 ++ [.lst ds] ∧ μ2.length = μ.length ∧ Frz δ1 δ2 μ2.length ds ∧ wS X u δ2 μ2 P }) : wS X (tSeq t u) δ μ P := fun σ H α D R f =>
  h σ H α { D with nx := u D } R ⟨fun σ' H' α' δ' μ' n R' ⟨δ2, μ2, ds, e1, e2, fz, k⟩ => by
    subst e1
    exact k σ' H' _ D (R'.frz fz) (f.step (n.cut (by rw [e2, ← R.rm.len]; exact Nat.le_refl _))), f.rt, f.bk, f.ct, f.ex⟩
end DL
namespace PB
open PySem PySem.Spec PyProof.Rows L2 DL
theorem to_webN {wb : Web} (h : wb.length ≤ 1000) (h2 : ∀ v ∈ wb, v.2.length ≤ 10) : TO 7 (webD wb) :=
  .tup (.map fun v hv => .tup (.cons (.int _) (.cons (to_nats (n := 4) (h2 v hv)) .nil)) (by simp)) (by rw [List.length_map]; omega)
theorem to_noRows : TO 7 (noRowsD [1]) := .tup (.cons (to_nats (n := 5) (by simp)) (.cons (.tup .nil (by simp)) .nil)) (by simp)
def taleW : Web := [(0, []), (1, [0]), (2, [0])]
def lineW : Web := [(0, []), (1, [0]), (1, [1]), (2, [2])]
def bothW : Web := [(0, []), (1, [0, 0])]
theorem w_tower : okWeb doubleC towerW := okWebB_ok (by decide +kernel)
theorem w_tale : okWeb twinsC taleW := okWebB_ok (by decide +kernel)
theorem w_line : okWeb chainC lineW := okWebB_ok (by decide +kernel)
theorem w_none : okWeb doubleC [] := okWebB_ok (by decide +kernel)
theorem w_kept : okWeb keptC [(0, [])] := okWebB_ok (by decide +kernel)
theorem w_both : okWeb meldsC bothW := okWebB_ok (by decide +kernel)
theorem v_tower : atOnce doubleC towerW = [2, 0, 0, 0, 0] := by decide +kernel
theorem v_tale : atOnce twinsC taleW = [6, 0, 0] := by decide +kernel
theorem v_line : atOnce chainC lineW = [0, 1, 1, 0] := by decide +kernel
theorem v_none : atOnce doubleC [] = [] := by decide +kernel
theorem v_kept : atOnce keptC [(0, [])] = [1] := by decide +kernel
theorem v_both : atOnce meldsC bothW = [4, 0] := by decide +kernel
theorem r_paid {c : Craft} {wb : Web} {l : List Int} (okc : okCraft c) (okw : okWeb c wb) (v : atOnce c wb = l) : RPaid [craftD c, webD wb] (.tup (l.map Dt.int)) :=
  ⟨_, _, c, wb, rfl, (to_craft okc).td, (to_craft okc).same, okc, (to_web okc okw).td, (to_web okc okw).same, okw, by rw [v]⟩
theorem r_cost {c : Craft} {wb : Web} {l : List Int} (okc : okCraft c) (okw : okWeb c wb) (v : atOnce c wb = l) : RCostO [craftD c, webD wb] (.int l.sum) :=
  ⟨_, _, c, wb, rfl, (to_craft okc).td, (to_craft okc).same, okc, (to_web okc okw).td, (to_web okc okw).same, okw, by rw [v]⟩
theorem r_paidL {c : Craft} {wb : Web} {l : List Int} (okc : okCraft c) (okw : okWeb c wb) (v : atOnce c wb = l) : RPaid [PB.lstd (craftD c), PB.lstd (webD wb)] (.tup (l.map Dt.int)) :=
  ⟨_, _, c, wb, rfl, (to_craft okc).lstd.1, (to_craft okc).lstd.2, okc, (to_web okc okw).lstd.1, (to_web okc okw).lstd.2, okw, by rw [v]⟩
theorem r_costL {c : Craft} {wb : Web} {l : List Int} (okc : okCraft c) (okw : okWeb c wb) (v : atOnce c wb = l) : RCostO [PB.lstd (craftD c), PB.lstd (webD wb)] (.int l.sum) :=
  ⟨_, _, c, wb, rfl, (to_craft okc).lstd.1, (to_craft okc).lstd.2, okc, (to_web okc okw).lstd.1, (to_web okc okw).lstd.2, okw, by rw [v]⟩
theorem lst_kept : PB.lstd (webD [(0, [])]) = .lst [.lst [.int 0, .lst []]] := by simp [PB.lstd, lstdL, webD, verD, natD]
theorem r_keptK : RPaid [PB.lstd (craftD keptC), .lst [.lst [.int 0, .lst []]]] (.tup (([1] : List Int).map Dt.int)) := by
  have h := r_paidL ok_kept w_kept v_kept
  rw [lst_kept] at h
  exact h
theorem r_bad1 (n : Nat) : RRef [natD n, craftD twinsC, webD [(1, [0])]] (.str "unfit") :=
  ⟨n, _, _, rfl, .inr ⟨twinsC, (1, [0]), (to_craft ok_twins).td, (to_craft ok_twins).same, ok_twins, (to_webN (by simp) (fun v hv => by rw [List.mem_singleton.mp hv]; decide)).td, (to_webN (by simp) (fun v hv => by rw [List.mem_singleton.mp hv]; decide)).same, ⟨_, rfl, rfl, by simp⟩⟩, rfl⟩
theorem r_bad2 (n : Nat) : RRef [natD n, noRowsD [1], .tup []] (.str "unfit") :=
  ⟨n, _, _, rfl, .inl ⟨⟨[1], to_noRows.td, to_noRows.same, by simp, by simp⟩, .tup (fun _ h => nomatch h) (by simp)⟩, rfl⟩
abbrev dueL : List Dt := [.tup [.int 2, .int 0, .int 0, .int 0, .int 0], .int 2, .tup [.int 6, .int 0, .int 0], .tup [.int 0, .int 1, .int 1, .int 0], .tup [], .int 6, .tup [.int 1], .str "unfit", .str "unfit", .str "unfit", .str "unfit", .int 4, .int 2]
theorem ts_ints {n : Nat} (l : List Int) (h : l.length ≤ 1000) : TS (n + 1) (.tup (l.map Dt.int)) := .tup (fun d hd => by obtain ⟨i, _, rfl⟩ := List.mem_map.mp hd; exact .int i) (by rw [List.length_map]; exact h)
theorem ts_due : TS 3 (.lst dueL) := by
  refine .lst (fun d hd => ?_) (by simp)
  simp only [dueL, List.mem_cons, List.not_mem_nil, or_false] at hd
  rcases hd with h | h | h | h | h | h | h | h | h | h | h | h | h <;> subst h
  · exact ts_ints [2, 0, 0, 0, 0] (by simp)
  · exact .int _
  · exact ts_ints [6, 0, 0] (by simp)
  · exact ts_ints [0, 1, 1, 0] (by simp)
  · exact ts_ints [] (by simp)
  · exact .int _
  · exact ts_ints [1] (by simp)
  · exact .str _
  · exact .str _
  · exact .str _
  · exact .str _
  · exact .int _
  · exact .int _
theorem TS.pu : ∀ {n : Nat} {d : Dt}, TS n d → Pu d
  | _, _, .int i => .int i
  | _, _, .str x => .str x
  | _, _, .tup h _ => .tup (PuL.of fun d hd => (h d hd).pu)
  | _, _, .lst h _ => .lst (PuL.of fun d hd => (h d hd).pu)
theorem pu_due (d : Dt) (h : d ∈ dueL) : Pu d := by
  cases ts_due.pu with
  | lst k => exact k.mem d h
local macro_rules | `(tactic| walk_at "ix") => `(tactic| first
  | with_reducible exact at0 | with_reducible exact at1 | with_reducible exact at2 | with_reducible exact at3 | with_reducible exact at4 | with_reducible exact at_map (by assumption) | with_reducible exact at_nat (by assumption)
  | exact at0 | exact at1 | exact at2 | exact at3 | exact at4 | exact at_nat (by assumption) | exact at_map (by assumption) | rfl)
local macro_rules | `(tactic| walk_at "b") => `(tactic| first
  | refine ⟨true, rfl, fun _ => ?_, fun hx => tf hx⟩
  | refine ⟨false, rfl, fun hx => ft hx, fun _ => ?_⟩
  | refine ⟨true, rfl, fun hx => ft hx, fun _ => ?_⟩
  | refine ⟨false, rfl, fun _ => ?_, fun hx => tf hx⟩
  | refine ⟨_, rfl, ?_⟩)
local macro_rules | `(tactic| walk_at "t") => `(tactic| first
  | refine ⟨Nat.le_of_ble_eq_true rfl, ?_⟩
  | refine ⟨fun _ => ?_, fun hx => tf hx⟩
  | refine ⟨fun hx => ft hx, fun _ => ?_⟩)
local macro_rules | `(tactic| walk_at "isi") => `(tactic| first
  | refine wC_isi rfl k_ii ?_ | refine wC_isi rfl k_ib ?_ | refine wC_isi rfl k_tt ?_ | refine wC_isi rfl k_tl ?_ | refine wC_isi rfl k_ll ?_ | refine wC_isi rfl k_lt ?_ | refine wC_isi rfl k_sb ?_ | refine wC_isi rfl k_si ?_
  | refine wC_isi rfl k_bb ?_ | refine wC_isi rfl k_bi ?_ | refine wC_isi rfl k_st ?_ | refine wC_isi rfl k_sl ?_ | refine wC_isi rfl k_il ?_ | refine wC_isi rfl k_it ?_
  | refine wC_isi2 rfl k_tl k_tt ?_ | refine wC_isi2 rfl k_ll k_lt ?_ | refine wC_isi2 rfl k_il k_it ?_ | refine wC_isi2 rfl k_sl k_st ?_ | refine wC_isi2 rfl k_ib k_is ?_ | refine wC_isi2 rfl k_sb k_ss ?_)
local macro_rules | `(tactic| walk_at "dE") => `(tactic| first
  | with_reducible refine wE_var rfl ?_ | with_reducible refine wE_op ?_ | with_reducible refine wE_int ?_ | with_reducible refine wE_call ?_ | with_reducible refine wE_str ?_
  | with_reducible refine wE_lenSet ?_ | with_reducible refine wE_sortedSet ?_ | with_reducible refine wE_cb ?_ | with_reducible refine wE_and ?_ | with_reducible refine wE_or ?_ | with_reducible refine wE_not ?_ | with_reducible refine wE_if ?_
  | with_reducible refine wE_tup ?_ | with_reducible refine wE_ty ?_ | with_reducible refine wE_bl ?_ | with_reducible refine wE_non ?_ | with_reducible refine wE_chain ?_ | with_reducible refine wE_un ?_ | with_reducible refine wE_slice ?_)
local macro_rules | `(tactic| walk_at "dS") => `(tactic| first
  | with_reducible refine wS_seq ?_ | with_reducible refine wS_set ?_ | with_reducible refine wS_if ?_ | with_reducible refine wS_drop ?_ | with_reducible refine wS_next ?_ | with_reducible refine wS_ret ?_ | with_reducible refine wS_asg ?_
  | with_reducible refine wS_cont ?_ | with_reducible refine wS_par ?_ | with_reducible refine wS_for ?_)
local macro_rules | `(tactic| walk_at "dT") => `(tactic| first
  | with_reducible refine wT_test ?_ | with_reducible refine wT_B ?_ | with_reducible refine wT_and ?_ | with_reducible refine wT_or ?_ | with_reducible refine wT_not ?_)
local macro_rules | `(tactic| walk_at "dO") => `(tactic| first
  | with_reducible refine wO_int ?_ | with_reducible refine wO_intB ?_ | with_reducible refine wO_eqI ?_ | with_reducible refine wO_eqS ?_ | with_reducible refine wO_neI ?_ | with_reducible refine wO_eqB ?_ | with_reducible refine wO_neB ?_
  | with_reducible refine wO_isN ?_ | with_reducible refine wO_notN ?_ | (refine wO_ixT (by walk_at "ix") ?_))
local macro_rules | `(tactic| walk_at "dC") => `(tactic| first
  | walk_at "isi" | (refine wC_len (.inl rfl) ?_) | with_reducible refine wC_intI ?_ | with_reducible refine wC_intB ?_ | with_reducible refine wC_abs ?_ | with_reducible refine wC_min ?_)
local macro_rules | `(tactic| walk_at "d") => `(tactic| first
  | ((with_reducible refine isE ?_); walk_at "dE")
  | ((with_reducible refine isA ?_); first | with_reducible refine wA_cons ?_ | with_reducible refine wA_nil ?_)
  | ((with_reducible refine isO ?_); walk_at "dO")
  | ((with_reducible refine isS ?_); walk_at "dS")
  | ((with_reducible refine isT ?_); walk_at "dT")
  | ((with_reducible refine isC ?_); walk_at "dC")
  | with_reducible refine wG_name ?_ | ((with_reducible refine isG ?_); refine wG_tup rfl ?_) | with_reducible refine wGs_cons ?_ | with_reducible refine wGs_nil ?_
  | with_reducible refine forL_cons ?_ | with_reducible refine forL_nil ?_
  | with_reducible refine wP_none ?_ | with_reducible refine wP_some ?_)
local macro_rules | `(tactic| walk_at "D") => `(tactic| repeat (first | walk_at "d" | walk_at "t" | walk_at "b"))

section
variable {P : Program} {w : World} {K : PySem.W.Frag} {mg : Str → Option Value} {base : Heap} {cU : Addr}
def RHand (ds : List Dt) (r : Dt) : Prop := ds = [] ∧ r = .bl true
theorem r_list {d : Dt} (h : TO 7 d) : RL 8 [d] (PB.lstd d) := ⟨d, rfl, h, rfl⟩
theorem c__law_hand_right (T__law_hand_right : HasFn K mg "_law_hand_right" s__law_hand_right []) (B : Bt mg) (T_cost_at_once : HasFn K mg "cost_at_once" s_cost_at_once ["craft", "web"]) (T_paid_at_once : HasFn K mg "paid_at_once" s_paid_at_once ["craft", "web"]) (c_paid_at_once : Cal P w K mg base 11 "paid_at_once" ["craft", "web"] (spD cU (PC RPaid))) (c_cost_at_once : Cal P w K mg base 12 "cost_at_once" ["craft", "web"] (spD cU (PC RCostO))) (c__law_lists : Cal P w K mg base 8 "_law_lists" ["_law_matter"] (spD cU (PC (RL 8)))) (c__law_same : Cal P w K mg base 4 "_law_same" ["_law_got", "_law_due"] (spD cU (PC (RS 4)))) (c__law_chain : Cal P w K mg base 1 "_law_chain" [] (spD cU (PC (RCon (craftD chainC))))) (c__law_twins : Cal P w K mg base 1 "_law_twins" [] (spD cU (PC (RCon (craftD twinsC))))) (c__law_melds : Cal P w K mg base 1 "_law_melds" [] (spD cU (PC (RCon (craftD meldsC))))) (c__law_kept : Cal P w K mg base 1 "_law_kept" [] (spD cU (PC (RCon (craftD keptC))))) (c__law_double : Cal P w K mg base 1 "_law_double" [] (spD cU (PC (RCon (craftD doubleC))))) (c__law_tower : Cal P w K mg base 1 "_law_tower" [] (spD cU (PC (RCon (webD towerW))))) (c__law_refused : Cal P w K mg base 13 "_law_refused" ["_law_door", "_law_house_so", "_law_tale_so"] (spD cU (PC RRef))) : Cal P w K mg base (13 + 1) "_law_hand_right" [] (spD cU (PC RHand)) := by
  refine fnC (13) T__law_hand_right sc__law_hand_right (fun ds μ Φ Ψ h => ?_) (fun f cdv A outer s H E hr => ⟨_,
    (pss_cons (ps_par3 (i := 0) (j := 1) (l := 2) rfl sc__law_hand_right.nd rfl rfl rfl (by decide) (by decide) (by decide) rfl rfl rfl (pa_cons (pe_cal0 c__law_double (hr.mono (by omega)) (by rfl)) (pa_cons (pe_cal0 c__law_tower (hr.mono (by omega)) (by rfl)) (pa_cons (pe_cal0 c__law_twins (hr.mono (by omega)) (by rfl)) pa_nil))) (by rfl))
    (pss_cons (ps_set (i := 3) sc__law_hand_right.nd rfl (by first | exact Or.inl rfl | exact Or.inr rfl) (pe_tup (pa_cons (pe_tup (pa_cons pe_int (pa_cons (pe_tup pa_nil) pa_nil))) (pa_cons (pe_tup (pa_cons pe_int (pa_cons (pe_tup (pa_cons pe_int pa_nil)) pa_nil))) (pa_cons (pe_tup (pa_cons pe_int (pa_cons (pe_tup (pa_cons pe_int pa_nil)) pa_nil))) pa_nil)))))
    (pss_cons (ps_set (i := 4) sc__law_hand_right.nd rfl (by first | exact Or.inl rfl | exact Or.inr rfl) (pe_lst (pa_cons (pe_cal c_paid_at_once (hr.mono (by omega)) (by rfl) (pa_cons (pv 0) (pa_cons (pv 1) pa_nil))) (pa_cons (pe_cal c_cost_at_once (hr.mono (by omega)) (by rfl) (pa_cons (pv 0) (pa_cons (pv 1) pa_nil))) (pa_cons (pe_cal c_paid_at_once (hr.mono (by omega)) (by rfl) (pa_cons (pv 2) (pa_cons (pv 3) pa_nil))) pa_nil)))))
    (pss_cons (ps_set (i := 4) sc__law_hand_right.nd rfl (by first | exact Or.inl rfl | exact Or.inr rfl) (pe_op op_cat (pv 4) (pe_lst (pa_cons (pe_cal c_paid_at_once (hr.mono (by omega)) (by rfl) (pa_cons (pe_cal0 c__law_chain (hr.mono (by omega)) (by rfl)) (pa_cons (pe_tup (pa_cons (pe_tup (pa_cons pe_int (pa_cons (pe_tup pa_nil) pa_nil))) (pa_cons (pe_tup (pa_cons pe_int (pa_cons (pe_tup (pa_cons pe_int pa_nil)) pa_nil))) (pa_cons (pe_tup (pa_cons pe_int (pa_cons (pe_tup (pa_cons pe_int pa_nil)) pa_nil))) (pa_cons (pe_tup (pa_cons pe_int (pa_cons (pe_tup (pa_cons pe_int pa_nil)) pa_nil))) pa_nil))))) pa_nil))) (pa_cons (pe_cal c_paid_at_once (hr.mono (by omega)) (by rfl) (pa_cons (pv 0) (pa_cons (pe_tup pa_nil) pa_nil))) pa_nil)))))
    (pss_cons (ps_set (i := 5) sc__law_hand_right.nd rfl (by first | exact Or.inl rfl | exact Or.inr rfl) (pe_lst (pa_cons (pe_tup (pa_cons pe_int (pa_cons pe_int (pa_cons pe_int (pa_cons pe_int (pa_cons pe_int pa_nil)))))) (pa_cons pe_int (pa_cons (pe_tup (pa_cons pe_int (pa_cons pe_int (pa_cons pe_int pa_nil)))) (pa_cons (pe_tup (pa_cons pe_int (pa_cons pe_int (pa_cons pe_int (pa_cons pe_int pa_nil))))) (pa_cons (pe_tup pa_nil) pa_nil)))))))
    (pss_cons (ps_set (i := 4) sc__law_hand_right.nd rfl (by first | exact Or.inl rfl | exact Or.inr rfl) (pe_op op_cat (pv 4) (pe_lst (pa_cons (pe_calK (ks := ["web", "craft"]) c_cost_at_once T_cost_at_once (hr.mono (by omega)) (by rfl) (pk_cons (pe_cal c__law_lists (hr.mono (by omega)) (by rfl) (pa_cons (pv 3) pa_nil)) (pk_cons (pe_cal c__law_lists (hr.mono (by omega)) (by rfl) (pa_cons (pv 2) pa_nil)) pk_nil)) (fun _ _ _ _ _ _ ws hl => match ws, hl with | [_, _], _ => rfl) (by simp)) pa_nil))))
    (pss_cons (ps_set (i := 4) sc__law_hand_right.nd rfl (by first | exact Or.inl rfl | exact Or.inr rfl) (pe_op op_cat (pv 4) (pe_lst (pa_cons (pe_calK (ks := ["web", "craft"]) c_paid_at_once T_paid_at_once (hr.mono (by omega)) (by rfl) (pk_cons (pe_lst (pa_cons (pe_lst (pa_cons pe_int (pa_cons (pe_lst pa_nil) pa_nil))) pa_nil)) (pk_cons (pe_cal c__law_lists (hr.mono (by omega)) (by rfl) (pa_cons (pe_cal0 c__law_kept (hr.mono (by omega)) (by rfl)) pa_nil)) pk_nil)) (fun _ _ _ _ _ _ ws hl => match ws, hl with | [_, _], _ => rfl) (by simp)) pa_nil))))
    (pss_cons (ps_for PassesOwn.never rfl (pi_tupK (K := K) (pe_tup (pa_cons pe_int (pa_cons pe_int pa_nil)))) (pg_name (i := 6) sc__law_hand_right.nd rfl (by first | exact Or.inl rfl | exact Or.inr rfl)) (pss_one (ps_set (i := 4) sc__law_hand_right.nd rfl (by first | exact Or.inl rfl | exact Or.inr rfl) (pe_op op_cat (pv 4) (pe_lst (pa_cons (pe_cal c__law_refused (hr.mono (by omega)) (by rfl) (pa_cons (pv 6) (pa_cons (pv 2) (pa_cons (pe_tup (pa_cons (pe_tup (pa_cons pe_int (pa_cons (pe_tup (pa_cons pe_int pa_nil)) pa_nil))) pa_nil)) pa_nil)))) (pa_cons (pe_cal c__law_refused (hr.mono (by omega)) (by rfl) (pa_cons (pv 6) (pa_cons (pe_tup (pa_cons (pe_tup (pa_cons pe_int pa_nil)) (pa_cons (pe_tup pa_nil) pa_nil))) (pa_cons (pe_tup pa_nil) pa_nil)))) pa_nil)))))))
    (pss_cons (ps_set (i := 4) sc__law_hand_right.nd rfl (by first | exact Or.inl rfl | exact Or.inr rfl) (pe_op op_cat (pv 4) (pe_lst (pa_cons (pe_cal c_cost_at_once (hr.mono (by omega)) (by rfl) (pa_cons (pe_cal0 c__law_melds (hr.mono (by omega)) (by rfl)) (pa_cons (pe_tup (pa_cons (pe_tup (pa_cons pe_int (pa_cons (pe_tup pa_nil) pa_nil))) (pa_cons (pe_tup (pa_cons pe_int (pa_cons (pe_tup (pa_cons pe_int (pa_cons pe_int pa_nil))) pa_nil))) pa_nil))) pa_nil))) pa_nil))))
    (pss_cons (ps_expr (pe_bmK (K := K) PySem.F.plainAttrs_list PySem.F.slot_list_append PySem.F.type_list_append mt_append (pv 4) (pa_cons (pe_cal c_cost_at_once (hr.mono (by omega)) (by rfl) (pa_cons (pe_cal0 c__law_chain (hr.mono (by omega)) (by rfl)) (pa_cons (pe_tup (pa_cons (pe_tup (pa_cons pe_int (pa_cons (pe_tup pa_nil) pa_nil))) (pa_cons (pe_tup (pa_cons pe_int (pa_cons (pe_tup (pa_cons pe_int pa_nil)) pa_nil))) (pa_cons (pe_tup (pa_cons pe_int (pa_cons (pe_tup (pa_cons pe_int pa_nil)) pa_nil))) (pa_cons (pe_tup (pa_cons pe_int (pa_cons (pe_tup (pa_cons pe_int pa_nil)) pa_nil))) pa_nil))))) pa_nil))) pa_nil)))
    (pss_one (ps_ret (pe_cal c__law_same (hr.mono (by omega)) (by rfl) (pa_cons (pv 4) (pa_cons (pe_op op_cat (pe_op op_cat (pe_op op_cat (pv 5) (pe_lst (pa_cons pe_int (pa_cons (pe_tup (pa_cons pe_int pa_nil)) pa_nil)))) (pe_op op_rep (pe_lst (pa_cons pe_str pa_nil)) pe_int)) (pe_lst (pa_cons pe_int (pa_cons pe_int pa_nil)))) pa_nil))))))))))))))), fun ds μ Φ Ψ h => ?_⟩)
  · obtain ⟨r, ⟨rfl, _⟩, _⟩ := h; rfl
  · obtain ⟨r, ⟨rfl, rfl⟩, k⟩ := h
    refine wS_seq (wS_par3 ?_)
    walk_at "D"
    refine ⟨_, ⟨rfl, rfl⟩, ?_⟩
    walk_at "D"
    refine ⟨_, ⟨rfl, rfl⟩, ?_⟩
    walk_at "D"
    refine ⟨_, ⟨rfl, rfl⟩, ?_⟩
    walk_at "D"
    refine ⟨_, _, _, rfl, ?_⟩
    walk_at "D"
    refine wE_lst ?_
    walk_at "D"
    refine ⟨_, r_paid ok_double w_tower v_tower, ?_⟩
    walk_at "D"
    refine ⟨_, r_cost ok_double w_tower v_tower, ?_⟩
    walk_at "D"
    refine ⟨_, r_paid (wb := taleW) ok_twins w_tale v_tale, ?_⟩
    walk_at "D"
    refine wE_lst ?_
    walk_at "D"
    refine ⟨_, ⟨rfl, rfl⟩, ?_⟩
    walk_at "D"
    refine ⟨_, r_paid (wb := lineW) ok_chain w_line v_line, ?_⟩
    walk_at "D"
    refine ⟨_, r_paid (wb := []) ok_double w_none v_none, ?_⟩
    walk_at "D"
    refine wO_cat rfl rfl (by simp) ?_
    walk_at "D"
    refine wE_lst ?_
    walk_at "D"
    refine wE_lst ?_
    walk_at "D"
    refine wE_calK ?_
    walk_at "D"
    refine ⟨_, r_list (to_web ok_twins w_tale), ?_⟩
    walk_at "D"
    refine ⟨_, r_list (to_craft ok_twins), ?_⟩
    walk_at "D"
    refine ⟨_, r_costL ok_twins w_tale v_tale, ?_⟩
    walk_at "D"
    refine wO_cat rfl rfl (by simp) ?_
    walk_at "D"
    refine wE_lst ?_
    walk_at "D"
    refine wE_calK ?_
    walk_at "D"
    refine wE_lst ?_
    walk_at "D"
    refine wE_lst ?_
    walk_at "D"
    refine wE_lst ?_
    walk_at "D"
    refine ⟨_, ⟨rfl, rfl⟩, ?_⟩
    walk_at "D"
    refine ⟨_, r_list (to_craft ok_kept), ?_⟩
    walk_at "D"
    refine ⟨_, r_keptK, ?_⟩
    walk_at "D"
    refine wO_cat rfl rfl (by simp) ?_
    walk_at "D"
    refine wI_tup ?_
    walk_at "D"
    refine wE_lst ?_
    walk_at "D"
    refine ⟨_, r_bad1 0, ?_⟩
    walk_at "D"
    refine ⟨_, r_bad2 0, ?_⟩
    walk_at "D"
    refine wO_cat rfl rfl (by simp) ?_
    walk_at "D"
    refine wE_lst ?_
    walk_at "D"
    refine ⟨_, r_bad1 1, ?_⟩
    walk_at "D"
    refine ⟨_, r_bad2 1, ?_⟩
    walk_at "D"
    refine wO_cat rfl rfl (by simp) ?_
    with_reducible refine forL_nil ?_
    refine wS_seqA ?_
    refine wS_seqF ?_
    walk_at "D"
    refine wE_lst ?_
    walk_at "D"
    refine ⟨_, ⟨rfl, rfl⟩, ?_⟩
    walk_at "D"
    refine ⟨_, r_cost (wb := bothW) ok_melds w_both v_both, ?_⟩
    walk_at "D"
    refine wO_catR rfl rfl (by simp) (PuL.of fun d hd => pu_due d (List.mem_of_mem_take (i := 11) hd)) (.cons (.int _) .nil) ?_
    walk_at "D"
    refine wE_appL (by simp) ?_
    walk_at "D"
    refine ⟨rfl, rfl, ?_⟩
    walk_at "D"
    refine ⟨_, ⟨rfl, rfl⟩, ?_⟩
    walk_at "D"
    refine ⟨_, r_cost (wb := lineW) ok_chain w_line v_line, ?_⟩
    walk_at "D"
    refine ⟨rfl, .int _, [none, none, none, none, some (.lst dueL), some (.lst (dueL.take 5)), none], μ, dueL, rfl, rfl, ⟨rfl, fun i d e => ?_⟩, ?_⟩
    · rcases i with _ | _ | _ | _ | _ | _ | _ | i
      · cases e
      · cases e
      · cases e
      · cases e
      · cases e; exact .inr ⟨rfl, rfl⟩
      · cases e; exact .inl ⟨.lst (PuL.of fun d hd => pu_due d (List.mem_of_mem_take hd)), rfl⟩
      · cases e
      · simp at e
    walk_at "D"
    refine wE_lst ?_
    walk_at "D"
    refine wO_cat rfl rfl (by simp) ?_
    walk_at "D"
    refine wE_lst ?_
    walk_at "D"
    refine wO_rep (n := 4) rfl rfl (by decide) (by simp) ?_
    refine wO_cat rfl rfl (by simp) ?_
    walk_at "D"
    refine wE_lst ?_
    walk_at "D"
    refine wO_cat rfl rfl (by simp) ?_
    walk_at "D"
    exact ⟨_, ⟨.lst dueL, rfl, ts_due, rfl⟩, .same k⟩
end
end PB
namespace DL
open PySem PySem.Spec PyProof.Rows L2
section
variable {P : Program} {w : World} {K : PySem.W.Frag} {mg : Str → Option Value} {base : Heap}
/-- a def by a promise as the hand layer writes it -/
theorem fnR {x : Str} {st : Stmt} {N ps : List Str} (k : Nat) {sp : Sp} (hx : HasFn K mg x st ps) (S : FnScope N ps (defScope st)) (hl : ∀ vs H Q E, sp vs H Q E → vs.length = ps.length)
    (hb : ∀ (f : Addr) (cdv : Value) (A : Around) (outer : List Env) (s : Shared) (H : Hp) (E : XK), Room k (A.deeper (envOfC x (defScope st) s.heap.objs.size f cdv)) → ∃ t, PSs (cxOf CX0 P w K mg base N x (defScope st) f cdv A outer s H E).nox (defBody st) t ∧
      ∀ vs Q, sp vs H Q E → t { nx := fun _ H' => Q .non H', rt := Q } (L2.start N vs) H) : Cal P w K mg base (k + 1) x ps sp := by
  obtain ⟨f, fd, F, hm, hbd⟩ := hx.ex
  refine ⟨f, fd, F.ok S hl (fun cdv A outer s H vs Q E hrm h => ?_), hm, F.kp, hbd, ?_⟩
  · obtain ⟨t, ht, hr⟩ := hb f cdv A outer s H E hrm
    exact ⟨t, ht, hr vs Q h⟩
  · obtain ⟨oc, od, _, _, _, _, _, _, osl, _, lk, _⟩ := F.ex
    exact ⟨oc, od, osl, lk⟩
end
/-- a for over what is walked already -/
theorem for_raw {J : It} {items : List Dt} {X : Hp → Prop} {g : TG} {tb : TS} {P : DE} {D : Ends} {σ : L2.St} {H : Hp} {α : List Addr} {δ : Sl} {μ : List MO} (R : Rel H α σ δ μ) (it : Itm J α H items) (h : ForL X g tb P items δ μ) (f : Fits X α H P D) :
    tFor (fun _ H R => R J H) g tb D σ H := by
  refine ⟨fun i m σ' H' => m = items.length - i ∧ i ≤ items.length ∧ ∃ α' δ' μ', Nx α H α' H' ∧ Rel H' α' σ' δ' μ' ∧ ForL X g tb P (items.drop i) δ' μ',
    ⟨items.length, rfl, Nat.zero_le _, α, δ, μ, .refl, R, h⟩, ?_⟩
  rintro i m σ2 H2 ⟨rfl, hi, α2, δ2, μ2, n2, R2, k2⟩
  by_cases hlt : i < items.length
  · refine .inr ⟨it.go i H2 α2 μ2 n2 R2.rm hlt, fun σ' H' => ∃ α' δ' μ', Nx α H α' H' ∧ Rel H' α' σ' δ' μ' ∧ ForL X g tb P (items.drop (i + 1)) δ' μ', fun σ' H' p => ⟨_, by omega, rfl, hlt, p⟩, fun x H3 hy => ?_⟩
    have e : items.drop i = items[i] :: items.drop (i + 1) := List.drop_eq_getElem_cons hlt
    rw [e] at k2
    obtain ⟨n3, R3, D3⟩ := it.yld i H2 α2 μ2 x H3 items[i] n2 R2.rm (List.getElem?_eq_getElem hlt) hy
    refine k2 σ2 H3 α2 x _ (R2.nx n3 R3) D3 fun σ4 H4 α4 δ4 μ4 n4 R4 k4 => ?_
    have n24 : Nx α H α4 H4 := (n2.trans n3).trans n4
    refine k4 σ4 H4 α4 _ R4 ⟨fun σ5 H5 α5 δ5 μ5 n5 R5 k5 => ⟨α5, δ5, μ5, n24.trans n5, R5, k5⟩, fun v H5 α5 d5 μ5 n5 R5 D5 k5 => f.rt v H5 α5 d5 μ5 (n24.trans n5) R5 D5 k5,
      fun σ5 H5 α5 δ5 μ5 n5 R5 k5 => f.nx σ5 H5 α5 δ5 μ5 (n24.trans n5) R5 k5, fun σ5 H5 α5 δ5 μ5 n5 R5 k5 => ⟨α5, δ5, μ5, n24.trans n5, R5, k5⟩, fun H5 α5 μ5 n5 R5 k5 => f.ex H5 α5 μ5 (n24.trans n5) R5 k5⟩
  · have e : i = items.length := by omega
    subst e
    rw [List.drop_length] at k2
    exact .inl ⟨it.stop H2 α2 μ2 n2 R2.rm, f.nx σ2 H2 α2 δ2 μ2 n2 R2 k2⟩
theorem cutV_take (vs : List V) (n : Nat) : cutV vs none (some (n : Int)) = vs.take n := by
  unfold cutV
  rw [HT.sIx_none, HT.sIx_nat, List.drop_zero, Nat.sub_zero, List.take_eq_take_iff]
  omega
theorem ints_map : ∀ (ns : List Int), DvL (fun _ => none) [] [] (ns.map V.int) (ns.map Dt.int)
  | [] => .nil
  | n :: ns => .cons (.int n) (ints_map ns)
theorem ints_dv {H : Hp} {av rg : List Addr} : ∀ (ns : List Int), DvL H av rg (ns.map V.int) (ns.map Dt.int)
  | [] => .nil
  | n :: ns => .cons (.int n) (ints_dv ns)
theorem RM.one {H : Hp} {p : Addr} {xs : List V} {ds : List Dt} (e : H p = some (.lst xs)) (D : DvL H [p] [] xs ds) : RM H [p] [.lst ds] :=
  ⟨by simp, rfl, fun j a m h1 h2 => by
    cases j with
    | zero => cases h1; cases h2; exact ⟨xs, e, D⟩
    | succ j => simp at h1⟩
theorem cells_first {K : PySem.W.Frag} {H : Hp} {a : Addr} {ns : List Int} {σ : L2.St} {Q : VK} (hs : SqL K H a (ns.map V.int)) (h0 : σ[0]? = some (some (.ref a))) (h1 : σ[1]? = some (some (.int 1)))
    (k : ∀ (H1 : Hp) (p : Addr) (x : Int), Same H H1 → H p = none → H1 p = some (.lst [.int x]) → Q (.ref p) H1) :
    tOrT K (tCB (fun xs H Q => ∃ p ys, xs = [.ref p] ∧ (SqL K H p ys ∨ SqT K H p ys) ∧ ∀ l, H l = none → Q (.ref l) (upd H l (.lst ys))) (tCons (tSl (rSlL K) (tVar 0) tNoPart (tPart (tVar 1))) tNil)) (tLst (tCons (tC (.int 0)) tNil)) σ H Q := by
  refine ⟨_, h0, _, h1, 1, rfl, a, _, rfl, hs, fun p1 hp1 => ⟨p1, _, rfl, .inl (.inl (.inl upd_same)), fun l hl2 => ⟨_, .inl ⟨_, .inl (.inl upd_same), rfl⟩, ?_⟩⟩⟩
  have ct : cutV (ns.map V.int) none (some 1) = (ns.map V.int).take 1 := cutV_take _ 1
  rw [ct]
  have hlp : l ≠ p1 := fun z => by rw [z, upd_same] at hl2; cases hl2
  have hl : H l = none := by rwa [upd_ne hlp] at hl2
  have old : ∀ (o o' : HO), Same H (upd (upd H p1 o) l o') := fun o o' b u e => by
    rw [upd_ne (ne_of_none e hl), upd_ne (ne_of_none e hp1)]; exact e
  cases ns with
  | nil =>
    refine iteF ?_
    refine ⟨by show 1 ≤ sizeLine; decide, fun p hp => ?_⟩
    have h3 : p ≠ l := fun z => by rw [z, upd_same] at hp; cases hp
    rw [upd_ne h3] at hp
    have h4 : p ≠ p1 := fun z => by rw [z, upd_same] at hp; cases hp
    rw [upd_ne h4] at hp
    refine k _ p 0 (fun b u e => ?_) hp upd_same
    rw [upd_ne (ne_of_none e hp)]
    exact old _ _ b u e
  | cons n r => exact iteT (k _ l n (old _ _) hl upd_same)
theorem cutV_map (ns : List Int) (lo hi : Option Int) : ∃ ms : List Int, cutV (ns.map V.int) lo hi = ms.map V.int ∧ ms.length ≤ ns.length := by
  unfold cutV
  refine ⟨(ns.drop (HT.sIx (ns.map V.int).length 0 lo)).take (HT.sIx (ns.map V.int).length (ns.map V.int).length hi - HT.sIx (ns.map V.int).length 0 lo), ?_, ?_⟩
  · rw [List.map_take, List.map_drop]
  · rw [List.length_take, List.length_drop]; omega
end DL
namespace PB
open PySem PySem.Spec PyProof.Rows L2 DL
local macro_rules | `(tactic| walk_at "ix") => `(tactic| first
  | with_reducible exact at0 | with_reducible exact at1 | with_reducible exact at2 | with_reducible exact at3 | with_reducible exact at4 | with_reducible exact at_map (by assumption) | with_reducible exact at_nat (by assumption)
  | exact at0 | exact at1 | exact at2 | exact at3 | exact at4 | exact at_nat (by assumption) | exact at_map (by assumption) | rfl)
local macro_rules | `(tactic| walk_at "b") => `(tactic| first
  | refine ⟨true, rfl, fun _ => ?_, fun hx => tf hx⟩
  | refine ⟨false, rfl, fun hx => ft hx, fun _ => ?_⟩
  | refine ⟨true, rfl, fun hx => ft hx, fun _ => ?_⟩
  | refine ⟨false, rfl, fun _ => ?_, fun hx => tf hx⟩
  | refine ⟨_, rfl, ?_⟩)
local macro_rules | `(tactic| walk_at "t") => `(tactic| first
  | refine ⟨Nat.le_of_ble_eq_true rfl, ?_⟩
  | refine ⟨fun _ => ?_, fun hx => tf hx⟩
  | refine ⟨fun hx => ft hx, fun _ => ?_⟩)
local macro_rules | `(tactic| walk_at "isi") => `(tactic| first
  | refine wC_isi rfl k_ii ?_ | refine wC_isi rfl k_ib ?_ | refine wC_isi rfl k_tt ?_ | refine wC_isi rfl k_tl ?_ | refine wC_isi rfl k_ll ?_ | refine wC_isi rfl k_lt ?_ | refine wC_isi rfl k_sb ?_ | refine wC_isi rfl k_si ?_
  | refine wC_isi rfl k_bb ?_ | refine wC_isi rfl k_bi ?_ | refine wC_isi rfl k_st ?_ | refine wC_isi rfl k_sl ?_ | refine wC_isi rfl k_il ?_ | refine wC_isi rfl k_it ?_
  | refine wC_isi2 rfl k_tl k_tt ?_ | refine wC_isi2 rfl k_ll k_lt ?_ | refine wC_isi2 rfl k_il k_it ?_ | refine wC_isi2 rfl k_sl k_st ?_ | refine wC_isi2 rfl k_ib k_is ?_ | refine wC_isi2 rfl k_sb k_ss ?_)
local macro_rules | `(tactic| walk_at "dE") => `(tactic| first
  | with_reducible refine wE_var rfl ?_ | with_reducible refine wE_op ?_ | with_reducible refine wE_int ?_ | with_reducible refine wE_call ?_ | with_reducible refine wE_str ?_
  | with_reducible refine wE_lenSet ?_ | with_reducible refine wE_sortedSet ?_ | with_reducible refine wE_cb ?_ | with_reducible refine wE_and ?_ | with_reducible refine wE_or ?_ | with_reducible refine wE_not ?_ | with_reducible refine wE_if ?_
  | with_reducible refine wE_tup ?_ | with_reducible refine wE_ty ?_ | with_reducible refine wE_bl ?_ | with_reducible refine wE_non ?_ | with_reducible refine wE_chain ?_ | with_reducible refine wE_un ?_ | with_reducible refine wE_slice ?_)
local macro_rules | `(tactic| walk_at "dS") => `(tactic| first
  | with_reducible refine wS_seq ?_ | with_reducible refine wS_set ?_ | with_reducible refine wS_if ?_ | with_reducible refine wS_drop ?_ | with_reducible refine wS_next ?_ | with_reducible refine wS_ret ?_ | with_reducible refine wS_asg ?_
  | with_reducible refine wS_cont ?_ | with_reducible refine wS_par ?_ | with_reducible refine wS_for ?_)
local macro_rules | `(tactic| walk_at "dT") => `(tactic| first
  | with_reducible refine wT_test ?_ | with_reducible refine wT_B ?_ | with_reducible refine wT_and ?_ | with_reducible refine wT_or ?_ | with_reducible refine wT_not ?_)
local macro_rules | `(tactic| walk_at "dO") => `(tactic| first
  | with_reducible refine wO_int ?_ | with_reducible refine wO_intB ?_ | with_reducible refine wO_eqI ?_ | with_reducible refine wO_eqS ?_ | with_reducible refine wO_neI ?_ | with_reducible refine wO_eqB ?_ | with_reducible refine wO_neB ?_
  | with_reducible refine wO_isN ?_ | with_reducible refine wO_notN ?_ | (refine wO_ixT (by walk_at "ix") ?_))
local macro_rules | `(tactic| walk_at "dC") => `(tactic| first
  | walk_at "isi" | (refine wC_len (.inl rfl) ?_) | with_reducible refine wC_intI ?_ | with_reducible refine wC_intB ?_ | with_reducible refine wC_abs ?_ | with_reducible refine wC_min ?_)
local macro_rules | `(tactic| walk_at "d") => `(tactic| first
  | ((with_reducible refine isE ?_); walk_at "dE")
  | ((with_reducible refine isA ?_); first | with_reducible refine wA_cons ?_ | with_reducible refine wA_nil ?_)
  | ((with_reducible refine isO ?_); walk_at "dO")
  | ((with_reducible refine isS ?_); walk_at "dS")
  | ((with_reducible refine isT ?_); walk_at "dT")
  | ((with_reducible refine isC ?_); walk_at "dC")
  | with_reducible refine wG_name ?_ | ((with_reducible refine isG ?_); refine wG_tup rfl ?_) | with_reducible refine wGs_cons ?_ | with_reducible refine wGs_nil ?_
  | with_reducible refine forL_cons ?_ | with_reducible refine forL_nil ?_
  | with_reducible refine wP_none ?_ | with_reducible refine wP_some ?_)
local macro_rules | `(tactic| walk_at "D") => `(tactic| repeat (first | walk_at "d" | walk_at "t" | walk_at "b"))

section
variable {P : Program} {w : World} {K : PySem.W.Frag} {mg : Str → Option Value} {base : Heap} {cU : Addr}
def spCells (K : PySem.W.Frag) : Sp := fun vs H Q _ => ∃ (a : Addr) (ns : List Int), vs = [.ref a, .int 1] ∧ SqL K H a (ns.map V.int) ∧ ns.length ≤ 63 ∧
  ∀ (H' : Hp) (p : Addr) (x : Int), Same H H' → H p = none → H' p = some (.lst [.int x]) → Q (.ref p) H'
theorem c__law_cells (T__law_cells : HasFn K mg "_law_cells" s__law_cells ["_law_script", "_law_most_so"]) (B : Bt mg) : Cal P w K mg base (0 + 1) "_law_cells" ["_law_script", "_law_most_so"] (spCells K) := by
  refine fnR (0) T__law_cells sc__law_cells (fun vs H Q E h => ?_) (fun f cdv A outer s H E hr => ⟨_,
    (pss_cons (ps_set (i := 2) sc__law_cells.nd rfl (by first | exact Or.inl rfl | exact Or.inr rfl) (pe_orTK (K := K) (pe_callTy (listK (K := K)) (by rfl) B.list_ (by decide +kernel) (pa_cons (pe_slice (sl_listK (K := K)) (pv 0) po_none (po_some (pv 1))) pa_nil)) (pe_one (pe_lst (pa_cons pe_int pa_nil)))))
    (pss_cons (ps_for PassesOwn.never rfl (pi_enumK (K := K) (by rfl) B.enumerate_ (pa_cons (pe_slice (sl_listK (K := K)) (pv 0) (po_some (pv 1)) (po_some pe_int)) pa_nil)) (pg_tupK (K := K) (n := 2) rfl (pgs_cons (pg_name (i := 3) sc__law_cells.nd rfl (by first | exact Or.inl rfl | exact Or.inr rfl)) (pgs_cons (pg_name (i := 4) sc__law_cells.nd rfl (by first | exact Or.inl rfl | exact Or.inr rfl)) pgs_nil))) (pss_cons (ps_set (i := 5) sc__law_cells.nd rfl (by first | exact Or.inl rfl | exact Or.inr rfl) (pe_op op_mod (pe_callTy call_int1 (by rfl) B.int_ (by decide +kernel) (pa_cons (pv 3) pa_nil)) (pv 1)))
    (pss_one (ps_asg (pe_op op_add (pe_ix (ix_listK (K := K)) (pv 2) (pv 5) (fun _ _ => rfl)) (pe_op op_mul (pv 4) (pe_op op_add (pv 3) pe_int))) (pg_sub (pv 2) (pv 5) set_list)))))
    (pss_one (ps_ret (pv 2))))), fun vs Q h => ?_⟩)
  · obtain ⟨a, ns, rfl, _⟩ := h; rfl
  · obtain ⟨a, ns, rfl, hs, hl, k⟩ := h
    refine cells_first hs rfl rfl fun H1 p x s1 hp e1 => ?_
    obtain ⟨ms, hms, hml⟩ := cutV_map ns (some 1) (some 63)
    refine ⟨_, rfl, _, rfl, 1, rfl, 63, rfl, a, _, rfl, s1.seq hs, fun l hl2 => ?_⟩
    rw [hms]
    have hlp : l ≠ p := fun z => by rw [z, e1] at hl2; cases hl2
    have e2 : upd H1 l (.lst (ms.map V.int)) p = some (.lst [.int x]) := by rw [upd_ne (Ne.symm hlp)]; exact e1
    refine ⟨l, _, rfl, .inl (.inl upd_same), ?_⟩
    have R : Rel (upd H1 l (.lst (ms.map V.int))) [p] [some (.ref a), some (.int 1), some (.ref p), none, none, none] [none, some (.int 1), some (.reg 0), none, none, none] [.lst [.int x]] :=
      ⟨.one e2 (.cons (.int x) .nil), rfl, fun i d e => (by
        rcases i with _ | _ | _ | _ | _ | _ | i
        · cases e
        · cases e; exact ⟨_, rfl, .int 1⟩
        · cases e; exact ⟨_, rfl, .reg rfl⟩
        · cases e
        · cases e
        · cases e
        · simp at e)⟩
    have it : Itm (Ite K l) [p] (upd H1 l (.lst (ms.map V.int))) (enumD 0 (ms.map Dt.int)) := itm_enumL R.rm upd_same (by simpa using hlp) (ints_dv ms)
    have fin : ∀ (H3 : Hp) (α3 : List Addr) (v : V) (y : Int), Nx [p] (upd H1 l (.lst (ms.map V.int))) α3 H3 → RM H3 α3 [.lst [.int y]] → Dv H3 α3 α3 v (.reg 0) → Q v H3 := fun H3 α3 v y n R3 D => by
      cases D with
      | @reg b _ eb =>
        obtain ⟨xs, ex, kx⟩ := R3.ok 0 b _ eb rfl
        have hb : α3[0]? = some p := n.get (j := 0) rfl
        rw [hb] at eb
        cases eb
        cases kx with
        | cons k1 k2 =>
          cases k2
          cases k1
          refine k H3 p y (fun c o ec => ?_) hp ex
          have h1 := s1 c o ec
          have hcp : c ≠ p := fun z => by rw [z, hp] at ec; cases ec
          have hcl : c ≠ l := fun z => by rw [z, hl2] at h1; cases h1
          exact n.keep c o (by simpa using hcp) (by rw [upd_ne hcl]; exact h1)
    refine for_raw (X := fun _ => False) (P := { nx := fun δ' μ' => δ'[2]? = some (some (.reg 0)) ∧ ∃ y : Int, μ' = [.lst [.int y]], rt := fun _ _ => False }) R it ?_ ⟨fun σ' H' α' δ' μ' n R' ⟨hd, y, hy⟩ => ?_, fun _ _ _ _ _ _ _ _ k => k.elim, fun _ _ _ _ _ _ _ k => k.elim, fun _ _ _ _ _ _ _ k => k.elim, fun _ _ _ _ _ k => k.elim⟩
    · refine forL_inv (fun i δ' μ' => ∃ (a3 a4 a5 : Option Dt) (y : Int), δ' = [none, some (.int 1), some (.reg 0), a3, a4, a5] ∧ μ' = [.lst [.int y]]) 0 ⟨none, none, none, x, rfl, rfl⟩ (fun i d δ' μ' hi hI => ?_) (fun δ' μ' hI => ?_)
      · obtain ⟨a3, a4, a5, y, rfl, rfl⟩ := hI
        have hil : i < (enumD 0 (ms.map Dt.int)).length := (List.getElem?_eq_some_iff.mp hi).1
        rw [enumD_len, List.length_map] at hil
        rw [enumD_get] at hi
        cases hf : (ms.map Dt.int)[i]? with
        | none => rw [hf] at hi; cases hi
        | some d' =>
          rw [hf] at hi
          cases hi
          obtain ⟨z, hz, rfl⟩ := map_get hf
          simp only [Nat.zero_add]
          walk_at "D"
          refine wO_modN (b := 1) (by decide) fun r hr => ?_
          have hr0 : r = 0 := by omega
          subst hr0
          walk_at "D"
          refine wO_ixL rfl at0 ?_
          walk_at "D"
          refine wO_intC (.inr ⟨by omega, by omega⟩) ?_
          walk_at "D"
          refine wG_set ?_
          walk_at "D"
          exact ⟨0, _, 0, 0, rfl, rfl, rfl, rfl, .int _, _, _, _, _, rfl, rfl⟩
      · obtain ⟨a3, a4, a5, y, rfl, rfl⟩ := hI
        exact ⟨rfl, y, rfl⟩
    · subst hy
      obtain ⟨v, hv, D⟩ := R'.ss 2 _ hd
      exact ⟨v, hv, fin H' α' v y n R'.rm D⟩
def spLaw (K : PySem.W.Frag) : Sp := fun vs H Q _ => ∃ (a : Addr) (ns : List Int), vs = [.ref a] ∧ SqL K H a (ns.map V.int) ∧ ns.length ≤ 63 ∧ ∀ H' : Hp, Q (.bl true) H'
theorem c_law (T_law : HasFn K mg "law" s_law ["_law_script"]) (B : Bt mg) (c__law_hand_right : Cal P w K mg base 14 "_law_hand_right" [] (spD cU (PC RHand))) (c__law_right : Cal P w K mg base 15 "_law_right" ["_law_tin"] (spD cU CRight)) (c__law_box : Cal P w K mg base 1 "_law_box" ["_law_script", "_law_k"] (spD cU CBox)) (c__law_cells : Cal P w K mg base 1 "_law_cells" ["_law_script", "_law_most_so"] (spCells K)) : Cal P w K mg base (15 + 1) "law" ["_law_script"] (spLaw K) := by
  refine fnR (15) T_law sc_law (fun vs H Q E h => ?_) (fun f cdv A outer s H E hr => ⟨_,
    (pss_one (ps_ret (pe_and (pe_cal0 c__law_hand_right (hr.mono (by omega)) (by rfl)) (pe_one (pe_cal c__law_right (hr.mono (by omega)) (by rfl) (pa_cons (pe_cal c__law_box (hr.mono (by omega)) (by rfl) (pa_cons (pe_cal c__law_cells (hr.mono (by omega)) (by rfl) (pa_cons (pv 0) (pa_cons pe_int pa_nil))) (pa_cons pe_int pa_nil))) pa_nil)))))), fun vs Q h => ?_⟩)
  · obtain ⟨a, ns, rfl, _⟩ := h; rfl
  · obtain ⟨a, ns, rfl, hs, hl, k⟩ := h
    have R0 : RM H [] [] := ⟨.nil, rfl, fun j b m e => by simp at e⟩
    refine ⟨[], [], [], fun d μ' => d = .bl true ∧ μ' = [], fun _ => False, R0, .nil, ⟨.bl true, ⟨rfl, rfl⟩, rfl, rfl⟩, fun v H1 α1 d μ1 n1 R1 D1 ⟨ed, eμ⟩ => ?_, fun _ _ _ _ _ k => k.elim⟩
    subst ed eμ
    cases D1
    have ha1 : α1 = [] := List.eq_nil_of_length_eq_zero R1.len
    subst ha1
    have s1 : Same H H1 := fun b o e => n1.keep b o (by simp) e
    refine ⟨true, rfl, ?_⟩
    refine ⟨_, rfl, a, ns, rfl, s1.seq hs, hl, fun H2 p x s2 hp e2 => ?_⟩
    have R2 : RM H2 [] [] := ⟨.nil, rfl, fun j b m e => by simp at e⟩
    refine ⟨[], [.lst [.int x], .int 0], [], fun d μ' => d = .reg 0 ∧ ∃ t, TinL t (2 ^ 59) ∧ μ' = [.lst t], fun _ => False, R2, .cons (.lst e2 (by simp) (.cons (.int x) .nil)) (.cons (.int 0) .nil), ⟨x, rfl, fun t ht => ⟨rfl, t, ht, rfl⟩⟩, fun v H3 α3 d μ3 n3 R3 D3 ⟨ed, t, ht, eμ⟩ => ?_, fun _ _ _ _ _ k => k.elim⟩
    subst ed eμ
    exact ⟨α3, [.reg 0], [.lst t], fun d _ => d = .bl true, fun _ => False, R3, .cons D3 .nil, ⟨t, rfl, rfl, ht.mono (by decide), fun _ => rfl⟩, fun v H4 α4 d μ4 n4 R4 D4 ed => by
      subst ed
      cases D4
      exact k H4, fun _ _ _ _ _ k => k.elim⟩
end
end PB
namespace PB
open PySem PySem.Spec PyProof.Rows L2 DL
/-- what the top has left -/
structure Txt (K : PySem.W.Frag) (mg : Str → Option Value) (tN tK : Tok) (cU : Addr) : Prop where
  B : Bt mg
  T : Tx mg tN tK
  U : Unf K mg cU
  T_is_number : HasFn K mg "is_number" s_is_number ["thing"]
  T_is_from : HasFn K mg "is_from" s_is_from ["thing", "least"]
  T_is_within : HasFn K mg "is_within" s_is_within ["thing", "least", "most"]
  T_is_long : HasFn K mg "is_long" s_is_long ["thing", "length"]
  T_is_spot : HasFn K mg "is_spot" s_is_spot ["sizes", "elders", "thing"]
  T_are_spots : HasFn K mg "are_spots" s_are_spots ["sizes", "elders", "thing"]
  T_ascends : HasFn K mg "ascends" s_ascends ["row"]
  T_is_filling : HasFn K mg "is_filling" s_is_filling ["sizes", "elders", "thing"]
  T_is_row : HasFn K mg "is_row" s_is_row ["sizes", "thing"]
  T_is_craft : HasFn K mg "is_craft" s_is_craft ["thing"]
  T_tupled : HasFn K mg "tupled" s_tupled ["value"]
  T_sure_craft : HasFn K mg "sure_craft" s_sure_craft ["craft"]
  T_shape_by : HasFn K mg "shape_by" s_shape_by ["craft", "web", "version"]
  T_may_come : HasFn K mg "may_come" s_may_come ["craft", "web", "thing"]
  T_fits : HasFn K mg "fits" s_fits ["craft", "thing"]
  T_sure_web : HasFn K mg "sure_web" s_sure_web ["craft", "web"]
  T_slots_by : HasFn K mg "slots_by" s_slots_by ["craft", "there", "version", "found"]
  T_held_by : HasFn K mg "held_by" s_held_by ["craft", "web"]
  T_paid_at_once : HasFn K mg "paid_at_once" s_paid_at_once ["craft", "web"]
  T_cost_at_once : HasFn K mg "cost_at_once" s_cost_at_once ["craft", "web"]
  T_news_of : HasFn K mg "news_of" s_news_of ["craft", "web", "holds"]
  T_do_wait : HasFn K mg "do_wait" s_do_wait ["news", "done", "first", "way"]
  T_set_of : HasFn K mg "set_of" s_set_of ["row"]
  T_played : HasFn K mg "played" s_played ["craft", "web"]
  T_unforced : HasFn K mg "unforced" s_unforced ["craft", "web"]
  T__law_take : HasFn K mg "_law_take" s__law_take ["_law_tin", "_law_below_so"]
  T__law_box : HasFn K mg "_law_box" s__law_box ["_law_script", "_law_k"]
  T__law_of : HasFn K mg "_law_of" s__law_of ["_law_tin", "_law_goods_so"]
  T__law_pick : HasFn K mg "_law_pick" s__law_pick ["_law_tin", "_law_goods_so", "_law_count_so"]
  T__law_filling : HasFn K mg "_law_filling" s__law_filling ["_law_tin", "_law_goods_so"]
  T__law_house_two : HasFn K mg "_law_house_two" s__law_house_two ["_law_tin"]
  T__law_house_one : HasFn K mg "_law_house_one" s__law_house_one ["_law_tin"]
  T__law_comes : HasFn K mg "_law_comes" s__law_comes ["_law_house_so", "_law_tale_so"]
  T__law_tale : HasFn K mg "_law_tale" s__law_tale ["_law_tin", "_law_house_so", "_law_count_so"]
  T__law_lists : HasFn K mg "_law_lists" s__law_lists ["_law_matter"]
  T__law_same : HasFn K mg "_law_same" s__law_same ["_law_got", "_law_due"]
  T__law_held : HasFn K mg "_law_held" s__law_held ["_law_house_so", "_law_tale_so"]
  T__law_force : HasFn K mg "_law_force" s__law_force ["_law_house_so", "_law_tale_so", "_law_holds_so", "_law_wait_so", "_law_why_so", "_law_anew_so", "_law_done_so", "_law_row_so"]
  T__law_play : HasFn K mg "_law_play" s__law_play ["_law_house_so", "_law_tale_so", "_law_anew_so"]
  T__law_paid : HasFn K mg "_law_paid" s__law_paid ["_law_house_so", "_law_tale_so", "_law_ledger_so"]
  T__law_cost : HasFn K mg "_law_cost" s__law_cost ["_law_house_so", "_law_tale_so"]
  T__law_at_once_so : HasFn K mg "_law_at_once_so" s__law_at_once_so ["_law_house_so", "_law_tale_so"]
  T__law_refused : HasFn K mg "_law_refused" s__law_refused ["_law_door", "_law_house_so", "_law_tale_so"]
  T__law_chain : HasFn K mg "_law_chain" s__law_chain []
  T__law_twins : HasFn K mg "_law_twins" s__law_twins []
  T__law_melds : HasFn K mg "_law_melds" s__law_melds []
  T__law_kept : HasFn K mg "_law_kept" s__law_kept []
  T__law_double : HasFn K mg "_law_double" s__law_double []
  T__law_tower : HasFn K mg "_law_tower" s__law_tower []
  T__law_hand_right : HasFn K mg "_law_hand_right" s__law_hand_right []
  T__law_right : HasFn K mg "_law_right" s__law_right ["_law_tin"]
  T__law_cells : HasFn K mg "_law_cells" s__law_cells ["_law_script", "_law_most_so"]
  T_law : HasFn K mg "law" s_law ["_law_script"]
section
variable {P : Program} {w : World} {K : PySem.W.Frag} {mg : Str → Option Value} {base : Heap} {cU : Addr}
theorem c__law_listsN (T__law_lists : HasFn K mg "_law_lists" s__law_lists ["_law_matter"]) (B : Bt mg) : ∀ n : Nat, Cal P w K mg base n "_law_lists" ["_law_matter"] (spD cU (PC (RL n)))
  | 0 => Cal.zero T__law_lists fun ds μ Φ Ψ h => by obtain ⟨r, h, _⟩ := h; exact h
  | n + 1 => c__law_lists T__law_lists B (c__law_listsN T__law_lists B n)
theorem c__law_sameN (T__law_same : HasFn K mg "_law_same" s__law_same ["_law_got", "_law_due"]) (B : Bt mg) : ∀ n : Nat, Cal P w K mg base n "_law_same" ["_law_got", "_law_due"] (spD cU (PC (RS n)))
  | 0 => Cal.zero T__law_same fun ds μ Φ Ψ h => by obtain ⟨r, h, _⟩ := h; exact h
  | n + 1 => c__law_same T__law_same B (c__law_sameN T__law_same B n)
theorem law_keeps {tN tK : Tok} (T : Txt K mg tN tK cU) : Cal P w K mg base 16 "law" ["_law_script"] (spLaw K) := by
  have c_is_number : Cal P w K mg base (0 + 1) "is_number" ["thing"] (spD cU (PC RNum)) := PB.c_is_number T.T_is_number T.B
  have c_is_from : Cal P w K mg base (1 + 1) "is_from" ["thing", "least"] (spD cU (PC RFrom)) := PB.c_is_from T.T_is_from T.B (c_is_number.mono (by decide))
  have c_is_within : Cal P w K mg base (1 + 1) "is_within" ["thing", "least", "most"] (spD cU (PC RWithin)) := PB.c_is_within T.T_is_within T.B (c_is_number.mono (by decide))
  have c_is_long : Cal P w K mg base (0 + 1) "is_long" ["thing", "length"] (spD cU (PC RLong)) := PB.c_is_long T.T_is_long T.B
  have c_is_spot : Cal P w K mg base (2 + 1) "is_spot" ["sizes", "elders", "thing"] (spD cU (PC RSpot)) := PB.c_is_spot T.T_is_spot T.B (c_is_within.mono (by decide))
  have c_are_spots : Cal P w K mg base (3 + 1) "are_spots" ["sizes", "elders", "thing"] (spD cU (PC RSpots)) := PB.c_are_spots T.T_are_spots T.B (c_is_spot.mono (by decide))
  have c_ascends : Cal P w K mg base (0 + 1) "ascends" ["row"] (spD cU (PC RAsc)) := PB.c_ascends T.T_ascends T.B
  have c_is_filling : Cal P w K mg base (4 + 1) "is_filling" ["sizes", "elders", "thing"] (spD cU (PC RFil)) := PB.c_is_filling T.T_is_filling T.B (c_is_spot.mono (by decide)) (c_is_from.mono (by decide)) (c_are_spots.mono (by decide)) (c_ascends.mono (by decide))
  have c_is_row : Cal P w K mg base (5 + 1) "is_row" ["sizes", "thing"] (spD cU (PC RRow)) := PB.c_is_row T.T_is_row T.B (c_is_within.mono (by decide)) (c_is_from.mono (by decide)) (c_are_spots.mono (by decide)) (c_is_filling.mono (by decide))
  have c_is_craft : Cal P w K mg base (6 + 1) "is_craft" ["thing"] (spD cU (PC RCraft)) := PB.c_is_craft T.T_is_craft T.B (c_is_from.mono (by decide)) (c_is_row.mono (by decide))
  have c_sure_craft : Cal P w K mg base (8 + 1) "sure_craft" ["craft"] (spD cU (PC RSureC)) := PB.c_sure_craft T.T_sure_craft T.B (c_tupledN T.T_tupled T.B _) (c_is_craft.mono (by decide))
  have c_shape_by : Cal P w K mg base (0 + 1) "shape_by" ["craft", "web", "version"] (spD cU (PC RShape)) := PB.c_shape_by T.T_shape_by T.B
  have c_may_come : Cal P w K mg base (3 + 1) "may_come" ["craft", "web", "thing"] (spD cU (PC RMay)) := PB.c_may_come T.T_may_come T.B (c_is_long.mono (by decide)) (c_is_within.mono (by decide)) (c_shape_by.mono (by decide))
  have c_fits : Cal P w K mg base (4 + 1) "fits" ["craft", "thing"] (spD cU (PC RFits)) := PB.c_fits T.T_fits T.B (c_may_come.mono (by decide))
  have c_sure_web : Cal P w K mg base (9 + 1) "sure_web" ["craft", "web"] (spD cU (PC RSureW)) := PB.c_sure_web T.T_sure_web T.B (c_sure_craft.mono (by decide)) (c_tupledN T.T_tupled T.B _) (c_fits.mono (by decide))
  have c_slots_by : Cal P w K mg base (0 + 1) "slots_by" ["craft", "there", "version", "found"] (spD cU (CSlots)) := PB.c_slots_by T.T_slots_by T.B T.T
  have c_held_by : Cal P w K mg base (1 + 1) "held_by" ["craft", "web"] (spD cU (PC RHeld)) := PB.c_held_by T.T_held_by T.B (c_slots_by.mono (by decide))
  have c_paid_at_once : Cal P w K mg base (10 + 1) "paid_at_once" ["craft", "web"] (spD cU (PC RPaid)) := PB.c_paid_at_once T.T_paid_at_once T.B (c_sure_web.mono (by decide))
  have c_cost_at_once : Cal P w K mg base (11 + 1) "cost_at_once" ["craft", "web"] (spD cU (PC RCostO)) := PB.c_cost_at_once T.T_cost_at_once T.B (c_paid_at_once.mono (by decide))
  have c_news_of : Cal P w K mg base (0 + 1) "news_of" ["craft", "web", "holds"] (spD cU (CNews)) := PB.c_news_of T.T_news_of T.B
  have c_do_wait : Cal P w K mg base (0 + 1) "do_wait" ["news", "done", "first", "way"] (spD cU (CWait)) := PB.c_do_wait T.T_do_wait T.B
  have c_set_of : Cal P w K mg base (0 + 1) "set_of" ["row"] (spD cU (CSet)) := PB.c_set_of T.T_set_of T.B
  have c_played : Cal P w K mg base (11 + 1) "played" ["craft", "web"] (spD cU (CPlayed)) := PB.c_played T.T_played T.B (c_held_by.mono (by decide)) (c_news_of.mono (by decide)) (c_do_wait.mono (by decide))
  have c_unforced : Cal P w K mg base (13 + 1) "unforced" ["craft", "web"] (spD cU (CUnf)) := PB.c_unforced T.T_unforced T.B (c_sure_web.mono (by decide)) (c_played.mono (by decide)) (c_set_of.mono (by decide))
  have c__law_take : Cal P w K mg base (0 + 1) "_law_take" ["_law_tin", "_law_below_so"] (spD cU (CTake)) := PB.c__law_take T.T__law_take T.B
  have c__law_box : Cal P w K mg base (0 + 1) "_law_box" ["_law_script", "_law_k"] (spD cU (CBox)) := PB.c__law_box T.T__law_box T.B
  have c__law_of : Cal P w K mg base (1 + 1) "_law_of" ["_law_tin", "_law_goods_so"] (spD cU (COf)) := PB.c__law_of T.T__law_of T.B (c__law_take.mono (by decide))
  have c__law_pick : Cal P w K mg base (1 + 1) "_law_pick" ["_law_tin", "_law_goods_so", "_law_count_so"] (spD cU (CPick)) := PB.c__law_pick T.T__law_pick T.B (c__law_take.mono (by decide))
  have c__law_filling : Cal P w K mg base (3 + 1) "_law_filling" ["_law_tin", "_law_goods_so"] (spD cU (CFill)) := PB.c__law_filling T.T__law_filling T.B (c__law_take.mono (by decide)) (c__law_of.mono (by decide)) (c__law_pick.mono (by decide))
  have c__law_house_two : Cal P w K mg base (4 + 1) "_law_house_two" ["_law_tin"] (spD cU (CHouse)) := PB.c__law_house_two T.T__law_house_two T.B (c__law_take.mono (by decide)) (c__law_filling.mono (by decide)) (c__law_pick.mono (by decide))
  have c__law_house_one : Cal P w K mg base (4 + 1) "_law_house_one" ["_law_tin"] (spD cU (CHouse)) := PB.c__law_house_one T.T__law_house_one T.B (c__law_take.mono (by decide)) (c__law_filling.mono (by decide)) (c__law_pick.mono (by decide))
  have c__law_comes : Cal P w K mg base (0 + 1) "_law_comes" ["_law_house_so", "_law_tale_so"] (spD cU (CComes)) := PB.c__law_comes T.T__law_comes T.B
  have c__law_tale : Cal P w K mg base (2 + 1) "_law_tale" ["_law_tin", "_law_house_so", "_law_count_so"] (spD cU (CTale)) := PB.c__law_tale T.T__law_tale T.B (c__law_take.mono (by decide)) (c__law_of.mono (by decide)) (c__law_comes.mono (by decide))
  have c__law_held : Cal P w K mg base (0 + 1) "_law_held" ["_law_house_so", "_law_tale_so"] (spD cU (CHeldL)) := PB.c__law_held T.T__law_held T.B
  have c__law_play : Cal P w K mg base (11 + 1) "_law_play" ["_law_house_so", "_law_tale_so", "_law_anew_so"] (spD cU (CPlayL)) := PB.c__law_play T.T__law_play T.B (c__law_held.mono (by decide)) (c__law_forceN T.T__law_force T.B _)
  have c__law_paid : Cal P w K mg base (0 + 1) "_law_paid" ["_law_house_so", "_law_tale_so", "_law_ledger_so"] (spD cU (PC RPaidL)) := PB.c__law_paid T.T__law_paid T.B
  have c__law_cost : Cal P w K mg base (12 + 1) "_law_cost" ["_law_house_so", "_law_tale_so"] (spD cU (CCostL)) := PB.c__law_cost T.T__law_cost T.B (c__law_paid.mono (by decide)) (c__law_play.mono (by decide))
  have c__law_at_once_so : Cal P w K mg base (11 + 1) "_law_at_once_so" ["_law_house_so", "_law_tale_so"] (spD cU (PC ROnceL)) := PB.c__law_at_once_so T.T__law_at_once_so T.B (c__law_held.mono (by decide)) (c__law_forceN T.T__law_force T.B _) (c__law_paid.mono (by decide))
  have c_sure_craftX : CalX P w K mg base (8 + 1) "sure_craft" ["craft"] (spD cU (CSureCX)) := PB.c_sure_craftX T.U T.T_sure_craft T.B (c_tupledN T.T_tupled T.B _) (c_is_craft.mono (by decide))
  have c_sure_webX : CalX P w K mg base (9 + 1) "sure_web" ["craft", "web"] (spD cU (CBad)) := PB.c_sure_webX T.U T.T_sure_web T.B (c_sure_craftX.mono (by decide)) (c_tupledN T.T_tupled T.B _) (c_fits.mono (by decide))
  have c_paid_at_onceX : CalX P w K mg base (10 + 1) "paid_at_once" ["craft", "web"] (spD cU (CBad)) := PB.c_paid_at_onceX T.U T.T_paid_at_once T.B (c_sure_webX.mono (by decide))
  have c_cost_at_onceX : CalX P w K mg base (11 + 1) "cost_at_once" ["craft", "web"] (spD cU (CBad)) := PB.c_cost_at_onceX T.U T.T_cost_at_once T.B (c_paid_at_onceX.mono (by decide))
  have c__law_refused : Cal P w K mg base (12 + 1) "_law_refused" ["_law_door", "_law_house_so", "_law_tale_so"] (spD cU (PC RRef)) := PB.c__law_refused T.T__law_refused T.B T.U (c_paid_at_onceX.mono (by decide)) (c_cost_at_onceX.mono (by decide))
  have c__law_chain : Cal P w K mg base (0 + 1) "_law_chain" [] (spD cU (PC (RCon (craftD chainC)))) := PB.c__law_chain T.T__law_chain T.B
  have c__law_twins : Cal P w K mg base (0 + 1) "_law_twins" [] (spD cU (PC (RCon (craftD twinsC)))) := PB.c__law_twins T.T__law_twins T.B
  have c__law_melds : Cal P w K mg base (0 + 1) "_law_melds" [] (spD cU (PC (RCon (craftD meldsC)))) := PB.c__law_melds T.T__law_melds T.B
  have c__law_kept : Cal P w K mg base (0 + 1) "_law_kept" [] (spD cU (PC (RCon (craftD keptC)))) := PB.c__law_kept T.T__law_kept T.B
  have c__law_double : Cal P w K mg base (0 + 1) "_law_double" [] (spD cU (PC (RCon (craftD doubleC)))) := PB.c__law_double T.T__law_double T.B
  have c__law_tower : Cal P w K mg base (0 + 1) "_law_tower" [] (spD cU (PC (RCon (webD towerW)))) := PB.c__law_tower T.T__law_tower T.B
  have c__law_hand_right : Cal P w K mg base (13 + 1) "_law_hand_right" [] (spD cU (PC RHand)) := PB.c__law_hand_right T.T__law_hand_right T.B T.T_cost_at_once T.T_paid_at_once (c_paid_at_once.mono (by decide)) (c_cost_at_once.mono (by decide)) (c__law_listsN T.T__law_lists T.B _) (c__law_sameN T.T__law_same T.B _) (c__law_chain.mono (by decide)) (c__law_twins.mono (by decide)) (c__law_melds.mono (by decide)) (c__law_kept.mono (by decide)) (c__law_double.mono (by decide)) (c__law_tower.mono (by decide)) (c__law_refused.mono (by decide))
  have c__law_right : Cal P w K mg base (14 + 1) "_law_right" ["_law_tin"] (spD cU (CRight)) := PB.c__law_right T.T__law_right T.B (c__law_take.mono (by decide)) (c__law_house_two.mono (by decide)) (c__law_house_one.mono (by decide)) (c__law_tale.mono (by decide)) (c__law_at_once_so.mono (by decide)) (c_paid_at_once.mono (by decide)) (c_cost_at_once.mono (by decide)) (c__law_listsN T.T__law_lists T.B _) (c__law_sameN T.T__law_same T.B _) (c_unforced.mono (by decide)) (c__law_cost.mono (by decide))
  have c__law_cells : Cal P w K mg base (0 + 1) "_law_cells" ["_law_script", "_law_most_so"] (spCells K) := PB.c__law_cells T.T__law_cells T.B
  have c_law : Cal P w K mg base (15 + 1) "law" ["_law_script"] (spLaw K) := PB.c_law T.T_law T.B (c__law_hand_right.mono (by decide)) (c__law_right.mono (by decide)) (c__law_box.mono (by decide)) (c__law_cells.mono (by decide))
  exact c_law.mono (by decide)
end
end PB
namespace PB
open PySem PySem.Spec PyProof.Rows L2 DL
theorem hasFn_mk {K : PySem.W.Frag} {h : Heap} {mg : Str → Option Value} {x : Str} {st : Stmt} {ps : List Str} {f : Addr} {od an : Option Addr} {sl : Array (Option Value)} {oc kV dc pm cd ct : Value} (X : K.In h) (G : h.Ns mainGlobals mg)
    (a : PySem.W.nsIn K mainGlobals x = some (some (.ref f))) (l : K.lookup f = some ⟨oc, od, .func (PySem.W.fnOf x x (defArgs st) (defBody st) (defScope st) .none kV dc pm an cd ct), sl⟩) (c : PySem.W.codeIn K cd x = true) (k : PySem.W.keepIn K (.ref f) = true)
    (b : ∀ (kV doc pm : Value) (an : Option Addr) (cdv ct : Value) (us : List Value), us.length = ps.length → bindArgs (PySem.W.fnOf x x (defArgs st) (defBody st) (defScope st) .none kV doc pm an cdv ct) ⟨us, []⟩ = pure (ps.zip us)) : HasFn K mg x st ps :=
  ⟨f, _, fun_mk l c k, PySem.W.mg_of X G a, (fun_mk l c k).binds b⟩
theorem text_mk {mg : Str → Option Value} {x z : Str} {v : Value} (h : mg x = some v) (e : ∃ t, v = .str z t) : ∃ t, mg x = some (.str z t) := by
  obtain ⟨t, rfl⟩ := e
  exact ⟨t, h⟩
theorem unf_mk {K : PySem.W.Frag} {mg : Str → Option Value} {c : Addr} (g : mg "Unfit" = some (.ref c)) (x : PySem.W.excIn K c [.type "ValueError", .type "Exception", .type "BaseException", .type "object"] "ValueError.__new__" = true) (k : PySem.W.keepIn K (.ref c) = true)
    (b : PySem.W.subIn K (.ref c) (.type "BaseException") = some true) (t : PySem.W.typeIn K (.ref c) = some (.type "type")) (i : PySem.W.isClsIn K c = true) (s : PySem.W.subIn K (.ref c) (.ref c) = some true) : ∃ c, Unf K mg c := ⟨c, g, x, k, b, t, i, s⟩
/-- what the top has left, the letters hidden -/
structure Left (K : PySem.W.Frag) (mg : Str → Option Value) : Prop where
  B : Bt mg
  tN : ∃ t, mg "NEW" = some (.str "new" t)
  tK : ∃ t, mg "KEPT" = some (.str "kept" t)
  U : ∃ c, Unf K mg c
  T_is_number : HasFn K mg "is_number" s_is_number ["thing"]
  T_is_from : HasFn K mg "is_from" s_is_from ["thing", "least"]
  T_is_within : HasFn K mg "is_within" s_is_within ["thing", "least", "most"]
  T_is_long : HasFn K mg "is_long" s_is_long ["thing", "length"]
  T_is_spot : HasFn K mg "is_spot" s_is_spot ["sizes", "elders", "thing"]
  T_are_spots : HasFn K mg "are_spots" s_are_spots ["sizes", "elders", "thing"]
  T_ascends : HasFn K mg "ascends" s_ascends ["row"]
  T_is_filling : HasFn K mg "is_filling" s_is_filling ["sizes", "elders", "thing"]
  T_is_row : HasFn K mg "is_row" s_is_row ["sizes", "thing"]
  T_is_craft : HasFn K mg "is_craft" s_is_craft ["thing"]
  T_tupled : HasFn K mg "tupled" s_tupled ["value"]
  T_sure_craft : HasFn K mg "sure_craft" s_sure_craft ["craft"]
  T_shape_by : HasFn K mg "shape_by" s_shape_by ["craft", "web", "version"]
  T_may_come : HasFn K mg "may_come" s_may_come ["craft", "web", "thing"]
  T_fits : HasFn K mg "fits" s_fits ["craft", "thing"]
  T_sure_web : HasFn K mg "sure_web" s_sure_web ["craft", "web"]
  T_slots_by : HasFn K mg "slots_by" s_slots_by ["craft", "there", "version", "found"]
  T_held_by : HasFn K mg "held_by" s_held_by ["craft", "web"]
  T_paid_at_once : HasFn K mg "paid_at_once" s_paid_at_once ["craft", "web"]
  T_cost_at_once : HasFn K mg "cost_at_once" s_cost_at_once ["craft", "web"]
  T_news_of : HasFn K mg "news_of" s_news_of ["craft", "web", "holds"]
  T_do_wait : HasFn K mg "do_wait" s_do_wait ["news", "done", "first", "way"]
  T_set_of : HasFn K mg "set_of" s_set_of ["row"]
  T_played : HasFn K mg "played" s_played ["craft", "web"]
  T_unforced : HasFn K mg "unforced" s_unforced ["craft", "web"]
  T__law_take : HasFn K mg "_law_take" s__law_take ["_law_tin", "_law_below_so"]
  T__law_box : HasFn K mg "_law_box" s__law_box ["_law_script", "_law_k"]
  T__law_of : HasFn K mg "_law_of" s__law_of ["_law_tin", "_law_goods_so"]
  T__law_pick : HasFn K mg "_law_pick" s__law_pick ["_law_tin", "_law_goods_so", "_law_count_so"]
  T__law_filling : HasFn K mg "_law_filling" s__law_filling ["_law_tin", "_law_goods_so"]
  T__law_house_two : HasFn K mg "_law_house_two" s__law_house_two ["_law_tin"]
  T__law_house_one : HasFn K mg "_law_house_one" s__law_house_one ["_law_tin"]
  T__law_comes : HasFn K mg "_law_comes" s__law_comes ["_law_house_so", "_law_tale_so"]
  T__law_tale : HasFn K mg "_law_tale" s__law_tale ["_law_tin", "_law_house_so", "_law_count_so"]
  T__law_lists : HasFn K mg "_law_lists" s__law_lists ["_law_matter"]
  T__law_same : HasFn K mg "_law_same" s__law_same ["_law_got", "_law_due"]
  T__law_held : HasFn K mg "_law_held" s__law_held ["_law_house_so", "_law_tale_so"]
  T__law_force : HasFn K mg "_law_force" s__law_force ["_law_house_so", "_law_tale_so", "_law_holds_so", "_law_wait_so", "_law_why_so", "_law_anew_so", "_law_done_so", "_law_row_so"]
  T__law_play : HasFn K mg "_law_play" s__law_play ["_law_house_so", "_law_tale_so", "_law_anew_so"]
  T__law_paid : HasFn K mg "_law_paid" s__law_paid ["_law_house_so", "_law_tale_so", "_law_ledger_so"]
  T__law_cost : HasFn K mg "_law_cost" s__law_cost ["_law_house_so", "_law_tale_so"]
  T__law_at_once_so : HasFn K mg "_law_at_once_so" s__law_at_once_so ["_law_house_so", "_law_tale_so"]
  T__law_refused : HasFn K mg "_law_refused" s__law_refused ["_law_door", "_law_house_so", "_law_tale_so"]
  T__law_chain : HasFn K mg "_law_chain" s__law_chain []
  T__law_twins : HasFn K mg "_law_twins" s__law_twins []
  T__law_melds : HasFn K mg "_law_melds" s__law_melds []
  T__law_kept : HasFn K mg "_law_kept" s__law_kept []
  T__law_double : HasFn K mg "_law_double" s__law_double []
  T__law_tower : HasFn K mg "_law_tower" s__law_tower []
  T__law_hand_right : HasFn K mg "_law_hand_right" s__law_hand_right []
  T__law_right : HasFn K mg "_law_right" s__law_right ["_law_tin"]
  T__law_cells : HasFn K mg "_law_cells" s__law_cells ["_law_script", "_law_most_so"]
  T_law : HasFn K mg "law" s_law ["_law_script"]
theorem Left.txt {K : PySem.W.Frag} {mg : Str → Option Value} (L : Left K mg) : ∃ tN tK cU, Txt K mg tN tK cU := by
  obtain ⟨tN, hN⟩ := L.tN
  obtain ⟨tK, hK⟩ := L.tK
  obtain ⟨cU, hU⟩ := L.U
  exact ⟨tN, tK, cU, { B := L.B, T := ⟨hN, hK⟩, U := hU, T_is_number := L.T_is_number, T_is_from := L.T_is_from, T_is_within := L.T_is_within, T_is_long := L.T_is_long, T_is_spot := L.T_is_spot, T_are_spots := L.T_are_spots, T_ascends := L.T_ascends, T_is_filling := L.T_is_filling, T_is_row := L.T_is_row, T_is_craft := L.T_is_craft, T_tupled := L.T_tupled, T_sure_craft := L.T_sure_craft, T_shape_by := L.T_shape_by, T_may_come := L.T_may_come, T_fits := L.T_fits, T_sure_web := L.T_sure_web, T_slots_by := L.T_slots_by, T_held_by := L.T_held_by, T_paid_at_once := L.T_paid_at_once, T_cost_at_once := L.T_cost_at_once, T_news_of := L.T_news_of, T_do_wait := L.T_do_wait, T_set_of := L.T_set_of, T_played := L.T_played, T_unforced := L.T_unforced, T__law_take := L.T__law_take, T__law_box := L.T__law_box, T__law_of := L.T__law_of, T__law_pick := L.T__law_pick, T__law_filling := L.T__law_filling, T__law_house_two := L.T__law_house_two, T__law_house_one := L.T__law_house_one, T__law_comes := L.T__law_comes, T__law_tale := L.T__law_tale, T__law_lists := L.T__law_lists, T__law_same := L.T__law_same, T__law_held := L.T__law_held, T__law_force := L.T__law_force, T__law_play := L.T__law_play, T__law_paid := L.T__law_paid, T__law_cost := L.T__law_cost, T__law_at_once_so := L.T__law_at_once_so, T__law_refused := L.T__law_refused, T__law_chain := L.T__law_chain, T__law_twins := L.T__law_twins, T__law_melds := L.T__law_melds, T__law_kept := L.T__law_kept, T__law_double := L.T__law_double, T__law_tower := L.T__law_tower, T__law_hand_right := L.T__law_hand_right, T__law_right := L.T__law_right, T__law_cells := L.T__law_cells, T_law := L.T_law }⟩
theorem joined {P : Program} {w : World} {K : PySem.W.Frag} {mg : Str → Option Value} {fa : Addr} (L : Left K mg) (hfa : mg "law" = some (.ref fa)) :
    ∃ fd : FuncData, (∀ (s : Shared) (v : Value), BindsTo s fd ⟨[v], []⟩ [("_law_script", v)]) ∧ ∀ base : Heap, K.In base → base.Ns mainGlobals mg → FnOk P w K mg base CX0 16 fa fd ["_law_script"] (spLaw K) := by
  obtain ⟨tN, tK, cU, T⟩ := L.txt
  obtain ⟨f, fd, F, hm, hb⟩ := T.T_law.ex
  rw [hfa] at hm
  cases hm
  obtain ⟨oc, od, kV, doc, pm, an, cdv, ct, osl, rfl, lk, hcd⟩ := F.ex
  refine ⟨PySem.W.fnOf "law" "law" (defArgs s_law) (defBody s_law) (defScope s_law) .none kV doc pm an cdv ct, fun s v => .of_eq rfl, fun base _ _ => ?_⟩
  obtain ⟨f', fd', F', hm', _, _, oc', od', osl', lk'⟩ := (law_keeps (P := P) (w := w) (base := base) T).ex
  rw [hfa] at hm'
  cases hm'
  rw [lk] at lk'
  cases lk'
  exact F'
theorem walk {l : PySem.W.OpenLaw} {q : Program} {loose : List Str} {XP : (Str → Option Value) → Heap → Prop} {YP : World → Heap → Prop} {d : DefRec} {K : Params → PySem.W.Frag} (hn : l.most = some 63) (hdf : d.params.defaults = []) (hdn : d.name = "law")
    (hY : ∀ (w : World) (h : Heap), YP w h → (K w.params).In h)
    (F : ∀ (w : World) (mg : Str → Option Value) (h : Heap), (K w.params).In h → h.Ns mainGlobals mg → Left (K w.params) mg) :
    PySem.W.WalkO q loose XP YP l.row.toRowW d [] (fun f vs => PySem.call f vs) :=
  L2.walk_of (n := 63) (k := 16) (x := "_law_script") (CX := fun _ => CX0) (sp := fun w => spLaw (K w.params)) hn (by decide) hdf ⟨rfl, by decide, by decide⟩ hY (fun w mg fa h KX G hmg => joined (F w mg h KX G) (by rw [hdn] at hmg; exact hmg))
    (fun _ _ a ns hl _ hS => ⟨a, ns, rfl, hS, hl, fun _ => rfl⟩) fun _ _ _ _ _ z => z
end PB
open PySem PySem.W PyProof.Rows
set_option maxHeartbeats 0 in
theorem PySem.Challenge.cw_paidbyheirs_k09_whole_waits_done_at_once_holds : PySem.Challenge.rw_paidbyheirs_k09_whole_waits_done_at_once.Holds := by
  w_on; o_law; k_head; (case hw => w_witness2)
  k_fill
  refine PB.walk (l := PySem.Challenge.rw_paidbyheirs_k09_whole_waits_done_at_once) rfl rfl rfl (fun w h Y => PySem.W.kIn_of Y) ?F
  case F =>
    intro w mg h KX G
    refine' PB.Left.mk ?zB ?zN ?zK ?zU ?z0 ?z1 ?z2 ?z3 ?z4 ?z5 ?z6 ?z7 ?z8 ?z9 ?z10 ?z11 ?z12 ?z13 ?z14 ?z15 ?z16 ?z17 ?z18 ?z19 ?z20 ?z21 ?z22 ?z23 ?z24 ?z25 ?z26 ?z27 ?z28 ?z29 ?z30 ?z31 ?z32 ?z33 ?z34 ?z35 ?z36 ?z37 ?z38 ?z39 ?z40 ?z41 ?z42 ?z43 ?z44 ?z45 ?z46 ?z47 ?z48 ?z49 ?z50 ?z51 ?z52
    case zB =>
      refine' DL.Bt.mk (PySem.W.mg_none_of KX G ?b0) (PySem.W.mg_none_of KX G ?b1) (PySem.W.mg_none_of KX G ?b2) (PySem.W.mg_none_of KX G ?b3) (PySem.W.mg_none_of KX G ?b4) (PySem.W.mg_none_of KX G ?b5) (PySem.W.mg_none_of KX G ?b6) (PySem.W.mg_none_of KX G ?b7) (PySem.W.mg_none_of KX G ?b8) (PySem.W.mg_none_of KX G ?b9) (PySem.W.mg_none_of KX G ?b10) (PySem.W.mg_none_of KX G ?b11) (PySem.W.mg_none_of KX G ?b12) (PySem.W.mg_none_of KX G ?b13) (PySem.W.mg_none_of KX G ?b14) (PySem.W.mg_none_of KX G ?b15)
      (case b0 => k_is)
      (case b1 => k_is)
      (case b2 => k_is)
      (case b3 => k_is)
      (case b4 => k_is)
      (case b5 => k_is)
      (case b6 => k_is)
      (case b7 => k_is)
      (case b8 => k_is)
      (case b9 => k_is)
      (case b10 => k_is)
      (case b11 => k_is)
      (case b12 => k_is)
      (case b13 => k_is)
      (case b14 => k_is)
      (case b15 => k_is)
    case zN =>
      refine' PB.text_mk (PySem.W.mg_of KX G ?nN) ?mN
      (case nN => k_is)
      (case mN => exact ⟨_, rfl⟩)
    case zK =>
      refine' PB.text_mk (PySem.W.mg_of KX G ?nK) ?mK
      (case nK => k_is)
      (case mK => exact ⟨_, rfl⟩)
    case zU =>
      refine' PB.unf_mk (PySem.W.mg_of KX G ?ug) ?ux ?uk ?ub ?ut ?ui ?us
      (case ug => k_is); (case ux => k_exc); (case uk => k_is); (case ub => k_is); (case ut => k_is); (case ui => k_is); (case us => first | rfl | k_is)
    case z0 =>
      refine' PB.hasFn_mk KX G ?fa0 ?fl0 ?fc0 ?fk0 ?fb0
      (case fa0 => k_is); (case fl0 => k_is); (case fc0 => k_is); (case fk0 => k_is)
      case fb0 => exact fun _ _ _ _ _ _ us hl => match us, hl with | [_], _ => rfl
    case z1 =>
      refine' PB.hasFn_mk KX G ?fa1 ?fl1 ?fc1 ?fk1 ?fb1
      (case fa1 => k_is); (case fl1 => k_is); (case fc1 => k_is); (case fk1 => k_is)
      case fb1 => exact fun _ _ _ _ _ _ us hl => match us, hl with | [_, _], _ => rfl
    case z2 =>
      refine' PB.hasFn_mk KX G ?fa2 ?fl2 ?fc2 ?fk2 ?fb2
      (case fa2 => k_is); (case fl2 => k_is); (case fc2 => k_is); (case fk2 => k_is)
      case fb2 => exact fun _ _ _ _ _ _ us hl => match us, hl with | [_, _, _], _ => rfl
    case z3 =>
      refine' PB.hasFn_mk KX G ?fa3 ?fl3 ?fc3 ?fk3 ?fb3
      (case fa3 => k_is); (case fl3 => k_is); (case fc3 => k_is); (case fk3 => k_is)
      case fb3 => exact fun _ _ _ _ _ _ us hl => match us, hl with | [_, _], _ => rfl
    case z4 =>
      refine' PB.hasFn_mk KX G ?fa4 ?fl4 ?fc4 ?fk4 ?fb4
      (case fa4 => k_is); (case fl4 => k_is); (case fc4 => k_is); (case fk4 => k_is)
      case fb4 => exact fun _ _ _ _ _ _ us hl => match us, hl with | [_, _, _], _ => rfl
    case z5 =>
      refine' PB.hasFn_mk KX G ?fa5 ?fl5 ?fc5 ?fk5 ?fb5
      (case fa5 => k_is); (case fl5 => k_is); (case fc5 => k_is); (case fk5 => k_is)
      case fb5 => exact fun _ _ _ _ _ _ us hl => match us, hl with | [_, _, _], _ => rfl
    case z6 =>
      refine' PB.hasFn_mk KX G ?fa6 ?fl6 ?fc6 ?fk6 ?fb6
      (case fa6 => k_is); (case fl6 => k_is); (case fc6 => k_is); (case fk6 => k_is)
      case fb6 => exact fun _ _ _ _ _ _ us hl => match us, hl with | [_], _ => rfl
    case z7 =>
      refine' PB.hasFn_mk KX G ?fa7 ?fl7 ?fc7 ?fk7 ?fb7
      (case fa7 => k_is); (case fl7 => k_is); (case fc7 => k_is); (case fk7 => k_is)
      case fb7 => exact fun _ _ _ _ _ _ us hl => match us, hl with | [_, _, _], _ => rfl
    case z8 =>
      refine' PB.hasFn_mk KX G ?fa8 ?fl8 ?fc8 ?fk8 ?fb8
      (case fa8 => k_is); (case fl8 => k_is); (case fc8 => k_is); (case fk8 => k_is)
      case fb8 => exact fun _ _ _ _ _ _ us hl => match us, hl with | [_, _], _ => rfl
    case z9 =>
      refine' PB.hasFn_mk KX G ?fa9 ?fl9 ?fc9 ?fk9 ?fb9
      (case fa9 => k_is); (case fl9 => k_is); (case fc9 => k_is); (case fk9 => k_is)
      case fb9 => exact fun _ _ _ _ _ _ us hl => match us, hl with | [_], _ => rfl
    case z10 =>
      refine' PB.hasFn_mk KX G ?fa10 ?fl10 ?fc10 ?fk10 ?fb10
      (case fa10 => k_is); (case fl10 => k_is); (case fc10 => k_is); (case fk10 => k_is)
      case fb10 => exact fun _ _ _ _ _ _ us hl => match us, hl with | [_], _ => rfl
    case z11 =>
      refine' PB.hasFn_mk KX G ?fa11 ?fl11 ?fc11 ?fk11 ?fb11
      (case fa11 => k_is); (case fl11 => k_is); (case fc11 => k_is); (case fk11 => k_is)
      case fb11 => exact fun _ _ _ _ _ _ us hl => match us, hl with | [_], _ => rfl
    case z12 =>
      refine' PB.hasFn_mk KX G ?fa12 ?fl12 ?fc12 ?fk12 ?fb12
      (case fa12 => k_is); (case fl12 => k_is); (case fc12 => k_is); (case fk12 => k_is)
      case fb12 => exact fun _ _ _ _ _ _ us hl => match us, hl with | [_, _, _], _ => rfl
    case z13 =>
      refine' PB.hasFn_mk KX G ?fa13 ?fl13 ?fc13 ?fk13 ?fb13
      (case fa13 => k_is); (case fl13 => k_is); (case fc13 => k_is); (case fk13 => k_is)
      case fb13 => exact fun _ _ _ _ _ _ us hl => match us, hl with | [_, _, _], _ => rfl
    case z14 =>
      refine' PB.hasFn_mk KX G ?fa14 ?fl14 ?fc14 ?fk14 ?fb14
      (case fa14 => k_is); (case fl14 => k_is); (case fc14 => k_is); (case fk14 => k_is)
      case fb14 => exact fun _ _ _ _ _ _ us hl => match us, hl with | [_, _], _ => rfl
    case z15 =>
      refine' PB.hasFn_mk KX G ?fa15 ?fl15 ?fc15 ?fk15 ?fb15
      (case fa15 => k_is); (case fl15 => k_is); (case fc15 => k_is); (case fk15 => k_is)
      case fb15 => exact fun _ _ _ _ _ _ us hl => match us, hl with | [_, _], _ => rfl
    case z16 =>
      refine' PB.hasFn_mk KX G ?fa16 ?fl16 ?fc16 ?fk16 ?fb16
      (case fa16 => k_is); (case fl16 => k_is); (case fc16 => k_is); (case fk16 => k_is)
      case fb16 => exact fun _ _ _ _ _ _ us hl => match us, hl with | [_, _, _, _], _ => rfl
    case z17 =>
      refine' PB.hasFn_mk KX G ?fa17 ?fl17 ?fc17 ?fk17 ?fb17
      (case fa17 => k_is); (case fl17 => k_is); (case fc17 => k_is); (case fk17 => k_is)
      case fb17 => exact fun _ _ _ _ _ _ us hl => match us, hl with | [_, _], _ => rfl
    case z18 =>
      refine' PB.hasFn_mk KX G ?fa18 ?fl18 ?fc18 ?fk18 ?fb18
      (case fa18 => k_is); (case fl18 => k_is); (case fc18 => k_is); (case fk18 => k_is)
      case fb18 => exact fun _ _ _ _ _ _ us hl => match us, hl with | [_, _], _ => rfl
    case z19 =>
      refine' PB.hasFn_mk KX G ?fa19 ?fl19 ?fc19 ?fk19 ?fb19
      (case fa19 => k_is); (case fl19 => k_is); (case fc19 => k_is); (case fk19 => k_is)
      case fb19 => exact fun _ _ _ _ _ _ us hl => match us, hl with | [_, _], _ => rfl
    case z20 =>
      refine' PB.hasFn_mk KX G ?fa20 ?fl20 ?fc20 ?fk20 ?fb20
      (case fa20 => k_is); (case fl20 => k_is); (case fc20 => k_is); (case fk20 => k_is)
      case fb20 => exact fun _ _ _ _ _ _ us hl => match us, hl with | [_, _, _], _ => rfl
    case z21 =>
      refine' PB.hasFn_mk KX G ?fa21 ?fl21 ?fc21 ?fk21 ?fb21
      (case fa21 => k_is); (case fl21 => k_is); (case fc21 => k_is); (case fk21 => k_is)
      case fb21 => exact fun _ _ _ _ _ _ us hl => match us, hl with | [_, _, _, _], _ => rfl
    case z22 =>
      refine' PB.hasFn_mk KX G ?fa22 ?fl22 ?fc22 ?fk22 ?fb22
      (case fa22 => k_is); (case fl22 => k_is); (case fc22 => k_is); (case fk22 => k_is)
      case fb22 => exact fun _ _ _ _ _ _ us hl => match us, hl with | [_], _ => rfl
    case z23 =>
      refine' PB.hasFn_mk KX G ?fa23 ?fl23 ?fc23 ?fk23 ?fb23
      (case fa23 => k_is); (case fl23 => k_is); (case fc23 => k_is); (case fk23 => k_is)
      case fb23 => exact fun _ _ _ _ _ _ us hl => match us, hl with | [_, _], _ => rfl
    case z24 =>
      refine' PB.hasFn_mk KX G ?fa24 ?fl24 ?fc24 ?fk24 ?fb24
      (case fa24 => k_is); (case fl24 => k_is); (case fc24 => k_is); (case fk24 => k_is)
      case fb24 => exact fun _ _ _ _ _ _ us hl => match us, hl with | [_, _], _ => rfl
    case z25 =>
      refine' PB.hasFn_mk KX G ?fa25 ?fl25 ?fc25 ?fk25 ?fb25
      (case fa25 => k_is); (case fl25 => k_is); (case fc25 => k_is); (case fk25 => k_is)
      case fb25 => exact fun _ _ _ _ _ _ us hl => match us, hl with | [_, _], _ => rfl
    case z26 =>
      refine' PB.hasFn_mk KX G ?fa26 ?fl26 ?fc26 ?fk26 ?fb26
      (case fa26 => k_is); (case fl26 => k_is); (case fc26 => k_is); (case fk26 => k_is)
      case fb26 => exact fun _ _ _ _ _ _ us hl => match us, hl with | [_, _], _ => rfl
    case z27 =>
      refine' PB.hasFn_mk KX G ?fa27 ?fl27 ?fc27 ?fk27 ?fb27
      (case fa27 => k_is); (case fl27 => k_is); (case fc27 => k_is); (case fk27 => k_is)
      case fb27 => exact fun _ _ _ _ _ _ us hl => match us, hl with | [_, _], _ => rfl
    case z28 =>
      refine' PB.hasFn_mk KX G ?fa28 ?fl28 ?fc28 ?fk28 ?fb28
      (case fa28 => k_is); (case fl28 => k_is); (case fc28 => k_is); (case fk28 => k_is)
      case fb28 => exact fun _ _ _ _ _ _ us hl => match us, hl with | [_, _, _], _ => rfl
    case z29 =>
      refine' PB.hasFn_mk KX G ?fa29 ?fl29 ?fc29 ?fk29 ?fb29
      (case fa29 => k_is); (case fl29 => k_is); (case fc29 => k_is); (case fk29 => k_is)
      case fb29 => exact fun _ _ _ _ _ _ us hl => match us, hl with | [_, _], _ => rfl
    case z30 =>
      refine' PB.hasFn_mk KX G ?fa30 ?fl30 ?fc30 ?fk30 ?fb30
      (case fa30 => k_is); (case fl30 => k_is); (case fc30 => k_is); (case fk30 => k_is)
      case fb30 => exact fun _ _ _ _ _ _ us hl => match us, hl with | [_], _ => rfl
    case z31 =>
      refine' PB.hasFn_mk KX G ?fa31 ?fl31 ?fc31 ?fk31 ?fb31
      (case fa31 => k_is); (case fl31 => k_is); (case fc31 => k_is); (case fk31 => k_is)
      case fb31 => exact fun _ _ _ _ _ _ us hl => match us, hl with | [_], _ => rfl
    case z32 =>
      refine' PB.hasFn_mk KX G ?fa32 ?fl32 ?fc32 ?fk32 ?fb32
      (case fa32 => k_is); (case fl32 => k_is); (case fc32 => k_is); (case fk32 => k_is)
      case fb32 => exact fun _ _ _ _ _ _ us hl => match us, hl with | [_, _], _ => rfl
    case z33 =>
      refine' PB.hasFn_mk KX G ?fa33 ?fl33 ?fc33 ?fk33 ?fb33
      (case fa33 => k_is); (case fl33 => k_is); (case fc33 => k_is); (case fk33 => k_is)
      case fb33 => exact fun _ _ _ _ _ _ us hl => match us, hl with | [_, _, _], _ => rfl
    case z34 =>
      refine' PB.hasFn_mk KX G ?fa34 ?fl34 ?fc34 ?fk34 ?fb34
      (case fa34 => k_is); (case fl34 => k_is); (case fc34 => k_is); (case fk34 => k_is)
      case fb34 => exact fun _ _ _ _ _ _ us hl => match us, hl with | [_], _ => rfl
    case z35 =>
      refine' PB.hasFn_mk KX G ?fa35 ?fl35 ?fc35 ?fk35 ?fb35
      (case fa35 => k_is); (case fl35 => k_is); (case fc35 => k_is); (case fk35 => k_is)
      case fb35 => exact fun _ _ _ _ _ _ us hl => match us, hl with | [_, _], _ => rfl
    case z36 =>
      refine' PB.hasFn_mk KX G ?fa36 ?fl36 ?fc36 ?fk36 ?fb36
      (case fa36 => k_is); (case fl36 => k_is); (case fc36 => k_is); (case fk36 => k_is)
      case fb36 => exact fun _ _ _ _ _ _ us hl => match us, hl with | [_, _], _ => rfl
    case z37 =>
      refine' PB.hasFn_mk KX G ?fa37 ?fl37 ?fc37 ?fk37 ?fb37
      (case fa37 => k_is); (case fl37 => k_is); (case fc37 => k_is); (case fk37 => k_is)
      case fb37 => exact fun _ _ _ _ _ _ us hl => match us, hl with | [_, _, _, _, _, _, _, _], _ => rfl
    case z38 =>
      refine' PB.hasFn_mk KX G ?fa38 ?fl38 ?fc38 ?fk38 ?fb38
      (case fa38 => k_is); (case fl38 => k_is); (case fc38 => k_is); (case fk38 => k_is)
      case fb38 => exact fun _ _ _ _ _ _ us hl => match us, hl with | [_, _, _], _ => rfl
    case z39 =>
      refine' PB.hasFn_mk KX G ?fa39 ?fl39 ?fc39 ?fk39 ?fb39
      (case fa39 => k_is); (case fl39 => k_is); (case fc39 => k_is); (case fk39 => k_is)
      case fb39 => exact fun _ _ _ _ _ _ us hl => match us, hl with | [_, _, _], _ => rfl
    case z40 =>
      refine' PB.hasFn_mk KX G ?fa40 ?fl40 ?fc40 ?fk40 ?fb40
      (case fa40 => k_is); (case fl40 => k_is); (case fc40 => k_is); (case fk40 => k_is)
      case fb40 => exact fun _ _ _ _ _ _ us hl => match us, hl with | [_, _], _ => rfl
    case z41 =>
      refine' PB.hasFn_mk KX G ?fa41 ?fl41 ?fc41 ?fk41 ?fb41
      (case fa41 => k_is); (case fl41 => k_is); (case fc41 => k_is); (case fk41 => k_is)
      case fb41 => exact fun _ _ _ _ _ _ us hl => match us, hl with | [_, _], _ => rfl
    case z42 =>
      refine' PB.hasFn_mk KX G ?fa42 ?fl42 ?fc42 ?fk42 ?fb42
      (case fa42 => k_is); (case fl42 => k_is); (case fc42 => k_is); (case fk42 => k_is)
      case fb42 => exact fun _ _ _ _ _ _ us hl => match us, hl with | [_, _, _], _ => rfl
    case z43 =>
      refine' PB.hasFn_mk KX G ?fa43 ?fl43 ?fc43 ?fk43 ?fb43
      (case fa43 => k_is); (case fl43 => k_is); (case fc43 => k_is); (case fk43 => k_is)
      case fb43 => exact fun _ _ _ _ _ _ us hl => match us, hl with | [], _ => rfl
    case z44 =>
      refine' PB.hasFn_mk KX G ?fa44 ?fl44 ?fc44 ?fk44 ?fb44
      (case fa44 => k_is); (case fl44 => k_is); (case fc44 => k_is); (case fk44 => k_is)
      case fb44 => exact fun _ _ _ _ _ _ us hl => match us, hl with | [], _ => rfl
    case z45 =>
      refine' PB.hasFn_mk KX G ?fa45 ?fl45 ?fc45 ?fk45 ?fb45
      (case fa45 => k_is); (case fl45 => k_is); (case fc45 => k_is); (case fk45 => k_is)
      case fb45 => exact fun _ _ _ _ _ _ us hl => match us, hl with | [], _ => rfl
    case z46 =>
      refine' PB.hasFn_mk KX G ?fa46 ?fl46 ?fc46 ?fk46 ?fb46
      (case fa46 => k_is); (case fl46 => k_is); (case fc46 => k_is); (case fk46 => k_is)
      case fb46 => exact fun _ _ _ _ _ _ us hl => match us, hl with | [], _ => rfl
    case z47 =>
      refine' PB.hasFn_mk KX G ?fa47 ?fl47 ?fc47 ?fk47 ?fb47
      (case fa47 => k_is); (case fl47 => k_is); (case fc47 => k_is); (case fk47 => k_is)
      case fb47 => exact fun _ _ _ _ _ _ us hl => match us, hl with | [], _ => rfl
    case z48 =>
      refine' PB.hasFn_mk KX G ?fa48 ?fl48 ?fc48 ?fk48 ?fb48
      (case fa48 => k_is); (case fl48 => k_is); (case fc48 => k_is); (case fk48 => k_is)
      case fb48 => exact fun _ _ _ _ _ _ us hl => match us, hl with | [], _ => rfl
    case z49 =>
      refine' PB.hasFn_mk KX G ?fa49 ?fl49 ?fc49 ?fk49 ?fb49
      (case fa49 => k_is); (case fl49 => k_is); (case fc49 => k_is); (case fk49 => k_is)
      case fb49 => exact fun _ _ _ _ _ _ us hl => match us, hl with | [], _ => rfl
    case z50 =>
      refine' PB.hasFn_mk KX G ?fa50 ?fl50 ?fc50 ?fk50 ?fb50
      (case fa50 => k_is); (case fl50 => k_is); (case fc50 => k_is); (case fk50 => k_is)
      case fb50 => exact fun _ _ _ _ _ _ us hl => match us, hl with | [_], _ => rfl
    case z51 =>
      refine' PB.hasFn_mk KX G ?fa51 ?fl51 ?fc51 ?fk51 ?fb51
      (case fa51 => k_is); (case fl51 => k_is); (case fc51 => k_is); (case fk51 => k_is)
      case fb51 => exact fun _ _ _ _ _ _ us hl => match us, hl with | [_, _], _ => rfl
    case z52 =>
      refine' PB.hasFn_mk KX G ?fa52 ?fl52 ?fc52 ?fk52 ?fb52
      (case fa52 => k_is); (case fl52 => k_is); (case fc52 => k_is); (case fk52 => k_is)
      case fb52 => exact fun _ _ _ _ _ _ us hl => match us, hl with | [_], _ => rfl
