import PyProof.Rows.All
import Wide.All
import OpenK.AllK
import Wide.FinOn
import HandS.ForMost
import HandS.ForExc
import HandS.TupAny
import HandS.Conv
import HandS.IsInst
import HandS.Deep
import HandS.Wide
import HandS.CallLocal
import HandS.CallSlots
import HandS.ExcInit
import HandS.ExcField
import HandS.ExcIs
import HandS.FStr
import HandS.TryMany
import KE.KExcIs
import HandS.Head0
import HandS.Head1
import HandS.Head2
import HandS.HeadEnd
import HandS.HeadHook1
import HandS.HeadHook2
import PySem.Challenge.RW_stillwritten_k16_arrays_of_twos
set_option Elab.async false
set_option linter.all false
set_option maxRecDepth 100000
set_option maxHeartbeats 2000000
/-! ES: an abstract big-step layer over HandS: values are trees, owned lists and instances stand in a memory of cells. -/
namespace ES
open PySem PySem.Spec PyProof.Rows L2

/-- a value as a tree; ref: an owned cell, a def, a class -/
inductive D where
  | non | bl (b : Bool) | int (i : Int) | str (x : Str) | ref (a : Addr) | ty (n : String)
  | lst (ds : List D) | tup (ds : List D) | ins (C : Addr) (fs : List (Str × D)) | scr (ns : List Int) | exc (a dd : Addr) (fs : List (Str × D))

mutual
inductive Rep (K : PySem.W.Frag) (Z : Hp) : V → D → Prop
  | non : Rep K Z .non .non
  | bl (b : Bool) : Rep K Z (.bl b) (.bl b)
  | int (i : Int) : Rep K Z (.int i) (.int i)
  | str (x : Str) : Rep K Z (.str x) (.str x)
  | ref (a : Addr) : Rep K Z (.ref a) (.ref a)
  | ty (n : String) : Rep K Z (.ty n) (.ty n)
  | lst {a : Addr} {vs : List V} {ds : List D} : Z a = some (.lst vs) → Reps K Z vs ds → Rep K Z (.ref a) (.lst ds)
  | scr {a : Addr} {ns : List Int} : SqL K Z a (ns.map V.int) → Rep K Z (.ref a) (.scr ns)
  | tup {a : Addr} {vs : List V} {ds : List D} : SqT K Z a vs → Reps K Z vs ds → Rep K Z (.ref a) (.tup ds)
  | ins {a C dx : Addr} {vs : List (Str × V)} {ds : List (Str × D)} : Z a = some (.ins C dx vs) → RepF K Z vs ds → Rep K Z (.ref a) (.ins C ds)
  | exc {a dd : Addr} {vs : List (Str × V)} {ds : List (Str × D)} : Z dd = some (.xd vs) → RepF K Z vs ds → Rep K Z (.ref a) (.exc a dd ds)
inductive Reps (K : PySem.W.Frag) (Z : Hp) : List V → List D → Prop
  | nil : Reps K Z [] []
  | cons {v : V} {vs : List V} {d : D} {ds : List D} : Rep K Z v d → Reps K Z vs ds → Reps K Z (v :: vs) (d :: ds)
inductive RepF (K : PySem.W.Frag) (Z : Hp) : List (Str × V) → List (Str × D) → Prop
  | nil : RepF K Z [] []
  | cons {f : Str} {v : V} {vs : List (Str × V)} {d : D} {ds : List (Str × D)} : Rep K Z v d → RepF K Z vs ds → RepF K Z ((f, v) :: vs) ((f, d) :: ds)
end

def Ex (H H' : Hp) : Prop := ∀ a o, H a = some o → H' a = some o
theorem Ex.refl (H : Hp) : Ex H H := fun _ _ h => h
theorem Ex.trans {H H1 H2 : Hp} (a : Ex H H1) (b : Ex H1 H2) : Ex H H2 := fun x o h => b x o (a x o h)
theorem Ex.new {H : Hp} {p : Addr} {o : HO} (h : H p = none) : Ex H (upd H p o) := fun a u e => by
  rw [upd_ne (ne_of_none e h)]; exact e
theorem ex_rd {H H' : Hp} {a : Addr} {u : HO} (e : Ex H H') (h : Rd H a u) : Rd H' a u := by
  rcases h with h | ⟨o, h⟩
  · exact .inl (e a _ h)
  · exact .inr ⟨o, e a _ h⟩
theorem ex_l {K : PySem.W.Frag} {H H' : Hp} {a : Addr} {xs : List V} (e : Ex H H') (h : SqL K H a xs) : SqL K H' a xs := by
  rcases h with h | h
  · exact .inl (ex_rd e h)
  · exact .inr h
theorem ex_t {K : PySem.W.Frag} {H H' : Hp} {a : Addr} {xs : List V} (e : Ex H H') (h : SqT K H a xs) : SqT K H' a xs := by
  rcases h with h | h
  · exact .inl (ex_rd e h)
  · exact .inr h
theorem back_none {H H' : Hp} {p : Addr} (e : Ex H H') (h : H' p = none) : H p = none := by
  cases h1 : H p with
  | none => rfl
  | some o => rw [e p o h1] at h; cases h

section
variable {K : PySem.W.Frag} {Z Z' : Hp}
mutual
theorem Rep.mono (e : Ex Z Z') : ∀ {d : D} {v : V}, Rep K Z v d → Rep K Z' v d
  | _, _, .non => .non
  | _, _, .bl b => .bl b
  | _, _, .int i => .int i
  | _, _, .str x => .str x
  | _, _, .ref a => .ref a
  | _, _, .ty n => .ty n
  | _, _, .lst h r => .lst (e _ _ h) (Reps.mono e r)
  | _, _, .scr h => .scr (ex_l e h)
  | _, _, .tup h r => .tup (ex_t e h) (Reps.mono e r)
  | _, _, .ins h r => .ins (e _ _ h) (RepF.mono e r)
  | _, _, .exc h r => .exc (e _ _ h) (RepF.mono e r)
theorem Reps.mono (e : Ex Z Z') : ∀ {ds : List D} {vs : List V}, Reps K Z vs ds → Reps K Z' vs ds
  | _, _, .nil => .nil
  | _, _, .cons h r => .cons (Rep.mono e h) (Reps.mono e r)
theorem RepF.mono (e : Ex Z Z') : ∀ {ds : List (Str × D)} {vs : List (Str × V)}, RepF K Z vs ds → RepF K Z' vs ds
  | _, _, .nil => .nil
  | _, _, .cons h r => .cons (Rep.mono e h) (RepF.mono e r)
end
theorem Reps.length : ∀ {vs : List V} {ds : List D}, Reps K Z vs ds → vs.length = ds.length
  | _, _, .nil => rfl
  | _, _, .cons _ r => congrArg (· + 1) (Reps.length r)
theorem Reps.get : ∀ {vs : List V} {ds : List D} {i : Nat} {d : D}, Reps K Z vs ds → ds[i]? = some d → ∃ v, vs[i]? = some v ∧ Rep K Z v d
  | _, _, _, _, .nil, e => by simp at e
  | _, _, 0, _, .cons h _, e => by simp at e; subst e; exact ⟨_, rfl, h⟩
  | _, _, i + 1, _, .cons _ r, e => by
    obtain ⟨v, h1, h2⟩ := Reps.get (i := i) r (by simpa using e)
    exact ⟨v, by simpa using h1, h2⟩
theorem Reps.get' : ∀ {vs : List V} {ds : List D} {i : Nat} {v : V}, Reps K Z vs ds → vs[i]? = some v → ∃ d, ds[i]? = some d ∧ Rep K Z v d
  | _, _, _, _, .nil, e => by simp at e
  | _, _, 0, _, .cons h _, e => by simp at e; subst e; exact ⟨_, rfl, h⟩
  | _, _, i + 1, _, .cons _ r, e => by
    obtain ⟨v, h1, h2⟩ := Reps.get' (i := i) r (by simpa using e)
    exact ⟨v, by simpa using h1, h2⟩
theorem Reps.append : ∀ {vs ws : List V} {ds es : List D}, Reps K Z vs ds → Reps K Z ws es → Reps K Z (vs ++ ws) (ds ++ es)
  | _, _, _, _, .nil, s => s
  | _, _, _, _, .cons h r, s => .cons h (Reps.append r s)
theorem Reps.set : ∀ {vs : List V} {ds : List D} (i : Nat) {v : V} {d : D}, Reps K Z vs ds → Rep K Z v d → Reps K Z (vs.set i v) (ds.set i d)
  | _, _, _, _, _, .nil, _ => .nil
  | _, _, 0, _, _, .cons _ r, h => .cons h r
  | _, _, i + 1, _, _, .cons h' r, h => .cons h' (Reps.set i r h)
theorem Reps.take : ∀ {vs : List V} {ds : List D} (n : Nat), Reps K Z vs ds → Reps K Z (vs.take n) (ds.take n)
  | _, _, 0, _ => .nil
  | _, _, _ + 1, .nil => .nil
  | _, _, n + 1, .cons h r => .cons h (Reps.take n r)
theorem Reps.drop : ∀ {vs : List V} {ds : List D} (n : Nat), Reps K Z vs ds → Reps K Z (vs.drop n) (ds.drop n)
  | _, _, 0, r => r
  | _, _, _ + 1, .nil => .nil
  | _, _, n + 1, .cons _ r => Reps.drop n r
theorem Reps.eraseIdx : ∀ {vs : List V} {ds : List D} (i : Nat), Reps K Z vs ds → Reps K Z (vs.eraseIdx i) (ds.eraseIdx i)
  | _, _, _, .nil => .nil
  | _, _, 0, .cons _ r => r
  | _, _, i + 1, .cons h r => .cons h (Reps.eraseIdx i r)
theorem Reps.ints : ∀ {ns : List Int} {vs : List V}, Reps K Z vs (ns.map D.int) → vs = ns.map V.int
  | [], _, .nil => rfl
  | n :: ns, _, .cons h r => by cases h; rw [Reps.ints r]; rfl
theorem reps_ints : ∀ (ns : List Int), Reps K Z (ns.map V.int) (ns.map D.int)
  | [] => .nil
  | n :: ns => .cons (.int n) (reps_ints ns)
end

/-- a cell of the memory -/
inductive Cell where
  | lst (ds : List D) | ins (C : Addr) (fs : List (Str × D))
abbrev Mem := List (Addr × Cell)
def CellOk (K : PySem.W.Frag) (Z H : Hp) (a : Addr) : Cell → Prop
  | .lst ds => ∃ vs, H a = some (.lst vs) ∧ Reps K Z vs ds
  | .ins C fs => ∃ dx vs, H a = some (.ins C dx vs) ∧ RepF K Z vs fs
theorem CellOk.some {K : PySem.W.Frag} {Z H : Hp} {a : Addr} {c : Cell} (h : CellOk K Z H a c) : ∃ o, H a = some o := by
  cases c with
  | lst ds => obtain ⟨vs, h, _⟩ := h; exact ⟨_, h⟩
  | ins C fs => obtain ⟨dx, vs, h, _⟩ := h; exact ⟨_, h⟩
theorem CellOk.mono {K : PySem.W.Frag} {Z Z' H H' : Hp} {a : Addr} {c : Cell} (h : CellOk K Z H a c) (e : Ex Z Z') (k : H' a = H a) : CellOk K Z' H' a c := by
  cases c with
  | lst ds => obtain ⟨vs, h, r⟩ := h; exact ⟨vs, k.trans h, r.mono e⟩
  | ins C fs => obtain ⟨dx, vs, h, r⟩ := h; exact ⟨dx, vs, k.trans h, r.mono e⟩
abbrev dom (M : Mem) : List Addr := M.map (·.1)
/-- the memory is held: Z, what is frozen, lies in H; the cells stand apart -/
structure MOk (K : PySem.W.Frag) (Z H : Hp) (M : Mem) : Prop where
  ex : Ex Z H
  nd : (dom M).Nodup
  cell : ∀ p ∈ M, Z p.1 = none ∧ CellOk K Z H p.1 p.2
/-- the slots -/
abbrev Sl := List (Option D)
structure SOk (K : PySem.W.Frag) (Z : Hp) (σ : L2.St) (G : Sl) : Prop where
  len : σ.length = G.length
  at_ : ∀ (i : Nat) (d : D), G[i]? = some (some d) → ∃ v, σ[i]? = some (some v) ∧ Rep K Z v d
/-- a step: what is frozen stays and grows, what is not in the memory stays -/
structure Nx (K : PySem.W.Frag) (Z H : Hp) (M : Mem) (Z' H' : Hp) (M' : Mem) : Prop where
  ok : MOk K Z' H' M'
  ez : Ex Z Z'
  keep : ∀ a o, H a = some o → a ∉ dom M → H' a = some o
  new : ∀ a o, Z' a = some o → Z a = some o ∨ H a = none ∨ a ∈ dom M
  dm : ∀ a, a ∈ dom M' → a ∈ dom M ∨ H a = none
section
variable {K : PySem.W.Frag} {Z Z' Z1 Z2 H H' H1 H2 : Hp} {M M' M1 M2 : Mem} {σ : L2.St} {G : Sl}
theorem SOk.mono (s : SOk K Z σ G) (e : Ex Z Z') : SOk K Z' σ G := ⟨s.len, fun i d h => let ⟨v, a, b⟩ := s.at_ i d h; ⟨v, a, b.mono e⟩⟩
theorem SOk.set (s : SOk K Z σ G) (i : Nat) {v : V} {d : D} (r : Rep K Z v d) : SOk K Z (σ.set i (some v)) (G.set i (some d)) := by
  refine ⟨by simp [s.len], fun j e h => ?_⟩
  by_cases hj : i = j
  · subst hj
    have hl : i < G.length := by
      rcases Nat.lt_or_ge i G.length with h1 | h1
      · exact h1
      · rw [List.getElem?_eq_none (by simpa using h1)] at h; cases h
    rw [List.getElem?_set_self hl] at h
    cases h
    exact ⟨v, by rw [List.getElem?_set_self (by rw [s.len]; exact hl)], r⟩
  · rw [List.getElem?_set_ne hj] at h
    obtain ⟨w, a, b⟩ := s.at_ j e h
    exact ⟨w, by rw [List.getElem?_set_ne hj]; exact a, b⟩
theorem SOk.drop (s : SOk K Z σ G) (i : Nat) : SOk K Z (σ.set i none) (G.set i none) := by
  refine ⟨by simp [s.len], fun j e h => ?_⟩
  by_cases hj : i = j
  · subst hj
    by_cases hl : i < G.length
    · rw [List.getElem?_set_self hl] at h; cases h
    · rw [List.getElem?_eq_none (by simpa using hl)] at h; cases h
  · rw [List.getElem?_set_ne hj] at h
    obtain ⟨w, a, b⟩ := s.at_ j e h
    exact ⟨w, by rw [List.getElem?_set_ne hj]; exact a, b⟩
/-- fewer slots known -/
def Le (G G' : Sl) : Prop := G.length = G'.length ∧ ∀ (i : Nat) (d : D), G[i]? = some (some d) → G'[i]? = some (some d)
theorem Le.refl (G : Sl) : Le G G := ⟨rfl, fun _ _ h => h⟩
theorem Le.trans {G G1 G2 : Sl} (a : Le G G1) (b : Le G1 G2) : Le G G2 := ⟨a.1.trans b.1, fun i d h => b.2 i d (a.2 i d h)⟩
theorem SOk.le {G' : Sl} (s : SOk K Z σ G) (h : Le G' G) : SOk K Z σ G' := ⟨s.len.trans h.1.symm, fun i d e => s.at_ i d (h.2 i d e)⟩
/-- a decidable form for written lists -/
theorem Le.cons {a b : Option D} {G G' : Sl} (h : a = none ∨ a = b) (t : Le G G') : Le (a :: G) (b :: G') := by
  refine ⟨by simp [t.1], fun i d e => ?_⟩
  cases i with
  | zero =>
    simp at e
    rcases h with h | h
    · rw [h] at e; cases e
    · simp [← h, e]
  | succ i => simpa using t.2 i d (by simpa using e)
theorem Le.nil : Le [] [] := Le.refl []

theorem Nx.refl (m : MOk K Z H M) : Nx K Z H M Z H M := ⟨m, Ex.refl Z, fun _ _ h _ => h, fun _ _ h => .inl h, fun _ h => .inl h⟩
theorem MOk.has (m : MOk K Z H M) {a : Addr} (h : a ∈ dom M) : ∃ o, H a = some o := by
  obtain ⟨p, hp, e⟩ := List.mem_map.mp h
  obtain ⟨o, q⟩ := (m.cell p hp).2.some
  exact ⟨o, by rw [← e]; exact q⟩
theorem MOk.notz (m : MOk K Z H M) {a : Addr} (h : a ∈ dom M) : Z a = none := by
  obtain ⟨p, hp, e⟩ := List.mem_map.mp h
  rw [← e]
  exact (m.cell p hp).1
theorem Nx.trans (a : Nx K Z H M Z1 H1 M1) (b : Nx K Z1 H1 M1 Z2 H2 M2) : Nx K Z H M Z2 H2 M2 := by
  have k : ∀ x o, H x = some o → x ∉ dom M → x ∉ dom M1 := fun x o h n hm => by
    rcases a.dm x hm with z | z
    · exact n z
    · rw [h] at z; cases z
  refine ⟨b.ok, a.ez.trans b.ez, fun x o h n => b.keep x o (a.keep x o h n) (k x o h n), fun x o h => ?_, fun x h => ?_⟩
  · rcases b.new x o h with z | z | z
    · exact a.new x o z
    · cases e : H x with
      | none => exact .inr (.inl rfl)
      | some u =>
        by_cases hm : x ∈ dom M
        · exact .inr (.inr hm)
        · rw [a.keep x u e hm] at z; cases z
    · rcases a.dm x z with y | y
      · exact .inr (.inr y)
      · exact .inr (.inl y)
  · rcases b.dm x h with z | z
    · exact a.dm x z
    · cases e : H x with
      | none => exact .inr rfl
      | some u =>
        by_cases hm : x ∈ dom M
        · exact .inl hm
        · rw [a.keep x u e hm] at z; cases z
/-- a new frozen object -/
theorem Nx.froze {p : Addr} {o : HO} (m : MOk K Z H M) (hp : H p = none) : Nx K Z H M (upd Z p o) (upd H p o) M := by
  have zp : Z p = none := back_none m.ex hp
  have ez : Ex Z (upd Z p o) := Ex.new zp
  refine ⟨⟨fun a u h => ?_, m.nd, fun q hq => ?_⟩, ez, fun a u h _ => Ex.new hp a u h, fun a u h => ?_, fun a h => .inl h⟩
  · by_cases ha : a = p
    · subst ha; rw [upd_same] at h ⊢; exact h
    · rw [upd_ne ha] at h ⊢; exact m.ex a u h
  · obtain ⟨h1, h2⟩ := m.cell q hq
    obtain ⟨u, hu⟩ := h2.some
    have hne : q.1 ≠ p := ne_of_none hu hp
    exact ⟨by rw [upd_ne hne]; exact h1, h2.mono ez (upd_ne hne)⟩
  · by_cases ha : a = p
    · subst ha; exact .inr (.inl hp)
    · rw [upd_ne ha] at h; exact .inl h
/-- a new cell -/
theorem Nx.cell {p : Addr} {o : HO} {c : Cell} (m : MOk K Z H M) (hp : H p = none) (hc : CellOk K Z (upd H p o) p c) : Nx K Z H M Z (upd H p o) (M ++ [(p, c)]) := by
  have zp : Z p = none := back_none m.ex hp
  have pm : p ∉ dom M := fun h => by obtain ⟨u, q⟩ := m.has h; rw [hp] at q; cases q
  refine ⟨⟨m.ex.trans (Ex.new hp), ?_, fun q hq => ?_⟩, Ex.refl Z, fun a u h _ => Ex.new hp a u h, fun a u h => .inl h, fun a h => ?_⟩
  · show (dom (M ++ [(p, c)])).Nodup
    unfold dom
    rw [List.map_append, List.nodup_append]
    refine ⟨m.nd, by simp, fun a ha b hb => ?_⟩
    simp at hb
    subst hb
    intro e
    subst e
    exact pm ha
  · rcases List.mem_append.mp hq with hq | hq
    · obtain ⟨h1, h2⟩ := m.cell q hq
      obtain ⟨u, hu⟩ := h2.some
      exact ⟨h1, h2.mono (Ex.refl Z) (upd_ne (ne_of_none hu hp))⟩
    · simp at hq
      subst hq
      exact ⟨zp, hc⟩
  · unfold dom at h
    rw [List.map_append] at h
    rcases List.mem_append.mp h with h | h
    · exact .inl h
    · simp at h; subst h; exact .inr hp
theorem dom_set {k : Nat} {p : Addr} {c c' : Cell} (h : M[k]? = some (p, c)) : dom (M.set k (p, c')) = dom M := by
  unfold dom
  rw [List.map_set]
  apply List.ext_getElem?
  intro i
  by_cases hi : k = i
  · subst hi
    obtain ⟨hl, e⟩ := List.getElem?_eq_some_iff.mp h
    rw [List.getElem?_set_self (by simpa using hl), List.getElem?_map, h]; rfl
  · rw [List.getElem?_set_ne hi]
/-- a cell changed -/
theorem Nx.write {k : Nat} {p : Addr} {c c' : Cell} {o : HO} (m : MOk K Z H M) (h : M[k]? = some (p, c)) (hc : CellOk K Z (upd H p o) p c') : Nx K Z H M Z (upd H p o) (M.set k (p, c')) := by
  have hm : (p, c) ∈ M := List.mem_of_getElem? h
  have pd : p ∈ dom M := List.mem_map.mpr ⟨_, hm, rfl⟩
  have zp : Z p = none := m.notz pd
  refine ⟨⟨fun a u e => ?_, by rw [dom_set h]; exact m.nd, fun q hq => ?_⟩, Ex.refl Z, fun a u e hn => ?_, fun a u e => .inl e, fun a e => .inl (by rw [dom_set h] at e; exact e)⟩
  · rw [upd_ne (ne_of_none e zp)]; exact m.ex a u e
  · rcases List.mem_or_eq_of_mem_set hq with hq' | hq'
    · by_cases e : q.1 = p
      · -- same address: then it is the k-th one, unless it was replaced
        obtain ⟨i, hi⟩ := List.mem_iff_getElem?.mp hq
        by_cases hk : k = i
        · subst hk
          obtain ⟨hl, _⟩ := List.getElem?_eq_some_iff.mp h
          rw [List.getElem?_set_self hl] at hi
          cases hi
          exact ⟨zp, hc⟩
        · rw [List.getElem?_set_ne hk] at hi
          exfalso
          have a1 : (dom M)[k]? = some p := by unfold dom; rw [List.getElem?_map, h]; rfl
          have a2 : (dom M)[i]? = some p := by unfold dom; rw [List.getElem?_map, hi, ← e]; rfl
          obtain ⟨h1, e1⟩ := List.getElem?_eq_some_iff.mp a1
          obtain ⟨h2, e2⟩ := List.getElem?_eq_some_iff.mp a2
          exact hk ((List.getElem_inj m.nd).mp (e1.trans e2.symm))
      · obtain ⟨h1, h2⟩ := m.cell q hq'
        exact ⟨h1, h2.mono (Ex.refl Z) (upd_ne e)⟩
    · subst hq'
      exact ⟨zp, hc⟩
  · have hne : a ≠ p := fun z => by subst z; exact hn pd
    rw [upd_ne hne]; exact e
/-- part of the memory: the rest stands as it is -/
theorem Nx.frame {F : Mem} (m : MOk K Z H (M ++ F)) (n : Nx K Z H M Z' H' M') : Nx K Z H (M ++ F) Z' H' (M' ++ F) := by
  have ndF : ∀ a, a ∈ dom F → a ∉ dom M := fun a ha hm => by
    have z := m.nd
    unfold dom at z
    rw [List.map_append, List.nodup_append] at z
    exact z.2.2 a hm a ha rfl
  have inF : ∀ p ∈ F, p ∈ M ++ F := fun p hp => List.mem_append_right _ hp
  have fz : ∀ p ∈ F, Z' p.1 = none := fun p hp => by
    cases e : Z' p.1 with
    | none => rfl
    | some o =>
      obtain ⟨u, hu⟩ := (m.cell p (inF p hp)).2.some
      rcases n.new _ _ e with z | z | z
      · rw [(m.cell p (inF p hp)).1] at z; cases z
      · rw [hu] at z; cases z
      · exact absurd z (ndF _ (List.mem_map.mpr ⟨p, hp, rfl⟩))
  refine ⟨⟨n.ok.ex, ?_, fun p hp => ?_⟩, n.ez, fun a o h hn => n.keep a o h fun z => hn (by unfold dom; rw [List.map_append]; exact List.mem_append_left _ z), fun a o h => ?_, fun a h => ?_⟩
  · unfold dom
    rw [List.map_append, List.nodup_append]
    refine ⟨n.ok.nd, ?_, fun a ha b hb => ?_⟩
    · have z := m.nd
      unfold dom at z
      rw [List.map_append, List.nodup_append] at z
      exact z.2.1
    · intro e
      subst e
      rcases n.dm a ha with z | z
      · exact ndF a hb z
      · obtain ⟨p, hp, e⟩ := List.mem_map.mp hb
        obtain ⟨u, hu⟩ := (m.cell p (inF p hp)).2.some
        rw [e, z] at hu; cases hu
  · rcases List.mem_append.mp hp with hp | hp
    · exact n.ok.cell p hp
    · obtain ⟨h1, h2⟩ := m.cell p (inF p hp)
      obtain ⟨u, hu⟩ := h2.some
      exact ⟨fz p hp, h2.mono n.ez ((n.keep _ _ hu (ndF _ (List.mem_map.mpr ⟨p, hp, rfl⟩))).trans hu.symm)⟩
  · rcases n.new a o h with z | z | z
    · exact .inl z
    · exact .inr (.inl z)
    · exact .inr (.inr (by unfold dom; rw [List.map_append]; exact List.mem_append_left _ z))
  · unfold dom at h ⊢
    rw [List.map_append] at h ⊢
    rcases List.mem_append.mp h with h | h
    · rcases n.dm a h with z | z
      · exact .inl (List.mem_append_left _ z)
      · exact .inr z
    · exact .inl (List.mem_append_right _ h)
theorem MOk.perm (m : MOk K Z H M) (p : M.Perm M') : MOk K Z H M' := ⟨m.ex, (p.map (·.1)).nodup_iff.mp m.nd, fun q hq => m.cell q (p.mem_iff.mpr hq)⟩
theorem Nx.perm {N N' : Mem} (n : Nx K Z H M Z' H' M') (p : M.Perm N) (q : M'.Perm N') : Nx K Z H N Z' H' N' := by
  have d1 : ∀ a, a ∈ dom M ↔ a ∈ dom N := fun a => (p.map (·.1)).mem_iff
  have d2 : ∀ a, a ∈ dom M' ↔ a ∈ dom N' := fun a => (q.map (·.1)).mem_iff
  exact ⟨n.ok.perm q, n.ez, fun a o h hn => n.keep a o h fun z => hn ((d1 a).mp z), fun a o h => (n.new a o h).imp id fun z => z.imp id (d1 a).mp, fun a h => (n.dm a ((d2 a).mpr h)).imp (d1 a).mp id⟩
/-- a list cell becomes frozen (the k-th) -/
theorem Nx.freeze {k : Nat} {p : Addr} {ds : List D} (m : MOk K Z H M) (h : M[k]? = some (p, .lst ds)) : ∃ Z', Nx K Z H M Z' H (M.eraseIdx k) ∧ Rep K Z' (.ref p) (.lst ds) := by
  have hm : (p, Cell.lst ds) ∈ M := List.mem_of_getElem? h
  have pd : p ∈ dom M := List.mem_map.mpr ⟨_, hm, rfl⟩
  obtain ⟨zp, vs, hv, r⟩ := m.cell _ hm
  have zp : Z p = none := zp
  have hv : H p = some (.lst vs) := hv
  have ez : Ex Z (upd Z p (.lst vs)) := Ex.new zp
  have sub : (M.eraseIdx k).Sublist M := List.eraseIdx_sublist ..
  refine ⟨upd Z p (.lst vs), ⟨⟨fun a u e => ?_, ?_, fun q hq => ?_⟩, ez, fun _ _ e _ => e, fun a u e => ?_, fun a e => .inl ((sub.map (·.1)).subset e)⟩, .lst upd_same (r.mono ez)⟩
  · by_cases ha : a = p
    · subst ha; rw [upd_same] at e; rw [← e]; exact hv
    · rw [upd_ne ha] at e; exact m.ex a u e
  · exact (sub.map (·.1)).nodup m.nd
  · have hq' := sub.subset hq
    obtain ⟨h1, h2⟩ := m.cell q hq'
    have hne : q.1 ≠ p := fun e => by
      obtain ⟨i, hi⟩ := List.mem_iff_getElem?.mp hq
      rw [List.getElem?_eraseIdx] at hi
      have a1 : (dom M)[k]? = some p := by unfold dom; rw [List.getElem?_map, h]; rfl
      obtain ⟨g1, e1⟩ := List.getElem?_eq_some_iff.mp a1
      split at hi
      · rename_i hlt
        have a2 : (dom M)[i]? = some p := by unfold dom; rw [List.getElem?_map, hi, ← e]; rfl
        obtain ⟨g2, e2⟩ := List.getElem?_eq_some_iff.mp a2
        have := (List.getElem_inj m.nd).mp (e1.trans e2.symm)
        omega
      · rename_i hlt
        have a2 : (dom M)[i + 1]? = some p := by unfold dom; rw [List.getElem?_map, hi, ← e]; rfl
        obtain ⟨g2, e2⟩ := List.getElem?_eq_some_iff.mp a2
        have := (List.getElem_inj m.nd).mp (e1.trans e2.symm)
        omega
    exact ⟨by rw [upd_ne hne]; exact h1, h2.mono ez rfl⟩
  · by_cases ha : a = p
    · subst ha; exact .inr (.inr pd)
    · rw [upd_ne ha] at e; exact .inl e
/-- not there ahead of the step, or the step's own -/
abbrev New (H : Hp) (M : Mem) (d : Addr) : Prop := H d = none ∨ d ∈ dom M
theorem Nx.back {d : Addr} (n : Nx K Z H M Z1 H1 M1) (h : New H1 M1 d) : New H M d := by
  rcases h with h | h
  · cases e : H d with
    | none => exact .inl e
    | some u =>
      by_cases hm : d ∈ dom M
      · exact .inr hm
      · rw [n.keep d u e hm] at h; cases h
  · exact (n.dm d h).symm
/-- the dict of an exception is frozen -/
theorem Nx.freezeX {d : Addr} {vs : List (Str × V)} (n : Nx K Z H M Z1 H1 M1) (w : New H M d) (h : H1 d = some (.xd vs)) : ∃ Z2, Nx K Z H M Z2 H1 M1 ∧ Z2 d = some (.xd vs) ∧ Ex Z1 Z2 := by
  by_cases hz : Z1 d = none
  · have ez : Ex Z1 (upd Z1 d (.xd vs)) := Ex.new hz
    refine ⟨upd Z1 d (.xd vs), ⟨⟨fun a u e => ?_, n.ok.nd, fun q hq => ?_⟩, n.ez.trans ez, n.keep, fun a o e => ?_, n.dm⟩, upd_same, ez⟩
    · by_cases ha : a = d
      · subst ha; rw [upd_same] at e; rw [← e]; exact h
      · rw [upd_ne ha] at e; exact n.ok.ex a u e
    · obtain ⟨h1, h2⟩ := n.ok.cell q hq
      have hne : q.1 ≠ d := fun e => by
        obtain ⟨a, c⟩ := q
        cases e
        cases c with
        | lst ds => obtain ⟨ws, hw, _⟩ := h2; rw [h] at hw; cases hw
        | ins C fs => obtain ⟨dx, ws, hw, _⟩ := h2; rw [h] at hw; cases hw
      exact ⟨by rw [upd_ne hne]; exact h1, h2.mono ez rfl⟩
    · by_cases ha : a = d
      · subst ha; exact .inr w
      · rw [upd_ne ha] at e; exact n.new a o e
  · obtain ⟨u, hu⟩ := Option.ne_none_iff_exists'.mp hz
    have := n.ok.ex d u hu
    rw [h] at this
    exact ⟨Z1, n, by rw [hu, ← this], Ex.refl Z1⟩
end
end ES

set_option Elab.async false
set_option linter.all false
set_option maxRecDepth 100000
set_option maxHeartbeats 2000000
namespace ES
open PySem PySem.Spec PyProof.Rows L2

/-! ### the widest reading of a piece of syntax -/
def sE (X : Cx) (e : Expr) : TE := fun σ H Q => ∀ (pins : List (Addr × Obj)) (s : Shared), Inv X pins σ H s → wpAny (model X.prog X.w) X.A (eval e X.env) (EP X pins σ Q) X.xe s
def sT (X : Cx) (e : Expr) : TT := fun σ H Q => ∀ (pins : List (Addr × Obj)) (s : Shared), Inv X pins σ H s → wpAny (model X.prog X.w) X.A (isTrue e X.env (eval e X.env)) (TP X pins σ Q) X.xe s
def sW (X : Cx) (e : Expr) : TT := fun σ H Q => ∀ (whole : Sem Value) (pins : List (Addr × Obj)) (s : Shared), Inv X pins σ H s → wpAny (model X.prog X.w) X.A (isTrue e X.env whole) (TP X pins σ Q) X.xe s
def sA (X : Cx) (es : List Expr) : TA := fun σ H Q => ∀ (pos : Pos) (pins : List (Addr × Obj)) (s : Shared), Inv X pins σ H s → wpAny (model X.prog X.w) X.A (spliced (backTo pos (starEach es X.env))) (AP X pins σ Q) X.xe s
def sS (X : Cx) (st : Stmt) : TS := fun D σ H => ∀ (pins : List (Addr × Obj)) (s : Shared), Inv X pins σ H s → wpAny (model X.prog X.w) X.A (exec st X.env) (SP X pins D) X.xe s
def sSs (X : Cx) (sts : List Stmt) : TS := fun D σ H => ∀ (pins : List (Addr × Obj)) (s : Shared), Inv X pins σ H s → wpAny (model X.prog X.w) X.A (execs sts X.env) (SP X pins D) X.xe s
def sG (X : Cx) (tg : Expr) : TG := fun v σ H Q => ∀ (pins : List (Addr × Obj)) (s : Shared) (u : Value), Inv X pins σ H s → RelV v u → wpAny (model X.prog X.w) X.A (assign tg X.env u) (fun _ s' => ∃ σ' H', Inv X pins σ' H' s' ∧ Q σ' H') X.xe s
def sTs (X : Cx) (ifs : List Expr) : TT := fun σ H Q => ∀ (pins : List (Addr × Obj)) (s : Shared), Inv X pins σ H s →
  wpAny (model X.prog X.w) X.A (forIn ifs true fun c r => if r = true then do let ok ← isTrue c X.env (eval c X.env); pure (ForInStep.yield ok) else pure (ForInStep.yield r)) (TP X pins σ Q) X.xe s
section
variable {X : Cx}
theorem pE {e : Expr} : PE X e (sE X e) := ⟨fun pins s _ _ _ I h => h pins s I⟩
theorem pT {e : Expr} : PT X e (sT X e) := ⟨fun pins s _ _ _ I h => h pins s I⟩
theorem pW {e : Expr} : PW X e (sW X e) := ⟨fun wh pins s _ _ _ I h => h wh pins s I⟩
theorem pA {es : List Expr} : PA X es (sA X es) := ⟨fun pos pins s _ _ _ I h => h pos pins s I⟩
theorem pS {st : Stmt} : PS X st (sS X st) := ⟨fun pins s _ _ _ I h => h pins s I⟩
theorem pSs {sts : List Stmt} : PSs X sts (sSs X sts) := ⟨fun pins s _ _ _ I h => h pins s I⟩
theorem pG {tg : Expr} : PG X tg (sG X tg) := ⟨fun pins s _ _ _ u _ I r h => h pins s u I r⟩
end

/-! ### the abstract judgements -/
def Post (K : PySem.W.Frag) (Z H : Hp) (M : Mem) (Q : D → Mem → Prop) (Qc : VK) : Prop := ∀ v Z' H' d M', Nx K Z H M Z' H' M' → Rep K Z' v d → Q d M' → Qc v H'
def PostT (K : PySem.W.Frag) (Z H : Hp) (M : Mem) (Q : Bool → Mem → Prop) (Qc : Bool → Hp → Prop) : Prop := ∀ b Z' H' M', Nx K Z H M Z' H' M' → Q b M' → Qc b H'
def PostA (K : PySem.W.Frag) (Z H : Hp) (M : Mem) (Q : List D → Mem → Prop) (Qc : List V → Hp → Prop) : Prop := ∀ vs Z' H' ds M', Nx K Z H M Z' H' M' → Reps K Z' vs ds → Q ds M' → Qc vs H'
structure EV (X : Cx) (e : Expr) (G : Sl) (M : Mem) (Q : D → Mem → Prop) : Prop where
  mk ::
  run : ∀ Z σ H, MOk X.K Z H M → SOk X.K Z σ G → ∀ Qc, Post X.K Z H M Q Qc → sE X e σ H Qc
structure ET (X : Cx) (e : Expr) (G : Sl) (M : Mem) (Q : Bool → Mem → Prop) : Prop where
  mk ::
  run : ∀ Z σ H, MOk X.K Z H M → SOk X.K Z σ G → ∀ Qc, PostT X.K Z H M Q Qc → sT X e σ H Qc
structure EW (X : Cx) (e : Expr) (G : Sl) (M : Mem) (Q : Bool → Mem → Prop) : Prop where
  mk ::
  run : ∀ Z σ H, MOk X.K Z H M → SOk X.K Z σ G → ∀ Qc, PostT X.K Z H M Q Qc → sW X e σ H Qc
structure EA (X : Cx) (es : List Expr) (G : Sl) (M : Mem) (Q : List D → Mem → Prop) : Prop where
  mk ::
  run : ∀ Z σ H, MOk X.K Z H M → SOk X.K Z σ G → ∀ Qc, PostA X.K Z H M Q Qc → sA X es σ H Qc
structure AE where
  nx : Sl → Mem → Prop
  rt : D → Mem → Prop
  bk : Sl → Mem → Prop := fun _ _ => False
  ct : Sl → Mem → Prop := fun _ _ => False
  ex : Sl → Addr → List (Str × D) → Mem → Prop := fun _ _ _ _ => False
/-- what is wanted of an exception: its class, its fields -/
abbrev XAT := Addr → List (Str × D) → Mem → Prop
abbrev noX : XAT := fun _ _ _ => False
def WOk (K : PySem.W.Frag) (Z H : Hp) (M : Mem) (ex : Sl → XAT) (W : WX) : Prop := ∀ σ' Z' H' G' M' C d vs fs, Nx K Z H M Z' H' M' → SOk K Z' σ' G' → New H M d → H' d = some (.xd vs) → RepF K Z' vs fs → ex G' C fs M' → W (.ref C) (some d) σ' H'
/-- the same at the slots σ -/
def WO1 (K : PySem.W.Frag) (Z H : Hp) (M : Mem) (σ : L2.St) (ex : XAT) (W : WX) : Prop := ∀ Z' H' M' C d vs fs, Nx K Z H M Z' H' M' → New H M d → H' d = some (.xd vs) → RepF K Z' vs fs → ex C fs M' → W (.ref C) (some d) σ H'
structure EOk (X : Cx) (Z H : Hp) (M : Mem) (E : AE) (D0 : Ends) : Prop where
  nx : ∀ σ' Z' H' G' M', Nx X.K Z H M Z' H' M' → SOk X.K Z' σ' G' → E.nx G' M' → D0.nx σ' H'
  rt : ∀ v Z' H' d M', Nx X.K Z H M Z' H' M' → Rep X.K Z' v d → E.rt d M' → D0.rt v H'
  bk : ∀ σ' Z' H' G' M', Nx X.K Z H M Z' H' M' → SOk X.K Z' σ' G' → E.bk G' M' → D0.bk σ' H'
  ct : ∀ σ' Z' H' G' M', Nx X.K Z H M Z' H' M' → SOk X.K Z' σ' G' → E.ct G' M' → D0.ct σ' H'
  ex : ∃ W : WX, Takes X W ∧ WOk X.K Z H M E.ex W
structure SV1 (X : Cx) (st : Stmt) (G : Sl) (M : Mem) (E : AE) : Prop where
  mk ::
  run : ∀ Z σ H, MOk X.K Z H M → SOk X.K Z σ G → ∀ D0, EOk X Z H M E D0 → sS X st D0 σ H
structure SV (X : Cx) (sts : List Stmt) (G : Sl) (M : Mem) (E : AE) : Prop where
  mk ::
  run : ∀ Z σ H, MOk X.K Z H M → SOk X.K Z σ G → ∀ D0, EOk X Z H M E D0 → sSs X sts D0 σ H
structure AV (X : Cx) (tg : Expr) (d : D) (G : Sl) (M : Mem) (Q : Sl → Mem → Prop) : Prop where
  mk ::
  run : ∀ Z σ H v, MOk X.K Z H M → SOk X.K Z σ G → Rep X.K Z v d →
  ∀ Qc, (∀ σ' Z' H' G' M', Nx X.K Z H M Z' H' M' → SOk X.K Z' σ' G' → Q G' M' → Qc σ' H') → sG X tg v σ H Qc
instance {X : Cx} {e : Expr} {G : Sl} {M : Mem} {Q : D → Mem → Prop} : CoeFun (EV X e G M Q) fun _ => ∀ Z σ H, MOk X.K Z H M → SOk X.K Z σ G → ∀ Qc, Post X.K Z H M Q Qc → sE X e σ H Qc := ⟨EV.run⟩
instance {X : Cx} {e : Expr} {G : Sl} {M : Mem} {Q : Bool → Mem → Prop} : CoeFun (ET X e G M Q) fun _ => ∀ Z σ H, MOk X.K Z H M → SOk X.K Z σ G → ∀ Qc, PostT X.K Z H M Q Qc → sT X e σ H Qc := ⟨ET.run⟩
instance {X : Cx} {e : Expr} {G : Sl} {M : Mem} {Q : Bool → Mem → Prop} : CoeFun (EW X e G M Q) fun _ => ∀ Z σ H, MOk X.K Z H M → SOk X.K Z σ G → ∀ Qc, PostT X.K Z H M Q Qc → sW X e σ H Qc := ⟨EW.run⟩
instance {X : Cx} {es : List Expr} {G : Sl} {M : Mem} {Q : List D → Mem → Prop} : CoeFun (EA X es G M Q) fun _ => ∀ Z σ H, MOk X.K Z H M → SOk X.K Z σ G → ∀ Qc, PostA X.K Z H M Q Qc → sA X es σ H Qc := ⟨EA.run⟩
instance {X : Cx} {st : Stmt} {G : Sl} {M : Mem} {E : AE} : CoeFun (SV1 X st G M E) fun _ => ∀ Z σ H, MOk X.K Z H M → SOk X.K Z σ G → ∀ D0, EOk X Z H M E D0 → sS X st D0 σ H := ⟨SV1.run⟩
instance {X : Cx} {sts : List Stmt} {G : Sl} {M : Mem} {E : AE} : CoeFun (SV X sts G M E) fun _ => ∀ Z σ H, MOk X.K Z H M → SOk X.K Z σ G → ∀ D0, EOk X Z H M E D0 → sSs X sts D0 σ H := ⟨SV.run⟩
instance {X : Cx} {tg : Expr} {d : D} {G : Sl} {M : Mem} {Q : Sl → Mem → Prop} : CoeFun (AV X tg d G M Q) fun _ => ∀ Z σ H v, MOk X.K Z H M → SOk X.K Z σ G → Rep X.K Z v d → ∀ Qc, (∀ σ' Z' H' G' M', Nx X.K Z H M Z' H' M' → SOk X.K Z' σ' G' → Q G' M' → Qc σ' H') → sG X tg v σ H Qc := ⟨AV.run⟩
/-- it gives just d and leaves M' -/
abbrev Is {α : Type} (d : α) (M' : Mem) : α → Mem → Prop := fun d' M'' => d' = d ∧ M'' = M'
abbrev EVd (X : Cx) (e : Expr) (G : Sl) (M : Mem) (d : D) (M' : Mem) : Prop := EV X e G M (Is d M')
abbrev ETd (X : Cx) (e : Expr) (G : Sl) (M : Mem) (b : Bool) (M' : Mem) : Prop := ET X e G M (Is b M')
abbrev EWd (X : Cx) (e : Expr) (G : Sl) (M : Mem) (b : Bool) (M' : Mem) : Prop := EW X e G M (Is b M')
abbrev EAd (X : Cx) (es : List Expr) (G : Sl) (M : Mem) (ds : List D) (M' : Mem) : Prop := EA X es G M (Is ds M')

section
variable {X : Cx} {K : PySem.W.Frag} {Z Z1 H H1 : Hp} {M M1 M2 M3 : Mem} {G : Sl} {e a b c : Expr} {es : List Expr} {d x y z : D} {pos p : Pos}
theorem Post.aft {Q : D → Mem → Prop} {Qc : VK} (h : Post K Z H M Q Qc) (n : Nx K Z H M Z1 H1 M1) : Post K Z1 H1 M1 Q Qc := fun v Z' H' d M' n' r q => h v Z' H' d M' (n.trans n') r q
theorem PostT.aft {Q : Bool → Mem → Prop} {Qc : Bool → Hp → Prop} (h : PostT K Z H M Q Qc) (n : Nx K Z H M Z1 H1 M1) : PostT K Z1 H1 M1 Q Qc := fun v Z' H' M' n' q => h v Z' H' M' (n.trans n') q
theorem PostA.aft {Q : List D → Mem → Prop} {Qc : List V → Hp → Prop} (h : PostA K Z H M Q Qc) (n : Nx K Z H M Z1 H1 M1) : PostA K Z1 H1 M1 Q Qc := fun v Z' H' d M' n' r q => h v Z' H' d M' (n.trans n') r q
theorem WOk.aft {ex : Sl → XAT} {W : WX} (h : WOk K Z H M ex W) (n : Nx K Z H M Z1 H1 M1) : WOk K Z1 H1 M1 ex W := fun σ' Z' H' G' M' C d vs fs n' s nd e r q => h σ' Z' H' G' M' C d vs fs (n.trans n') s (n.back nd) e r q
theorem WOk.at1 {ex : Sl → XAT} {W : WX} {σ : L2.St} (h : WOk K Z H M ex W) (s : SOk K Z σ G) : WO1 K Z H M σ (ex G) W := fun Z' H' M' C d vs fs n nd e r q => h σ Z' H' G M' C d vs fs n (s.mono n.ez) nd e r q
theorem WO1.aft {ex : XAT} {W : WX} {σ : L2.St} (h : WO1 K Z H M σ ex W) (n : Nx K Z H M Z1 H1 M1) : WO1 K Z1 H1 M1 σ ex W := fun Z' H' M' C d vs fs n' nd e r q => h Z' H' M' C d vs fs (n.trans n') (n.back nd) e r q
theorem EOk.aft {E : AE} {D0 : Ends} (h : EOk X Z H M E D0) (n : Nx X.K Z H M Z1 H1 M1) : EOk X Z1 H1 M1 E D0 :=
  ⟨fun σ' Z' H' G' M' n' s q => h.nx σ' Z' H' G' M' (n.trans n') s q, fun v Z' H' d M' n' r q => h.rt v Z' H' d M' (n.trans n') r q, fun σ' Z' H' G' M' n' s q => h.bk σ' Z' H' G' M' (n.trans n') s q, fun σ' Z' H' G' M' n' s q => h.ct σ' Z' H' G' M' (n.trans n') s q, let ⟨W, t, w⟩ := h.ex; ⟨W, t, w.aft n⟩⟩
theorem EV.imp {Q Q' : D → Mem → Prop} (h : EV X e G M Q) (k : ∀ d M', Q d M' → Q' d M') : EV X e G M Q' := .mk fun Z σ H m s Qc post => h Z σ H m s Qc fun v Z' H' d M' n r q => post v Z' H' d M' n r (k d M' q)
theorem ET.imp {Q Q' : Bool → Mem → Prop} (h : ET X e G M Q) (k : ∀ d M', Q d M' → Q' d M') : ET X e G M Q' := .mk fun Z σ H m s Qc post => h Z σ H m s Qc fun v Z' H' M' n q => post v Z' H' M' n (k v M' q)
theorem EA.imp {Q Q' : List D → Mem → Prop} (h : EA X es G M Q) (k : ∀ d M', Q d M' → Q' d M') : EA X es G M Q' := .mk fun Z σ H m s Qc post => h Z σ H m s Qc fun v Z' H' d M' n r q => post v Z' H' d M' n r (k d M' q)
theorem EVd.to {Q : D → Mem → Prop} (h : EVd X e G M d M1) (q : Q d M1) : EV X e G M Q := EV.imp h fun _ _ z => by obtain ⟨rfl, rfl⟩ := z; exact q
theorem ETd.to {Q : Bool → Mem → Prop} {k : Bool} (h : ETd X e G M k M1) (q : Q k M1) : ET X e G M Q := ET.imp h fun _ _ z => by obtain ⟨rfl, rfl⟩ := z; exact q
theorem EVd.eq {d' : D} (h : EVd X e G M d M1) (q : d = d') : EVd X e G M d' M1 := by rw [← q]; exact h
theorem ETd.eq {k k' : Bool} (h : ETd X e G M k M1) (q : k = k') : ETd X e G M k' M1 := by rw [← q]; exact h
theorem EV.le {G0 : Sl} {Q : D → Mem → Prop} (h : EV X e G0 M Q) (l : Le G0 G) : EV X e G M Q := .mk fun Z σ H m s => h Z σ H m (s.le l)
theorem SV.le {sts : List Stmt} {G0 : Sl} {E : AE} (h : SV X sts G0 M E) (l : Le G0 G) : SV X sts G M E := .mk fun Z σ H m s => h Z σ H m (s.le l)
theorem SV.imp {sts : List Stmt} {E E' : AE} (h : SV X sts G M E) (h1 : ∀ G M, E.nx G M → E'.nx G M) (h2 : ∀ d M, E.rt d M → E'.rt d M) (h3 : ∀ G M, E.bk G M → E'.bk G M) (h4 : ∀ G M, E.ct G M → E'.ct G M) (h5 : ∀ G C fs M, E.ex G C fs M → E'.ex G C fs M) : SV X sts G M E' := .mk fun Z σ H m s D0 ok =>
  h Z σ H m s D0 ⟨fun σ' Z' H' G' M' n s q => ok.nx σ' Z' H' G' M' n s (h1 _ _ q), fun v Z' H' d M' n s q => ok.rt v Z' H' d M' n s (h2 _ _ q), fun σ' Z' H' G' M' n s q => ok.bk σ' Z' H' G' M' n s (h3 _ _ q), fun σ' Z' H' G' M' n s q => ok.ct σ' Z' H' G' M' n s (h4 _ _ q), let ⟨W, t, w⟩ := ok.ex; ⟨W, t, fun σ' Z' H' G' M' C d vs fs n s' nd e r q => w σ' Z' H' G' M' C d vs fs n s' nd e r (h5 _ _ _ _ q)⟩⟩
/-- the memory in another order -/
theorem SV.perm {sts : List Stmt} {N : Mem} {E : AE} (h : SV X sts G N E) (l : M.Perm N) : SV X sts G M E := .mk fun Z σ H m s D0 ok =>
  h Z σ H (m.perm l) s D0 (ok.aft (Nx.perm (Nx.refl m) (.refl _) l))

/-! ### names and constants -/
theorem e_v (i : Nat) {x : Str} (hG : G[i]? = some (some d)) (hN : X.N[i]? = some x := by rfl) (hv : Vis X.env.scope x := by first | exact Or.inl rfl | exact Or.inr (Or.inl rfl) | exact Or.inr (Or.inr rfl)) (hd : (x == ("__debug__" : Str)) = false := by decide)
    (hcd : (x == ("__classdict__" : Str)) = false := by decide) : EVd X (.Name x p) G M d M := .mk fun Z σ H m s Qc post pins st I => by
  obtain ⟨v, hv', r⟩ := s.at_ i d hG
  exact (pe_var hN hv hd hcd).run pins st σ H Qc I ⟨v, hv', post v Z H d M (Nx.refl m) r ⟨rfl, rfl⟩⟩
theorem e_int {i : Int} {j : Nat} : EVd X (.Constant (.int i) j p) G M (.int i) M := .mk fun Z σ H m s Qc post pins st I => pe_int.run pins st σ H Qc I (post _ Z H _ M (Nx.refl m) (.int i) ⟨rfl, rfl⟩)
theorem e_bl {k : Bool} {j : Nat} : EVd X (.Constant (.bool k) j p) G M (.bl k) M := .mk fun Z σ H m s Qc post pins st I => pe_bl.run pins st σ H Qc I (post _ Z H _ M (Nx.refl m) (.bl k) ⟨rfl, rfl⟩)
theorem e_non {j : Nat} : EVd X (.Constant .none j p) G M .non M := .mk fun Z σ H m s Qc post pins st I => pe_non.run pins st σ H Qc I (post _ Z H _ M (Nx.refl m) .non ⟨rfl, rfl⟩)
theorem e_str {x : Str} {j : Nat} : EVd X (.Constant (.str x) j p) G M (.str x) M := .mk fun Z σ H m s Qc post pins st I => pe_str.run pins st σ H Qc I (post _ Z H _ M (Nx.refl m) (.str x) ⟨rfl, rfl⟩)
/-- a module's int -/
theorem e_gint {x : Str} {i : Int} {t : Tok} (hm : X.mg x = some (.int i t)) (hg : Gl X x := by rfl) (hd : (x == ("__debug__" : Str)) = false := by decide) : EVd X (.Name x p) G M (.int i) M := .mk fun Z σ H m s Qc post pins st I =>
  (pe_glob (v := .int i) hg hm ⟨t, rfl⟩ hd).run pins st σ H Qc I (post _ Z H _ M (Nx.refl m) (.int i) ⟨rfl, rfl⟩)
/-- a def or a class as a value -/
theorem e_gref {x : Str} {f : Addr} (hm : X.mg x = some (.ref f)) (hg : Gl X x := by rfl) (hd : (x == ("__debug__" : Str)) = false := by decide) : EVd X (.Name x p) G M (.ref f) M := .mk fun Z σ H m s Qc post pins st I =>
  (pe_glob (v := .ref f) hg hm rfl hd).run pins st σ H Qc I (post _ Z H _ M (Nx.refl m) (.ref f) ⟨rfl, rfl⟩)

/-! ### operators, by values -/
/-- x op y gives what Q says -/
def BD (X : Cx) (f : Value → Value → Sem Value) (x y : D) (M : Mem) (Q : D → Mem → Prop) : Prop := ∃ r : R2, OpR X f r ∧ ∀ Z H v u, MOk X.K Z H M → Rep X.K Z v x → Rep X.K Z u y → ∀ Qc, Post X.K Z H M Q Qc → r v u H Qc
theorem ev_bin {op : Operator} {Q : D → Mem → Prop} (h : EV X a G M fun x M1 => EV X b G M1 fun y M2 => BD X (binaryOp op) x y M2 Q) : EV X (.BinOp a op b pos) G M Q := .mk fun Z σ H m s Qc post pins st I => by
  refine wpAny_BinOp (binT pE pE (R := fun v u H2 => ∃ r : R2, OpR X (binaryOp op) r ∧ r v u H2 Qc) I ?_ fun v u s2 x y H2 I2 rx ry q => ?_)
  · refine h Z σ H m s _ fun v Z1 H1 x M1 n1 r1 q1 => ?_
    refine q1 Z1 σ H1 n1.ok (s.mono n1.ez) _ fun u Z2 H2 y M2 n2 r2 q2 => ?_
    obtain ⟨r, ho, hr⟩ := q2
    exact ⟨r, ho, hr Z2 H2 v u n2.ok (r1.mono n2.ez) r2 Qc ((post.aft n1).aft n2)⟩
  · obtain ⟨r, ho, hr⟩ := q
    exact ho pins s2 σ H2 x y v u Qc I2 rx ry hr
theorem e_bin {op : Operator} (h1 : EVd X a G M x M1) (h2 : EVd X b G M1 y M2) (h : BD X (binaryOp op) x y M2 (Is z M3)) : EVd X (.BinOp a op b pos) G M z M3 := ev_bin (h1.to (h2.to h))
theorem bd_int {f : Value → Value → Sem Value} {C : Int → Int → Prop} {g : Int → Int → Int} {i j : Int} (ho : OpR X f (rI C fun i j => .int (g i j))) (hc : C i j) : BD X f (.int i) (.int j) M (Is (.int (g i j)) M) :=
  ⟨_, ho, fun Z H v u m r1 r2 Qc post => by cases r1; cases r2; exact ⟨i, j, rfl, rfl, hc, post _ Z H _ M (Nx.refl m) (.int _) ⟨rfl, rfl⟩⟩⟩
theorem bd_int0 {f : Value → Value → Sem Value} {g : Int → Int → Int} {i j : Int} (ho : OpR X f (rI0 fun i j => .int (g i j))) : BD X f (.int i) (.int j) M (Is (.int (g i j)) M) :=
  ⟨_, ho, fun Z H v u m r1 r2 Qc post => by cases r1; cases r2; exact ⟨i, j, rfl, rfl, post _ Z H _ M (Nx.refl m) (.int _) ⟨rfl, rfl⟩⟩⟩
section
variable {i j : Int}
theorem e_add (h1 : EVd X a G M (.int i) M1) (h2 : EVd X b G M1 (.int j) M2) : EVd X (.BinOp a .Add b pos) G M (.int (i + j)) M2 := e_bin h1 h2 (bd_int0 op_add)
theorem e_sub (h1 : EVd X a G M (.int i) M1) (h2 : EVd X b G M1 (.int j) M2) : EVd X (.BinOp a .Sub b pos) G M (.int (i - j)) M2 := e_bin h1 h2 (bd_int0 op_sub)
theorem e_mul (h1 : EVd X a G M (.int i) M1) (h2 : EVd X b G M1 (.int j) M2) (hc : CMul i j) : EVd X (.BinOp a .Mult b pos) G M (.int (i * j)) M2 := e_bin h1 h2 (bd_int op_mul hc)
theorem e_fdiv (h1 : EVd X a G M (.int i) M1) (h2 : EVd X b G M1 (.int j) M2) (hc : CDiv i j) : EVd X (.BinOp a .FloorDiv b pos) G M (.int (i / j)) M2 := e_bin h1 h2 (bd_int op_fdiv hc)
theorem e_mod (h1 : EVd X a G M (.int i) M1) (h2 : EVd X b G M1 (.int j) M2) (hc : 0 < j) : EVd X (.BinOp a .Mod b pos) G M (.int (i % j)) M2 := e_bin h1 h2 (bd_int op_mod hc)
theorem e_pow (h1 : EVd X a G M (.int i) M1) (h2 : EVd X b G M1 (.int j) M2) (hc : CPow i j) : EVd X (.BinOp a .Pow b pos) G M (.int (i ^ j.toNat)) M2 := e_bin h1 h2 (bd_int op_pow hc)
theorem e_neg (h1 : EVd X a G M (.int i) M1) : EVd X (.UnaryOp .USub a pos) G M (.int (-i)) M1 := .mk fun Z σ H m s Qc post pins st I => by
  refine (pe_un un_neg pE).run pins st σ H Qc I ?_
  refine h1 Z σ H m s _ fun v Z1 H1 x M1 n1 r1 q1 => ?_
  obtain ⟨rfl, rfl⟩ := q1
  cases r1
  exact ⟨i, rfl, post _ Z1 H1 _ _ n1 (.int _) ⟨rfl, rfl⟩⟩
end

/-! ### comparisons -/
/-- a comparison that changes nothing -/
def CD (X : Cx) (op : CmpOp) (x y : D) (M : Mem) (k : Bool) : Prop := ∃ r : R2, OpR X (compareOp op) r ∧ ∀ Z H v u, MOk X.K Z H M → Rep X.K Z v x → Rep X.K Z u y → ∀ Qc : VK, Qc (.bl k) H → r v u H Qc
theorem e_cmp {op : CmpOp} {k : Bool} (h1 : EVd X a G M x M1) (h2 : EVd X b G M1 y M2) (h : CD X op x y M2 k) (hm : behindInMarks op b = false := by first | exact nomark _ | rfl) : EVd X (.Compare a [op] [b] pos) G M (.bl k) M2 := .mk fun Z σ H m s Qc post pins st I => by
  obtain ⟨r, ho, hr⟩ := h
  refine (pe_cmpR ho pE pE hm).run pins st σ H Qc I ?_
  refine h1 Z σ H m s _ fun v Z1 H1 x M1 n1 r1 q1 => ?_
  obtain ⟨rfl, rfl⟩ := q1
  refine h2 Z1 σ H1 n1.ok (s.mono n1.ez) _ fun u Z2 H2 y M2 n2 r2 q2 => ?_
  obtain ⟨rfl, rfl⟩ := q2
  exact hr Z2 H2 v u n2.ok (r1.mono n2.ez) r2 Qc (post _ Z2 H2 _ _ (n1.trans n2) (.bl k) ⟨rfl, rfl⟩)
theorem t_cmp {op : CmpOp} {k : Bool} (h1 : EVd X a G M x M1) (h2 : EVd X b G M1 y M2) (h : CD X op x y M2 k) (hm : behindInMarks op b = false := by first | exact nomark _ | rfl) : ETd X (.Compare a [op] [b] pos) G M k M2 := .mk fun Z σ H m s Qc post pins st I => by
  obtain ⟨r, ho, hr⟩ := h
  refine (pt_cmpR ho pE pE hm).run pins st σ H Qc I ?_
  refine h1 Z σ H m s _ fun v Z1 H1 x M1 n1 r1 q1 => ?_
  obtain ⟨rfl, rfl⟩ := q1
  refine h2 Z1 σ H1 n1.ok (s.mono n1.ez) _ fun u Z2 H2 y M2 n2 r2 q2 => ?_
  obtain ⟨rfl, rfl⟩ := q2
  exact hr Z2 H2 v u n2.ok (r1.mono n2.ez) r2 _ ⟨k, rfl, post _ Z2 H2 _ (n1.trans n2) ⟨rfl, rfl⟩⟩
theorem cd_int {op : CmpOp} {g : Int → Int → Bool} {i j : Int} (ho : OpR X (compareOp op) (rI0 fun i j => .bl (g i j))) : CD X op (.int i) (.int j) M (g i j) :=
  ⟨_, ho, fun Z H v u m r1 r2 Qc q => by cases r1; cases r2; exact ⟨i, j, rfl, rfl, q⟩⟩
section
variable {i j : Int} {k l : Bool} {u v : Str}
theorem c_lt : CD X .Lt (.int i) (.int j) M (decide (i < j)) := cd_int op_lt
theorem c_le : CD X .LtE (.int i) (.int j) M (decide (i ≤ j)) := cd_int op_le
theorem c_gt : CD X .Gt (.int i) (.int j) M (decide (j < i)) := cd_int op_gt
theorem c_ge : CD X .GtE (.int i) (.int j) M (decide (j ≤ i)) := cd_int op_ge
theorem c_eq : CD X .Eq (.int i) (.int j) M (decide (i = j)) := ⟨_, op_eq, fun Z H v u m r1 r2 Qc q => by
  cases r1; cases r2
  refine ⟨rfl, ?_⟩
  rw [dec_int, Bool.beq_eq_decide_eq]; exact q⟩
theorem c_ne : CD X .NotEq (.int i) (.int j) M (!decide (i = j)) := ⟨_, op_ne, fun Z H v u m r1 r2 Qc q => by
  cases r1; cases r2
  refine ⟨rfl, ?_⟩
  rw [dec_int, Bool.beq_eq_decide_eq]; exact q⟩
theorem c_eqS : CD X .Eq (.str u) (.str v) M (decide (u = v)) := ⟨_, op_eq, fun Z H v u m r1 r2 Qc q => by
  cases r1; cases r2
  refine ⟨rfl, ?_⟩
  rw [dec_str, Bool.beq_eq_decide_eq]; exact q⟩
theorem c_neS : CD X .NotEq (.str u) (.str v) M (!decide (u = v)) := ⟨_, op_ne, fun Z H v u m r1 r2 Qc q => by
  cases r1; cases r2
  refine ⟨rfl, ?_⟩
  rw [dec_str, Bool.beq_eq_decide_eq]; exact q⟩
end
/-- is it None -/
def D.isNon : D → Bool
  | .non => true
  | _ => false
theorem rep_non {v : V} (r : Rep K Z v d) : decide (v = .non) = d.isNon := by cases r <;> rfl
theorem c_isN : CD X .Is d .non M d.isNon := ⟨_, op_isN, fun Z H v u m r1 r2 Qc q => by
  cases r2
  exact ⟨rfl, by rw [rep_non r1]; exact q⟩⟩
theorem c_notN : CD X .IsNot d .non M (!d.isNon) := ⟨_, op_notN, fun Z H v u m r1 r2 Qc q => by
  cases r2
  exact ⟨rfl, by rw [rep_non r1]; exact q⟩⟩

/-! ### tests -/
theorem t_val {k : Bool} (h : EVd X e G M (.bl k) M1) (he : ∀ whole, isTrue e X.env whole = (do let v ← whole; standAt e.pos; holding [v] (truthy v)) := by intro _; rfl) : ETd X e G M k M1 := .mk fun Z σ H m s Qc post pins st I => by
  refine (pt_val pE he).run pins st σ H Qc I ?_
  refine h Z σ H m s _ fun v Z1 H1 x M1 n1 r1 q1 => ?_
  obtain ⟨rfl, rfl⟩ := q1
  cases r1
  exact ⟨k, rfl, post _ Z1 H1 _ n1 ⟨rfl, rfl⟩⟩
/-- by truth -/
def D.truth : D → Bool
  | .non => false
  | .bl b => b
  | .int i => i != 0
  | .lst ds => !ds.isEmpty
  | .tup ds => !ds.isEmpty
  | .scr ns => !ns.isEmpty
  | .exc _ _ _ => true
  | _ => false
def D.hasTruth : D → Bool
  | .non => true
  | .bl _ => true
  | .int _ => true
  | .lst _ => true
  | .tup _ => true
  | .scr _ => true
  | _ => false
theorem reps_empty {vs : List V} {ds : List D} (r : Reps K Z vs ds) : vs.isEmpty = ds.isEmpty := by cases r <;> rfl
theorem t_truth (h : EVd X e G M d M1) (hd : d.hasTruth = true) (he : ∀ whole, isTrue e X.env whole = (do let v ← whole; standAt e.pos; holding [v] (truthy v)) := by intro _; rfl) : ETd X e G M d.truth M1 := .mk fun Z σ H m s Qc post pins st I => by
  refine (pt_truth pE he).run pins st σ H Qc I ?_
  refine h Z σ H m s _ fun v Z1 H1 x M1 n1 r1 q1 => ?_
  obtain ⟨rfl, rfl⟩ := q1
  have fin : TruV X.K v H1 x.truth := by
    cases r1 with
    | non => rfl
    | bl b => rfl
    | int i => rfl
    | lst h1 r => exact .inl ⟨_, SqL.of (n1.ok.ex _ _ h1), by rw [reps_empty r]; rfl⟩
    | tup h1 r => exact .inr (.inl ⟨_, ex_t n1.ok.ex h1, by rw [reps_empty r]; rfl⟩)
    | scr h1 => exact .inl ⟨_, ex_l n1.ok.ex h1, by simp [D.truth]⟩
    | _ => simp [D.hasTruth] at hd
  exact ⟨_, fin, post _ Z1 H1 _ n1 ⟨rfl, rfl⟩⟩
theorem t_not {k : Bool} (h : ETd X e G M k M1) : ETd X (.UnaryOp .Not e pos) G M (!k) M1 := .mk fun Z σ H m s Qc post pins st I => by
  refine (pt_not pT).run pins st σ H Qc I ?_
  refine h Z σ H m s _ fun b Z1 H1 M1 n1 q1 => ?_
  obtain ⟨rfl, rfl⟩ := q1
  exact post _ Z1 H1 _ n1 ⟨rfl, rfl⟩
theorem e_not {k : Bool} (h : EVd X e G M (.bl k) M1) : EVd X (.UnaryOp .Not e pos) G M (.bl (!k)) M1 := .mk fun Z σ H m s Qc post pins st I => by
  refine (pe_not pE).run pins st σ H Qc I ?_
  refine h Z σ H m s _ fun v Z1 H1 x M1 n1 r1 q1 => ?_
  obtain ⟨rfl, rfl⟩ := q1
  cases r1
  exact ⟨k, rfl, post _ Z1 H1 _ _ n1 (.bl _) ⟨rfl, rfl⟩⟩
/-- and, or as tests: the second one is asked in part -/
theorem w_one {op : BoolOp} {k : Bool} (h : ETd X a G M k M1) : EWd X (.BoolOp op [a] pos) G M k M1 := .mk fun Z σ H m s Qc post wh pins st I => by
  cases op with
  | And =>
    exact (pw_and1 pT).run wh pins st σ H Qc I (h Z σ H m s _ fun b Z1 H1 M1 n1 q1 => post b Z1 H1 M1 n1 q1)
  | Or =>
    exact (pw_or1 pT).run wh pins st σ H Qc I (h Z σ H m s _ fun b Z1 H1 M1 n1 q1 => post b Z1 H1 M1 n1 q1)
theorem w_and {k l : Bool} {rest : List Expr} (h1 : ETd X a G M k M1) (h2 : k = true → EWd X (.BoolOp .And (b :: rest) pos) G M1 l M2) (h3 : k = false → M2 = M1) : EWd X (.BoolOp .And (a :: b :: rest) pos) G M (k && l) M2 := .mk fun Z σ H m s Qc post wh pins st I => by
  refine (pw_and pT pW).run wh pins st σ H Qc I ?_
  refine h1 Z σ H m s _ fun c Z1 H1 M1 n1 q1 => ?_
  obtain ⟨rfl, rfl⟩ := q1
  cases c with
  | true =>
    refine iteT ?_
    exact h2 rfl Z1 σ H1 n1.ok (s.mono n1.ez) _ fun c Z2 H2 M3 n2 q2 => post _ Z2 H2 _ (n1.trans n2) (by obtain ⟨rfl, rfl⟩ := q2; exact ⟨rfl, rfl⟩)
  | false =>
    refine iteF ?_
    rw [← h3 rfl] at n1
    exact post _ Z1 H1 _ n1 ⟨rfl, rfl⟩
theorem w_or {k l : Bool} {rest : List Expr} (h1 : ETd X a G M k M1) (h2 : k = false → EWd X (.BoolOp .Or (b :: rest) pos) G M1 l M2) (h3 : k = true → M2 = M1) : EWd X (.BoolOp .Or (a :: b :: rest) pos) G M (k || l) M2 := .mk fun Z σ H m s Qc post wh pins st I => by
  refine (pw_or pT pW).run wh pins st σ H Qc I ?_
  refine h1 Z σ H m s _ fun c Z1 H1 M1 n1 q1 => ?_
  obtain ⟨rfl, rfl⟩ := q1
  cases c with
  | false =>
    refine iteF ?_
    exact h2 rfl Z1 σ H1 n1.ok (s.mono n1.ez) _ fun c Z2 H2 M3 n2 q2 => post _ Z2 H2 _ (n1.trans n2) (by obtain ⟨rfl, rfl⟩ := q2; exact ⟨rfl, rfl⟩)
  | true =>
    refine iteT ?_
    rw [← h3 rfl] at n1
    exact post _ Z1 H1 _ n1 ⟨rfl, rfl⟩
theorem t_w {k : Bool} (h : EWd X e G M k M1) : ETd X e G M k M1 := .mk fun Z σ H m s Qc post pins st I => pW.pt.run pins st σ H Qc I (h Z σ H m s Qc post)
/-- where nothing changes the memory -/
theorem w_and' {k l : Bool} {rest : List Expr} (h1 : ETd X a G M k M) (h2 : k = true → EWd X (.BoolOp .And (b :: rest) pos) G M l M) : EWd X (.BoolOp .And (a :: b :: rest) pos) G M (k && l) M := w_and h1 h2 fun _ => rfl
theorem w_or' {k l : Bool} {rest : List Expr} (h1 : ETd X a G M k M) (h2 : k = false → EWd X (.BoolOp .Or (b :: rest) pos) G M l M) : EWd X (.BoolOp .Or (a :: b :: rest) pos) G M (k || l) M := w_or h1 h2 fun _ => rfl
/-- .. as values -/
theorem e_one {op : BoolOp} (h : EVd X a G M d M1) : EVd X (.BoolOp op [a] pos) G M d M1 := .mk fun Z σ H m s Qc post pins st I => (pe_one pE).run pins st σ H Qc I (h Z σ H m s Qc post)
theorem e_and {k : Bool} {rest : List Expr} (h1 : EVd X a G M (.bl k) M) (h2 : k = true → EVd X (.BoolOp .And (b :: rest) pos) G M d M) (h3 : k = false → d = .bl false) : EVd X (.BoolOp .And (a :: b :: rest) pos) G M d M := .mk fun Z σ H m s Qc post pins st I => by
  refine (pe_and pE pE).run pins st σ H Qc I ?_
  refine h1 Z σ H m s _ fun v Z1 H1 x M1 n1 r1 q1 => ?_
  obtain ⟨rfl, rfl⟩ := q1
  cases r1
  refine ⟨k, rfl, ?_⟩
  cases k with
  | true => exact iteT (h2 rfl Z1 σ H1 n1.ok (s.mono n1.ez) _ (post.aft n1))
  | false => exact iteF (post _ Z1 H1 _ _ n1 (by rw [h3 rfl]; exact .bl _) ⟨rfl, rfl⟩)
theorem e_or {k : Bool} {rest : List Expr} (h1 : EVd X a G M (.bl k) M) (h2 : k = false → EVd X (.BoolOp .Or (b :: rest) pos) G M d M) (h3 : k = true → d = .bl true) : EVd X (.BoolOp .Or (a :: b :: rest) pos) G M d M := .mk fun Z σ H m s Qc post pins st I => by
  refine (pe_or pE pE).run pins st σ H Qc I ?_
  refine h1 Z σ H m s _ fun v Z1 H1 x M1 n1 r1 q1 => ?_
  obtain ⟨rfl, rfl⟩ := q1
  cases r1
  refine ⟨k, rfl, ?_⟩
  cases k with
  | false => exact iteF (h2 rfl Z1 σ H1 n1.ok (s.mono n1.ez) _ (post.aft n1))
  | true => exact iteT (post _ Z1 H1 _ _ n1 (by rw [h3 rfl]; exact .bl _) ⟨rfl, rfl⟩)
/-- a if c else b -/
theorem e_if {k : Bool} (h : ETd X c G M k M1) (h1 : k = true → EVd X a G M1 d M2) (h2 : k = false → EVd X b G M1 d M2) : EVd X (.IfExp c a b pos) G M d M2 := .mk fun Z σ H m s Qc post pins st I => by
  refine (pe_ifExp pT pE pE).run pins st σ H Qc I ?_
  refine h Z σ H m s _ fun c Z1 H1 M1 n1 q1 => ?_
  obtain ⟨rfl, rfl⟩ := q1
  cases c with
  | true => exact iteT (h1 rfl Z1 σ H1 n1.ok (s.mono n1.ez) _ (post.aft n1))
  | false => exact iteF (h2 rfl Z1 σ H1 n1.ok (s.mono n1.ez) _ (post.aft n1))

/-! ### argument lists, displays -/
theorem a_nil : EAd X [] G M [] M := .mk fun Z σ H m s Qc post pos pins st I => pa_nil.run pos pins st σ H Qc I (post _ Z H _ M (Nx.refl m) .nil ⟨rfl, rfl⟩)
theorem a_cons {ds : List D} (h : EVd X e G M d M1) (hr : EAd X es G M1 ds M2) (hs : starEach (e :: es) X.env = (false, eval e X.env) :: starEach es X.env := by rfl) : EAd X (e :: es) G M (d :: ds) M2 := .mk fun Z σ H m s Qc post pos pins st I => by
  refine (pa_cons pE pA hs).run pos pins st σ H Qc I ?_
  refine h Z σ H m s _ fun v Z1 H1 x M1 n1 r1 q1 => ?_
  obtain ⟨rfl, rfl⟩ := q1
  refine hr Z1 σ H1 n1.ok (s.mono n1.ez) _ fun vs Z2 H2 ds M2 n2 r2 q2 => ?_
  obtain ⟨rfl, rfl⟩ := q2
  exact post _ Z2 H2 _ _ (n1.trans n2) (.cons (r1.mono n2.ez) r2) ⟨rfl, rfl⟩
theorem sz {n : Nat} (h : n ≤ 1000000) : n ≤ sizeLine := Nat.le_trans h (by decide)
theorem szl {n : Nat} (h : n < 1000000) : n < sizeLine := Nat.lt_of_lt_of_le h (by decide)
theorem e_lst {ds : List D} (h : EAd X es G M ds M1) (hl : ds.length ≤ 1000000) : EVd X (.List es pos) G M (.lst ds) M1 := .mk fun Z σ H m s Qc post pins st I => by
  refine (pe_lst pA).run pins st σ H Qc I ?_
  refine h Z σ H m s _ fun vs Z1 H1 ds M1 n1 r1 q1 => ?_
  obtain ⟨rfl, rfl⟩ := q1
  refine ⟨by rw [r1.length]; exact sz hl, fun q hq => ?_⟩
  have n2 := Nx.froze (o := .lst vs) n1.ok hq
  exact post _ _ _ _ _ (n1.trans n2) (.lst upd_same (r1.mono n2.ez)) ⟨rfl, rfl⟩
theorem e_tup {ds : List D} {k : Nat} (h : EAd X es G M ds M1) (hl : ds.length ≤ 1000000) : EVd X (.Tuple es k pos) G M (.tup ds) M1 := .mk fun Z σ H m s Qc post pins st I => by
  refine (pe_tup pA).run pins st σ H Qc I ?_
  refine h Z σ H m s _ fun vs Z1 H1 ds M1 n1 r1 q1 => ?_
  obtain ⟨rfl, rfl⟩ := q1
  refine ⟨by rw [r1.length]; exact sz hl, fun q hq => ?_⟩
  have n2 := Nx.froze (o := .tup vs) n1.ok hq
  exact post _ _ _ _ _ (n1.trans n2) (.tup (SqT.of upd_same) (r1.mono n2.ez)) ⟨rfl, rfl⟩
/-- a list that will change: a new cell -/
theorem ev_lstC {ds : List D} {Q : D → Mem → Prop} (h : EAd X es G M ds M1) (hl : ds.length ≤ 1000000) (k : ∀ q, Q (.ref q) (M1 ++ [(q, .lst ds)])) : EV X (.List es pos) G M Q := .mk fun Z σ H m s Qc post pins st I => by
  refine (pe_lst pA).run pins st σ H Qc I ?_
  refine h Z σ H m s _ fun vs Z1 H1 ds M1 n1 r1 q1 => ?_
  obtain ⟨rfl, rfl⟩ := q1
  refine ⟨by rw [r1.length]; exact sz hl, fun q hq => ?_⟩
  have n2 := Nx.cell (c := .lst ds) (o := .lst vs) n1.ok hq ⟨vs, upd_same, r1⟩
  exact post _ _ _ _ _ (n1.trans n2) (.ref q) (k q)
end
end ES

set_option Elab.async false
set_option linter.all false
set_option maxRecDepth 100000
set_option maxHeartbeats 2000000
namespace ES
open PySem PySem.Spec PyProof.Rows L2

section
variable {X : Cx} {K : PySem.W.Frag} {Z Z1 H H1 : Hp} {M M1 M2 M3 : Mem} {G : Sl} {e a b c : Expr} {es : List Expr} {d x y z : D} {xs ys ds : List D} {pos p : Pos}
/-! ### subscripts -/
theorem reps_atI {vs : List V} {ds : List D} {i : Int} (r : Reps K Z vs ds) (h : atI ds i = some d) : ∃ v, atI vs i = some v ∧ Rep K Z v d := by
  unfold atI at h ⊢
  rw [r.length]
  cases e : ixN ds.length i with
  | none => rw [e] at h; cases h
  | some j =>
    rw [e] at h
    obtain ⟨v, h1, h2⟩ := r.get (i := j) h
    exact ⟨v, h1, h2⟩
/-- x[i] gives d -/
def ID (X : Cx) (x : D) (i : Int) (M : Mem) (d : D) : Prop := ∃ r : R2, IxR X r ∧ ∀ Z H v, MOk X.K Z H M → Rep X.K Z v x → ∀ Qc : VK, (∀ u, Rep X.K Z u d → Qc u H) → r v (.int i) H Qc
theorem e_ix {i : Int} (h1 : EVd X a G M x M1) (h2 : EVd X b G M1 (.int i) M2) (h : ID X x i M2 d) (hs : PlainIx b := by intro _ _; rfl) : EVd X (.Subscript a b pos) G M d M2 := .mk fun Z σ H m s Qc post pins st I => by
  obtain ⟨r, ho, hr⟩ := h
  refine (pe_ix ho pE pE hs).run pins st σ H Qc I ?_
  refine h1 Z σ H m s _ fun v Z1 H1 x M1 n1 r1 q1 => ?_
  obtain ⟨rfl, rfl⟩ := q1
  refine h2 Z1 σ H1 n1.ok (s.mono n1.ez) _ fun u Z2 H2 y M2 n2 r2 q2 => ?_
  obtain ⟨rfl, rfl⟩ := q2
  cases r2
  exact hr Z2 H2 v n2.ok (r1.mono n2.ez) Qc fun u ru => post u Z2 H2 d _ (n1.trans n2) ru ⟨rfl, rfl⟩
theorem i_lst {i : Int} (h : atI ds i = some d) : ID X (.lst ds) i M d := ⟨_, ix_list, fun Z H v m r Qc q => by
  cases r with
  | lst h1 rs =>
    obtain ⟨u, h2, ru⟩ := reps_atI rs h
    exact ⟨_, _, i, u, rfl, rfl, SqL.of (m.ex _ _ h1), h2, q u ru⟩⟩
theorem i_tup {i : Int} (h : atI ds i = some d) : ID X (.tup ds) i M d := ⟨_, ix_tup, fun Z H v m r Qc q => by
  cases r with
  | tup h1 rs =>
    obtain ⟨u, h2, ru⟩ := reps_atI rs h
    exact ⟨_, _, i, u, rfl, rfl, ex_t m.ex h1, h2, q u ru⟩⟩
theorem i_scr {ns : List Int} {i j : Int} (h : atI ns i = some j) : ID X (.scr ns) i M (.int j) := ⟨_, ix_list, fun Z H v m r Qc q => by
  cases r with
  | scr h1 =>
    refine ⟨_, _, i, .int j, rfl, rfl, ex_l m.ex h1, ?_, q _ (.int j)⟩
    unfold atI at h ⊢
    rw [List.length_map]
    cases e : ixN ns.length i with
    | none => rw [e] at h; cases h
    | some k => rw [e] at h; simpa using h⟩
/-- of a cell, the k-th -/
theorem i_cell {i : Int} {q : Addr} (k : Nat) (hk : M[k]? = some (q, .lst ds)) (h : atI ds i = some d) : ID X (.ref q) i M d := ⟨_, ix_list, fun Z H v m r Qc qq => by
  cases r
  obtain ⟨_, vs, hv, rs⟩ := m.cell _ (List.mem_of_getElem? hk)
  obtain ⟨u, h2, ru⟩ := reps_atI rs h
  exact ⟨_, _, i, u, rfl, rfl, SqL.of hv, h2, qq u ru⟩⟩
theorem at_nat {α : Type} {xs : List α} {i : Int} {j : Nat} {v : α} (e : i = (j : Int)) (h : xs[j]? = some v) : atI xs i = some v := by rw [e]; exact atI_nat h

/-! ### x + y of lists, tuples; lists times ints -/
/-- a new list of ds: frozen, or a new cell -/
def NewL (ds : List D) (M : Mem) (Q : D → Mem → Prop) : Prop := Q (.lst ds) M ∨ ∀ q, Q (.ref q) (M ++ [(q, .lst ds)])
theorem NewL.is : NewL ds M (Is (.lst ds) M) := .inl ⟨rfl, rfl⟩
theorem NewL.post {Q : D → Mem → Prop} {Qc : VK} {q : Addr} {vs : List V} (hn : NewL ds M Q) (m : MOk K Z H M) (post : Post K Z H M Q Qc) (hq : H q = none) (r : Reps K Z vs ds) : Qc (.ref q) (upd H q (.lst vs)) := by
  rcases hn with hn | hn
  · have n := Nx.froze (o := .lst vs) m hq
    exact post _ _ _ _ _ n (.lst upd_same (r.mono n.ez)) hn
  · have n := Nx.cell (c := .lst ds) (o := .lst vs) m hq ⟨vs, upd_same, r⟩
    exact post _ _ _ _ _ n (.ref q) (hn q)
theorem ev_lst {Q : D → Mem → Prop} (h : EAd X es G M ds M1) (hl : ds.length ≤ 1000000) (k : NewL ds M1 Q) : EV X (.List es pos) G M Q := .mk fun Z σ H m s Qc post pins st I => by
  refine (pe_lst pA).run pins st σ H Qc I ?_
  refine h Z σ H m s _ fun vs Z1 H1 ds M1 n1 r1 q1 => ?_
  obtain ⟨rfl, rfl⟩ := q1
  exact ⟨by rw [r1.length]; exact sz hl, fun q hq => k.post n1.ok (post.aft n1) hq r1⟩
theorem b_cat {Q : D → Mem → Prop} (hl : xs.length + ys.length ≤ 1000000) (k : NewL (xs ++ ys) M Q) : BD X (binaryOp .Add) (.lst xs) (.lst ys) M Q := ⟨_, op_cat, fun Z H v u m r1 r2 Qc post => by
  cases r1 with
  | @lst a1 v1 _ h1 s1 =>
    cases r2 with
    | @lst a2 v2 _ h2 s2 =>
      exact ⟨_, _, _, _, rfl, rfl, m.ex _ _ h1, m.ex _ _ h2, by rw [s1.length, s2.length]; exact sz hl, fun q hq => k.post m post hq (s1.append s2)⟩⟩
theorem e_cat (h1 : EVd X a G M (.lst xs) M1) (h2 : EVd X b G M1 (.lst ys) M2) (hl : xs.length + ys.length ≤ 1000000) : EVd X (.BinOp a .Add b pos) G M (.lst (xs ++ ys)) M2 := e_bin h1 h2 (b_cat hl .is)
theorem b_catT (hl : xs.length + ys.length ≤ 1000000) : BD X (binaryOp .Add) (.tup xs) (.tup ys) M (Is (.tup (xs ++ ys)) M) := ⟨_, op_catA, fun Z H v u m r1 r2 Qc post => by
  cases r1 with
  | @tup a1 v1 _ h1 s1 =>
    cases r2 with
    | @tup a2 v2 _ h2 s2 =>
      refine ⟨_, _, _, _, rfl, rfl, ex_t m.ex h1, ex_t m.ex h2, by rw [s1.length, s2.length]; exact sz hl, fun e => ?_, fun e1 e2 => ?_, fun e1 e2 q hq => ?_⟩
      · subst e
        cases s1
        exact post _ _ _ _ _ (Nx.refl m) (.tup h2 s2) ⟨rfl, rfl⟩
      · subst e2
        cases s2
        exact post _ _ _ _ _ (Nx.refl m) (.tup h1 (by rw [List.append_nil]; exact s1)) ⟨rfl, rfl⟩
      · have n := Nx.froze (o := .tup (v1 ++ v2)) m hq
        exact post _ _ _ _ _ n (.tup (SqT.of upd_same) ((s1.mono n.ez).append (s2.mono n.ez))) ⟨rfl, rfl⟩⟩
theorem reps_rep {vs : List V} {ds : List D} (r : Reps K Z vs ds) : ∀ n : Nat, Reps K Z (List.replicate n vs).flatten (List.replicate n ds).flatten
  | 0 => .nil
  | n + 1 => by
    rw [List.replicate_succ, List.replicate_succ, List.flatten_cons, List.flatten_cons]
    exact r.append (reps_rep r n)
theorem b_rep {k : Int} {Q : D → Mem → Prop} (h1 : -(2 ^ 63) ≤ k) (h2 : k < 2 ^ 63) (hl : xs.length * k.toNat ≤ 1000000) (hn : NewL (List.replicate k.toNat xs).flatten M Q) : BD X (binaryOp .Mult) (.lst xs) (.int k) M Q := ⟨_, op_rep, fun Z H v u m r1 r2 Qc post => by
  cases r2
  cases r1 with
  | @lst a1 v1 _ g1 s1 => exact ⟨_, k, _, rfl, rfl, m.ex _ _ g1, h1, h2, by rw [s1.length]; exact sz hl, fun q hq => hn.post m post hq (reps_rep s1 _)⟩⟩
theorem flat_one {α : Type} (x : α) : ∀ n : Nat, (List.replicate n [x]).flatten = List.replicate n x
  | 0 => rfl
  | n + 1 => by rw [List.replicate_succ, List.flatten_cons, flat_one x n]; rfl
/-- [d] * n -/
theorem e_rep1 {k : Int} (h1 : EVd X a G M (.lst [d]) M1) (h2 : EVd X b G M1 (.int k) M2) (hk : 0 ≤ k ∧ k ≤ 1000000) : EVd X (.BinOp a .Mult b pos) G M (.lst (List.replicate k.toNat d)) M2 :=
  e_bin h1 h2 (b_rep (by omega) (by omega) (by simp; omega) (by rw [flat_one]; exact .is))

/-! ### slices -/
def cut (ds : List D) (lo hi : Option Int) : List D := (ds.drop (HT.sIx ds.length 0 lo)).take (HT.sIx ds.length ds.length hi - HT.sIx ds.length 0 lo)
theorem reps_cut {vs : List V} {lo hi : Option Int} (r : Reps K Z vs ds) : Reps K Z (cutV vs lo hi) (cut ds lo hi) := by
  unfold cutV cut
  rw [r.length]
  exact (r.drop _).take _
/-- an optional part of a slice -/
def sO (X : Cx) (e : Option Expr) : TO := fun σ H Q => ∀ (pins : List (Addr × Obj)) (s : Shared), Inv X pins σ H s → wpAny (model X.prog X.w) X.A (evalPart e X.env) (fun v s' => ∃ o H', Inv X pins σ H' s' ∧ IsPart v o ∧ Q o H') X.xe s
def EO (X : Cx) (e : Option Expr) (G : Sl) (M : Mem) (o : Option Int) (M' : Mem) : Prop := ∃ t : TO, PO X e t ∧ ∀ Z σ H, MOk X.K Z H M → SOk X.K Z σ G → ∀ Qc : Option Int → Hp → Prop, (∀ Z' H', Nx X.K Z H M Z' H' M' → Qc o H') → t σ H Qc
theorem o_no : EO X none G M none M := ⟨_, po_none, fun Z σ H m s Qc q => q Z H (Nx.refl m)⟩
theorem o_at {i : Int} (h : EVd X e G M (.int i) M1) : EO X (some e) G M (some i) M1 := ⟨_, po_some pE, fun Z σ H m s Qc q => h Z σ H m s _ fun v Z1 H1 x M1 n1 r1 q1 => by
  obtain ⟨rfl, rfl⟩ := q1
  cases r1
  exact ⟨i, rfl, q Z1 H1 n1⟩⟩
theorem ev_slL {lo hi : Option Expr} {l u : Option Int} {p2 : Pos} {Q : D → Mem → Prop} (h : EVd X e G M (.lst ds) M1) (h1 : EO X lo G M1 l M2) (h2 : EO X hi G M2 u M3) (k : NewL (cut ds l u) M3 Q) : EV X (.Subscript e (.Slice lo hi none p2) pos) G M Q := .mk fun Z σ H m s Qc post pins st I => by
  obtain ⟨t1, p1, q1⟩ := h1
  obtain ⟨t2, p2, q2⟩ := h2
  refine (pe_slice sl_list pE p1 p2).run pins st σ H Qc I ?_
  refine h Z σ H m s _ fun v Z1 H1 x M1 n1 r1 e1 => ?_
  obtain ⟨rfl, rfl⟩ := e1
  refine q1 Z1 σ H1 n1.ok (s.mono n1.ez) _ fun Z2 H2 n2 => ?_
  refine q2 Z2 σ H2 n2.ok ((s.mono n1.ez).mono n2.ez) _ fun Z3 H3 n3 => ?_
  cases r1 with
  | @lst a1 v1 _ g1 s1 =>
    have rs := (s1.mono n2.ez).mono n3.ez
    exact ⟨_, _, rfl, SqL.of (n3.ok.ex _ _ (n3.ez _ _ (n2.ez _ _ g1))), fun q hq => k.post n3.ok (((post.aft n1).aft n2).aft n3) hq (reps_cut rs)⟩
theorem e_slL {lo hi : Option Expr} {l u : Option Int} {p2 : Pos} (h : EVd X e G M (.lst ds) M1) (h1 : EO X lo G M1 l M2) (h2 : EO X hi G M2 u M3) : EVd X (.Subscript e (.Slice lo hi none p2) pos) G M (.lst (cut ds l u)) M3 := ev_slL h h1 h2 .is
theorem e_slT {lo hi : Option Expr} {l u : Option Int} {p2 : Pos} (h : EVd X e G M (.tup ds) M1) (h1 : EO X lo G M1 l M2) (h2 : EO X hi G M2 u M3) : EVd X (.Subscript e (.Slice lo hi none p2) pos) G M (.tup (cut ds l u)) M3 := .mk fun Z σ H m s Qc post pins st I => by
  obtain ⟨t1, p1, q1⟩ := h1
  obtain ⟨t2, p2, q2⟩ := h2
  refine (pe_slice sl_tupA pE p1 p2).run pins st σ H Qc I ?_
  refine h Z σ H m s _ fun v Z1 H1 x M1 n1 r1 e1 => ?_
  obtain ⟨rfl, rfl⟩ := e1
  refine q1 Z1 σ H1 n1.ok (s.mono n1.ez) _ fun Z2 H2 n2 => ?_
  refine q2 Z2 σ H2 n2.ok ((s.mono n1.ez).mono n2.ez) _ fun Z3 H3 n3 => ?_
  cases r1 with
  | @tup a1 v1 _ g1 s1 =>
    have rs := (s1.mono n2.ez).mono n3.ez
    have pp := ((post.aft n1).aft n2).aft n3
    refine ⟨_, _, rfl, ex_t (n2.ez.trans (n3.ez.trans n3.ok.ex)) g1, fun hw => ?_, fun hw q hq => ?_⟩
    · refine pp _ _ _ _ _ (Nx.refl n3.ok) (.tup (ex_t (n2.ez.trans n3.ez) g1) ?_) ⟨rfl, rfl⟩
      have e0 := reps_cut (lo := l) (hi := u) rs
      unfold cutV at e0
      rw [hw.1, hw.2] at e0
      simpa using e0
    · have n := Nx.froze (o := .tup (cutV v1 l u)) n3.ok hq
      exact pp _ _ _ _ _ n (.tup (SqT.of upd_same) ((reps_cut rs).mono n.ez)) ⟨rfl, rfl⟩
/-- script[:n] -/
theorem e_slS {lo hi : Option Expr} {l u : Option Int} {p2 : Pos} {ns : List Int} (h : EVd X e G M (.scr ns) M1) (h1 : EO X lo G M1 l M2) (h2 : EO X hi G M2 u M3) : EVd X (.Subscript e (.Slice lo hi none p2) pos) G M (.lst (cut (ns.map D.int) l u)) M3 := .mk fun Z σ H m s Qc post pins st I => by
  obtain ⟨t1, p1, q1⟩ := h1
  obtain ⟨t2, p2, q2⟩ := h2
  refine (pe_slice sl_list pE p1 p2).run pins st σ H Qc I ?_
  refine h Z σ H m s _ fun v Z1 H1 x M1 n1 r1 e1 => ?_
  obtain ⟨rfl, rfl⟩ := e1
  refine q1 Z1 σ H1 n1.ok (s.mono n1.ez) _ fun Z2 H2 n2 => ?_
  refine q2 Z2 σ H2 n2.ok ((s.mono n1.ez).mono n2.ez) _ fun Z3 H3 n3 => ?_
  cases r1 with
  | scr g1 => exact ⟨_, _, rfl, ex_l (n2.ez.trans (n3.ez.trans n3.ok.ex)) g1, fun q hq => NewL.is.post n3.ok (((post.aft n1).aft n2).aft n3) hq (reps_cut (reps_ints ns))⟩

/-! ### calls of built-ins, by values -/
def LD (X : Cx) (f : Value) (ds : List D) (M : Mem) (Q : D → Mem → Prop) : Prop := ∃ r : List V → Hp → VK → Prop, CallR X f r ∧ ∀ Z H vs, MOk X.K Z H M → Reps X.K Z vs ds → ∀ Qc, Post X.K Z H M Q Qc → r vs H Qc
theorem ev_fn {x : Str} {id : String} {Q : D → Mem → Prop} (ha : EA X (e :: es) G M fun ds M1 => LD X (.builtin id) ds M1 Q) (hm : X.mg x = none) (hv : bootBuiltins x = some (.builtin id)) (hg : Gl X x := by rfl) (hn : x ≠ "__name__" := by decide) (hdb : (x == ("__debug__" : Str)) = false := by decide)
    (he : starEach (e :: es) X.env = (false, eval e X.env) :: starEach es X.env := by rfl) (hpl : (backTo pos (starEach es X.env)).any (·.1) = false := by rfl) : EV X (.Call (.Name x p) (e :: es) [] pos) G M Q := .mk fun Z σ H m s Qc post pins st I => by
  refine wpAny_Call_Name_kw (ld_blt I hg hm hv ?_ hn hdb)
  refine PyProof.Rows.callWith_builtin1 (thn (pA.run pos pins st σ H (fun vs H1 => ∃ r : List V → Hp → VK → Prop, CallR X (.builtin id) r ∧ r vs H1 Qc) I ?_) fun us s1 ⟨vs, H1, I1, r1, r, hc, q1⟩ => hc pins s1 σ H1 vs us Qc I1 r1 q1) he hpl
  refine ha Z σ H m s _ fun vs Z1 H1 ds M1 n1 r1 q1 => ?_
  obtain ⟨r, hc, hr⟩ := q1
  exact ⟨r, hc, hr Z1 H1 vs n1.ok r1 Qc (post.aft n1)⟩
theorem ev_ty {x : Str} {T : String} {Q : D → Mem → Prop} (ha : EA X (e :: es) G M fun ds M1 => LD X (.type T) ds M1 Q) (hm : X.mg x = none) (hv : bootBuiltins x = some (.type T)) (hg : Gl X x := by rfl) (hn : x ≠ "__name__" := by decide) (hdb : (x == ("__debug__" : Str)) = false := by decide)
    (he : starEach (e :: es) X.env = (false, eval e X.env) :: starEach es X.env := by rfl) (hpl : (backTo pos (starEach es X.env)).any (·.1) = false := by rfl) : EV X (.Call (.Name x p) (e :: es) [] pos) G M Q := .mk fun Z σ H m s Qc post pins st I => by
  refine wpAny_Call_Name_kw (ld_blt I hg hm hv ?_ hn hdb)
  refine PyProof.Rows.callWith_type1 (thn (pA.run pos pins st σ H (fun vs H1 => ∃ r : List V → Hp → VK → Prop, CallR X (.type T) r ∧ r vs H1 Qc) I ?_) fun us s1 ⟨vs, H1, I1, r1, r, hc, q1⟩ => hc pins s1 σ H1 vs us Qc I1 r1 q1) he hpl
  refine ha Z σ H m s _ fun vs Z1 H1 ds M1 n1 r1 q1 => ?_
  obtain ⟨r, hc, hr⟩ := q1
  exact ⟨r, hc, hr Z1 H1 vs n1.ok r1 Qc (post.aft n1)⟩
theorem EAd.to {Q : List D → Mem → Prop} (h : EAd X es G M ds M1) (q : Q ds M1) : EA X es G M Q := EA.imp h fun _ _ z => by obtain ⟨rfl, rfl⟩ := z; exact q
theorem a1 (h : EVd X e G M d M1) (hs : starEach (e :: []) X.env = (false, eval e X.env) :: starEach [] X.env := by rfl) : EAd X [e] G M [d] M1 := a_cons h a_nil hs
/-- len -/
theorem bb_len : bootBuiltins "len" = some (.builtin "len") := by decide +kernel
theorem bb_abs : bootBuiltins "abs" = some (.builtin "abs") := by decide +kernel
theorem bb_sum : bootBuiltins "sum" = some (.builtin "sum") := by decide +kernel
theorem bb_max : bootBuiltins "max" = some (.builtin "max") := by decide +kernel
theorem bb_min : bootBuiltins "min" = some (.builtin "min") := by decide +kernel
theorem bb_sorted : bootBuiltins "sorted" = some (.builtin "sorted") := by decide +kernel
theorem bb_isi : bootBuiltins "isinstance" = some (.builtin "isinstance") := by decide +kernel
theorem bb_int : bootBuiltins "int" = some (.type "int") := by decide +kernel
theorem bb_list : bootBuiltins "list" = some (.type "list") := by decide +kernel
theorem bb_tuple : bootBuiltins "tuple" = some (.type "tuple") := by decide +kernel
theorem bb_bool : bootBuiltins "bool" = some (.type "bool") := by decide +kernel
theorem bb_str : bootBuiltins "str" = some (.type "str") := by decide +kernel
theorem l_len {f : Value} (h : f = .builtin "len") : ∀ {d : D} {n : Nat}, (d = .lst ds ∨ d = .tup ds) → LD X f [d] M (Is (.int (ds.length : Int)) M) := fun {d n} hd => ⟨_, by rw [h]; exact call_len_seq, fun Z H vs m r Qc post => by
  cases r with
  | cons r rr =>
    cases rr
    rcases hd with rfl | rfl
    · cases r with
      | @lst a1 v1 _ g1 s1 => exact ⟨_, _, rfl, .inl (SqL.of (m.ex _ _ g1)), by rw [s1.length]; exact post _ _ _ _ _ (Nx.refl m) (.int _) ⟨rfl, rfl⟩⟩
    · cases r with
      | @tup a1 v1 _ g1 s1 => exact ⟨_, _, rfl, .inr (ex_t m.ex g1), by rw [s1.length]; exact post _ _ _ _ _ (Nx.refl m) (.int _) ⟨rfl, rfl⟩⟩⟩
section
variable (he : starEach (e :: []) X.env = (false, eval e X.env) :: starEach [] X.env := by rfl)
theorem e_len (hm : X.mg "len" = none) (h : EVd X e G M (.lst ds) M1) (hg : Gl X "len" := by rfl) (he : starEach (e :: []) X.env = (false, eval e X.env) :: starEach [] X.env := by rfl) : EVd X (.Call (.Name "len" p) [e] [] pos) G M (.int (ds.length : Int)) M1 :=
  ev_fn ((a1 h he).to (l_len rfl (n := 0) (.inl rfl))) hm bb_len hg (by decide) (by decide) he
theorem e_lenT (hm : X.mg "len" = none) (h : EVd X e G M (.tup ds) M1) (hg : Gl X "len" := by rfl) (he : starEach (e :: []) X.env = (false, eval e X.env) :: starEach [] X.env := by rfl) : EVd X (.Call (.Name "len" p) [e] [] pos) G M (.int (ds.length : Int)) M1 :=
  ev_fn ((a1 h he).to (l_len rfl (n := 0) (.inr rfl))) hm bb_len hg (by decide) (by decide) he
theorem e_lenS {ns : List Int} (hm : X.mg "len" = none) (h : EVd X e G M (.scr ns) M1) (hg : Gl X "len" := by rfl) (he : starEach (e :: []) X.env = (false, eval e X.env) :: starEach [] X.env := by rfl) : EVd X (.Call (.Name "len" p) [e] [] pos) G M (.int (ns.length : Int)) M1 :=
  ev_fn ((a1 h he).to ⟨_, call_len_seq, fun Z H vs m r Qc post => by
    cases r with
    | cons r rr =>
      cases rr
      cases r with
      | scr g1 => exact ⟨_, _, rfl, .inl (ex_l m.ex g1), by rw [List.length_map]; exact post _ _ _ _ _ (Nx.refl m) (.int _) ⟨rfl, rfl⟩⟩⟩) hm bb_len hg (by decide) (by decide) he
/-- of a cell -/
theorem e_lenC {q : Addr} (k : Nat) (hk : M1[k]? = some (q, .lst ds)) (hm : X.mg "len" = none) (h : EVd X e G M (.ref q) M1) (hg : Gl X "len" := by rfl) (he : starEach (e :: []) X.env = (false, eval e X.env) :: starEach [] X.env := by rfl) : EVd X (.Call (.Name "len" p) [e] [] pos) G M (.int (ds.length : Int)) M1 :=
  ev_fn ((a1 h he).to ⟨_, call_len_seq, fun Z H vs m r Qc post => by
    cases r with
    | cons r rr =>
      cases rr
      cases r
      obtain ⟨_, ws, hv, rs⟩ := m.cell _ (List.mem_of_getElem? hk)
      exact ⟨_, _, rfl, .inl (SqL.of hv), by rw [rs.length]; exact post _ _ _ _ _ (Nx.refl m) (.int _) ⟨rfl, rfl⟩⟩⟩) hm bb_len hg (by decide) (by decide) he
theorem e_abs {i : Int} (hm : X.mg "abs" = none) (h : EVd X e G M (.int i) M1) (hg : Gl X "abs" := by rfl) (he : starEach (e :: []) X.env = (false, eval e X.env) :: starEach [] X.env := by rfl) : EVd X (.Call (.Name "abs" p) [e] [] pos) G M (.int (if i < 0 then -i else i)) M1 :=
  ev_fn ((a1 h he).to ⟨_, call_abs, fun Z H vs m r Qc post => by
    cases r with
    | cons r rr => cases rr; cases r; exact ⟨i, rfl, post _ _ _ _ _ (Nx.refl m) (.int _) ⟨rfl, rfl⟩⟩⟩) hm bb_abs hg (by decide) (by decide) he
theorem e_toint {i : Int} (hm : X.mg "int" = none) (h : EVd X e G M (.int i) M1) (hg : Gl X "int" := by rfl) (he : starEach (e :: []) X.env = (false, eval e X.env) :: starEach [] X.env := by rfl) : EVd X (.Call (.Name "int" p) [e] [] pos) G M (.int i) M1 :=
  ev_ty ((a1 h he).to ⟨_, call_int1, fun Z H vs m r Qc post => by
    cases r with
    | cons r rr => cases rr; cases r; exact .inl ⟨i, rfl, post _ _ _ _ _ (Nx.refl m) (.int _) ⟨rfl, rfl⟩⟩⟩) hm bb_int hg (by decide) (by decide) he
/-- list(x) -/
theorem ev_listOf {Q : D → Mem → Prop} (hm : X.mg "list" = none) (h : EVd X e G M d M1) (hd : d = .lst ds ∨ d = .tup ds) (k : NewL ds M1 Q) (hg : Gl X "list" := by rfl) (he : starEach (e :: []) X.env = (false, eval e X.env) :: starEach [] X.env := by rfl) : EV X (.Call (.Name "list" p) [e] [] pos) G M Q :=
  ev_ty ((a1 h he).to ⟨_, call_list_of, fun Z H vs m r Qc post => by
    cases r with
    | cons r rr =>
      cases rr
      rcases hd with rfl | rfl
      · cases r with
        | @lst a1 v1 _ g1 s1 => exact ⟨_, _, rfl, .inl (SqL.of (m.ex _ _ g1)), fun q hq => k.post m post hq s1⟩
      · cases r with
        | @tup a1 v1 _ g1 s1 => exact ⟨_, _, rfl, .inr (ex_t m.ex g1), fun q hq => k.post m post hq s1⟩⟩) hm bb_list hg (by decide) (by decide) he
theorem e_listOf (hm : X.mg "list" = none) (h : EVd X e G M (.lst ds) M1) (hg : Gl X "list" := by rfl) (he : starEach (e :: []) X.env = (false, eval e X.env) :: starEach [] X.env := by rfl) : EVd X (.Call (.Name "list" p) [e] [] pos) G M (.lst ds) M1 := ev_listOf hm h (.inl rfl) .is hg he
theorem e_listOfT (hm : X.mg "list" = none) (h : EVd X e G M (.tup ds) M1) (hg : Gl X "list" := by rfl) (he : starEach (e :: []) X.env = (false, eval e X.env) :: starEach [] X.env := by rfl) : EVd X (.Call (.Name "list" p) [e] [] pos) G M (.lst ds) M1 := ev_listOf hm h (.inr rfl) .is hg he
theorem ev_listC {Q : D → Mem → Prop} {q : Addr} (j : Nat) (hk : M1[j]? = some (q, .lst ds)) (hm : X.mg "list" = none) (h : EVd X e G M (.ref q) M1) (k : NewL ds M1 Q) (hg : Gl X "list" := by rfl) (he : starEach (e :: []) X.env = (false, eval e X.env) :: starEach [] X.env := by rfl) : EV X (.Call (.Name "list" p) [e] [] pos) G M Q :=
  ev_ty ((a1 h he).to ⟨_, call_list_of, fun Z H vs m r Qc post => by
    cases r with
    | cons r rr =>
      cases rr
      cases r
      obtain ⟨_, ws, hv, rs⟩ := m.cell _ (List.mem_of_getElem? hk)
      exact ⟨_, _, rfl, .inl (SqL.of hv), fun q hq => k.post m post hq rs⟩⟩) hm bb_list hg (by decide) (by decide) he
/-- tuple(x) -/
theorem e_tupOf (hm : X.mg "tuple" = none) (h : EVd X e G M d M1) (hd : d = .lst ds ∨ d = .tup ds) (hg : Gl X "tuple" := by rfl) (he : starEach (e :: []) X.env = (false, eval e X.env) :: starEach [] X.env := by rfl) : EVd X (.Call (.Name "tuple" p) [e] [] pos) G M (.tup ds) M1 :=
  ev_ty ((a1 h he).to ⟨_, call_tuple_of, fun Z H vs m r Qc post => by
    cases r with
    | cons r rr =>
      cases rr
      rcases hd with rfl | rfl
      · cases r with
        | @lst a1 v1 _ g1 s1 =>
          refine ⟨_, _, rfl, .inl ⟨SqL.of (m.ex _ _ g1), fun q hq => ?_⟩⟩
          have n := Nx.froze (o := .tup v1) m hq
          exact post _ _ _ _ _ n (.tup (SqT.of upd_same) (s1.mono n.ez)) ⟨rfl, rfl⟩
      · cases r with
        | @tup a1 v1 _ g1 s1 => exact ⟨_, _, rfl, .inr ⟨ex_t m.ex g1, post _ _ _ _ _ (Nx.refl m) (.tup g1 s1) ⟨rfl, rfl⟩⟩⟩⟩) hm bb_tuple hg (by decide) (by decide) he
/-- sum of ints -/
theorem e_sum {ns : List Int} (hc : X.calm = true) (hm : X.mg "sum" = none) (h : EVd X e G M (.lst (ns.map D.int)) M1) (hg : Gl X "sum" := by rfl) (he : starEach (e :: []) X.env = (false, eval e X.env) :: starEach [] X.env := by rfl) : EVd X (.Call (.Name "sum" p) [e] [] pos) G M (.int ns.sum) M1 :=
  ev_fn ((a1 h he).to ⟨_, cr_sum hc, fun Z H vs m r Qc post => by
    cases r with
    | cons r rr =>
      cases rr
      cases r with
      | @lst a1 v1 _ g1 s1 =>
        have := s1.ints
        subst this
        exact ⟨_, ns, rfl, SqL.of (m.ex _ _ g1), post _ _ _ _ _ (Nx.refl m) (.int _) ⟨rfl, rfl⟩⟩⟩) hm bb_sum hg (by decide) (by decide) he
end
end
end ES

set_option Elab.async false
set_option linter.all false
set_option maxRecDepth 100000
set_option maxHeartbeats 2000000
namespace ES
open PySem PySem.Spec PyProof.Rows L2

section
variable {X : Cx} {K : PySem.W.Frag} {Z Z1 H H1 : Hp} {M M1 M2 M3 : Mem} {G : Sl} {e a b c : Expr} {es : List Expr} {d x y z : D} {xs ys ds : List D} {pos p : Pos} {E : AE} {rest : List Stmt} {st : Stmt}
/-! ### statements -/
theorem sv_nil (h : E.nx G M) : SV X [] G M E := .mk fun Z σ H m s D0 ok pins stt I => pss_nil.run pins stt σ H D0 I (ok.nx σ Z H G M (Nx.refl m) s h)
theorem sv_cons (h : SV1 X st G M { E with nx := fun G1 M1 => SV X rest G1 M1 E }) : SV X (st :: rest) G M E := .mk fun Z σ H m s D0 ok pins stt I => by
  refine (pss_cons pS pSs).run pins stt σ H D0 I ?_
  refine h Z σ H m s _ ⟨fun σ' Z' H' G' M' n s' q => q Z' σ' H' n.ok s' D0 (ok.aft n), ok.rt, ok.bk, ok.ct, ok.ex⟩
theorem SV1.of {t : TS} (hp : PS X st t) (h : ∀ Z σ H, MOk X.K Z H M → SOk X.K Z σ G → ∀ D0, EOk X Z H M E D0 → t D0 σ H) : SV1 X st G M E := .mk fun Z σ H m s D0 ok pins stt I => hp.run pins stt σ H D0 I (h Z σ H m s D0 ok)
theorem sv_ret (h : EV X e G M E.rt) : SV X (.Return (some e) pos :: rest) G M E := sv_cons (SV1.of (ps_ret pE) fun Z σ H m s D0 ok => h Z σ H m s _ fun v Z' H' d M' n r q => ok.rt v Z' H' d M' n r q)
theorem sv_retN (h : E.rt .non M) : SV X (.Return none pos :: rest) G M E := sv_cons (SV1.of ps_retN fun Z σ H m s D0 ok => ok.rt _ Z H _ M (Nx.refl m) .non h)
theorem sv_pass (h : SV X rest G M E) : SV X (.Pass pos :: rest) G M E := sv_cons (SV1.of ps_pass fun Z σ H m s D0 ok => ok.nx σ Z H G M (Nx.refl m) s h)
theorem sv_break (h : E.bk G M) : SV X (.Break pos :: rest) G M E := sv_cons (SV1.of ps_break fun Z σ H m s D0 ok => ok.bk σ Z H G M (Nx.refl m) s h)
theorem sv_cont (h : E.ct G M) : SV X (.Continue pos :: rest) G M E := sv_cons (SV1.of ps_continue fun Z σ H m s D0 ok => ok.ct σ Z H G M (Nx.refl m) s h)
theorem sv_expr (h : EV X e G M fun _ M1 => SV X rest G M1 E) (hs : swapsWith e none pos.line X.env = pure false := by rfl) : SV X (.Expr e pos :: rest) G M E :=
  sv_cons (SV1.of (ps_expr pE hs) fun Z σ H m s D0 ok => h Z σ H m s _ fun v Z' H' d M' n r q => ok.nx σ Z' H' G M' n (s.mono n.ez) q)
/-- x = e -/
theorem sv_set (i : Nat) {xn : Str} {p' : Pos} (nd : X.N.Nodup) (h : EV X e G M fun d M1 => SV X rest (G.set i (some d)) M1 E) (hi : X.N[i]? = some xn := by rfl) (hx : Loc X.env.scope xn := by first | exact Or.inl rfl | exact Or.inr rfl)
    (hs : swapsWith e (some (.Name xn p')) pos.line X.env = pure false := by rfl) (hf : X.fn xn = true ∨ X.env.scope.names.lookup xn = some .local := by first | exact .inl rfl | exact .inr rfl) : SV X (.Assign [.Name xn p'] e pos :: rest) G M E :=
  sv_cons (SV1.of (ps_set nd hi hx pE hs hf) fun Z σ H m s D0 ok => h Z σ H m s _ fun v Z' H' d M' n r q => ok.nx _ Z' H' _ M' n ((s.mono n.ez).set i r) q)
/-- the value given once more by an equal one -/
theorem sv_setd (i : Nat) (d' : D) {xn : Str} {p' : Pos} (nd : X.N.Nodup) (h : EVd X e G M d M1) (hd : d = d') (k : SV X rest (G.set i (some d')) M1 E) (hi : X.N[i]? = some xn := by rfl) (hx : Loc X.env.scope xn := by first | exact Or.inl rfl | exact Or.inr rfl)
    (hs : swapsWith e (some (.Name xn p')) pos.line X.env = pure false := by rfl) (hf : X.fn xn = true ∨ X.env.scope.names.lookup xn = some .local := by first | exact .inl rfl | exact .inr rfl) : SV X (.Assign [.Name xn p'] e pos :: rest) G M E :=
  sv_set i nd (h.to (by rw [hd]; exact k)) hi hx hs hf
/-- x += e, ints -/
theorem sv_augI {op : Operator} {f : Int → Int → Int} (i : Nat) {u w : Int} {xn : Str} {p' : Pos} (ho : PIp X op (ipI f)) (nd : X.N.Nodup) (hG : G[i]? = some (some (.int u))) (h : EVd X e G M (.int w) M1) (k : SV X rest (G.set i (some (.int (f u w)))) M1 E) (hi : X.N[i]? = some xn := by rfl) (hx : Loc X.env.scope xn := by first | exact Or.inl rfl | exact Or.inr rfl)
    (hf : X.fn xn = true ∨ X.env.scope.names.lookup xn = some .local := by first | exact .inl rfl | exact .inr rfl) : SV X (.AugAssign (.Name xn p') op e pos :: rest) G M E :=
  sv_cons (SV1.of (ps_aug nd hi hx pE ho hf) fun Z σ H m s D0 ok => by
    obtain ⟨v, hv, r⟩ := s.at_ i _ hG
    cases r
    refine ⟨_, hv, h Z σ H m s _ fun v Z' H' d M' n r q => ?_⟩
    obtain ⟨rfl, rfl⟩ := q
    cases r
    exact ⟨u, w, rfl, rfl, ok.nx _ Z' H' _ _ n ((s.mono n.ez).set i (.int _)) k⟩)
/-- if -/
theorem sv_if {A B : List Stmt} (h : ET X c G M fun k M1 => if k = true then SV X A G M1 { E with nx := fun G' M' => SV X rest G' M' E } else SV X B G M1 { E with nx := fun G' M' => SV X rest G' M' E }) : SV X (.If c A B pos :: rest) G M E :=
  sv_cons (SV1.of (ps_if pT pSs pSs) fun Z σ H m s D0 ok => h Z σ H m s _ fun k Z' H' M' n q => by
    cases k with
    | true =>
      rw [if_pos rfl] at q
      exact iteT (q Z' σ H' n.ok (s.mono n.ez) D0 (ok.aft n))
    | false =>
      rw [if_neg Bool.false_ne_true] at q
      exact iteF (q Z' σ H' n.ok (s.mono n.ez) D0 (ok.aft n)))
theorem sv_ifd {A B : List Stmt} {k : Bool} (h : ETd X c G M k M1) (h1 : k = true → SV X A G M1 { E with nx := fun G' M' => SV X rest G' M' E }) (h2 : k = false → SV X B G M1 { E with nx := fun G' M' => SV X rest G' M' E }) : SV X (.If c A B pos :: rest) G M E :=
  sv_if (h.to (by
    cases k with
    | true => exact iteT (h1 rfl)
    | false => exact iteF (h2 rfl)))
/-- the ways joined: J holds behind both -/
theorem sv_ifJ {A B : List Stmt} {k : Bool} (J : Sl → Mem → Prop) (h : ETd X c G M k M1) (h1 : k = true → SV X A G M1 { E with nx := fun G' M' => ∃ G0, Le G0 G' ∧ J G0 M' }) (h2 : k = false → SV X B G M1 { E with nx := fun G' M' => ∃ G0, Le G0 G' ∧ J G0 M' })
    (hr : ∀ G' M', J G' M' → SV X rest G' M' E) : SV X (.If c A B pos :: rest) G M E :=
  sv_ifd h (fun e => (h1 e).imp (fun _ _ ⟨_, l, j⟩ => (hr _ _ j).le l) (fun _ _ z => z) (fun _ _ z => z) (fun _ _ z => z) fun _ _ _ _ z => z) (fun e => (h2 e).imp (fun _ _ ⟨_, l, j⟩ => (hr _ _ j).le l) (fun _ _ z => z) (fun _ _ z => z) (fun _ _ z => z) fun _ _ _ _ z => z)

/-! ### cells changed -/
/-- xs.append(e), xs a cell, the k-th behind e -/
theorem ev_app {tq : Addr} {apos cpos : Pos} {e : Expr} {Q : D → Mem → Prop} (ho : EVd X a G M (.ref tq) M) (h : EV X e G M fun d M1 => ∃ (k : Nat) (ds : List D), M1[k]? = some (tq, Cell.lst ds) ∧ ds.length < 1000000 ∧ Q .non (M1.set k (tq, Cell.lst (ds ++ [d])))) (hM : ∃ (k : Nat) (ds : List D), M[k]? = some (tq, Cell.lst ds))
    (hbase : attributeBase a "append" X.env (eval a X.env) = eval a X.env := by rfl)
    (hfew : ((backTo cpos (starEach (e :: []) X.env)).all (fun x => !x.1) && (backToKw cpos (keywordEach [] X.env)).all (fun x => x.1.isSome)
      && decide ((e :: ([] : List Expr)).length + ([] : List Keyword).length + (if ([] : List Keyword).isEmpty then 0 else 1) < 30)) = true := by rfl)
    (hline : (apos.endLine == cpos.line) = true := by rfl) (hs : starEach (e :: []) X.env = (false, eval e X.env) :: starEach [] X.env := by rfl) (hplain : (backTo cpos (starEach [] X.env)).any (·.1) = false := by rfl) :
    EV X (.Call (.Attribute a "append" apos) [e] [] cpos) G M Q := .mk fun Z σ H m s Qc post pins st I => by
  refine (pe_bm PySem.F.plainAttrs_list PySem.F.slot_list_append PySem.F.type_list_append mt_append pE (pa_cons pE pa_nil hs) hbase hfew hline hs hplain).run pins st σ H Qc I ?_
  refine ho Z σ H m s _ fun v Z1 H1 x M1 n1 r1 q1 => ?_
  obtain ⟨rfl, rfl⟩ := q1
  cases r1
  obtain ⟨k0, ds0, hk0⟩ := hM
  obtain ⟨_, vs0, hv0, rs0⟩ := n1.ok.cell _ (List.mem_of_getElem? hk0)
  refine ⟨.inl ⟨rfl, _, SqL.of hv0⟩, ?_⟩
  refine h Z1 σ H1 n1.ok (s.mono n1.ez) _ fun u Z2 H2 d M2 n2 r2 q2 => ?_
  obtain ⟨k, ds, hk, hl, q⟩ := q2
  obtain ⟨_, vs, hv, rs⟩ := n2.ok.cell _ (List.mem_of_getElem? hk)
  refine ⟨_, _, _, rfl, rfl, hv, by rw [rs.length]; exact szl hl, ?_⟩
  have n3 := Nx.write (o := .lst (vs ++ [u])) (c' := .lst (ds ++ [d])) n2.ok hk ⟨_, upd_same, rs.append (.cons r2 .nil)⟩
  exact post _ _ _ _ _ ((n1.trans n2).trans n3) .non q
/-- xs.pop(i) of a cell -/
theorem ev_popAt {tq : Addr} {apos cpos : Pos} {e : Expr} {Q : D → Mem → Prop} (ho : EVd X a G M (.ref tq) M) (h : EV X e G M fun d M1 => ∃ (k : Nat) (ds : List D) (i : Int) (j : Nat) (d' : D), d = .int i ∧ M1[k]? = some (tq, Cell.lst ds) ∧ i = (j : Int) ∧ j < 1000000 ∧ ds[j]? = some d' ∧ Q d' (M1.set k (tq, Cell.lst (ds.eraseIdx j)))) (hM : ∃ (k : Nat) (ds : List D), M[k]? = some (tq, Cell.lst ds))
    (hbase : attributeBase a "pop" X.env (eval a X.env) = eval a X.env := by rfl)
    (hfew : ((backTo cpos (starEach (e :: []) X.env)).all (fun x => !x.1) && (backToKw cpos (keywordEach [] X.env)).all (fun x => x.1.isSome)
      && decide ((e :: ([] : List Expr)).length + ([] : List Keyword).length + (if ([] : List Keyword).isEmpty then 0 else 1) < 30)) = true := by rfl)
    (hline : (apos.endLine == cpos.line) = true := by rfl) (hs : starEach (e :: []) X.env = (false, eval e X.env) :: starEach [] X.env := by rfl) (hplain : (backTo cpos (starEach [] X.env)).any (·.1) = false := by rfl) :
    EV X (.Call (.Attribute a "pop" apos) [e] [] cpos) G M Q := .mk fun Z σ H m s Qc post pins st I => by
  refine (pe_bm PySem.F.plainAttrs_list PySem.F.slot_list_pop PySem.F.type_list_pop mt_popAt pE (pa_cons pE pa_nil hs) hbase hfew hline hs hplain).run pins st σ H Qc I ?_
  refine ho Z σ H m s _ fun v Z1 H1 x M1 n1 r1 q1 => ?_
  obtain ⟨rfl, rfl⟩ := q1
  cases r1
  obtain ⟨k0, ds0, hk0⟩ := hM
  obtain ⟨_, vs0, hv0, rs0⟩ := n1.ok.cell _ (List.mem_of_getElem? hk0)
  refine ⟨.inl ⟨rfl, _, SqL.of hv0⟩, ?_⟩
  refine h Z1 σ H1 n1.ok (s.mono n1.ez) _ fun u Z2 H2 d M2 n2 r2 q2 => ?_
  obtain ⟨k, ds, i, j, d', rfl, hk, rfl, hj, hd', q⟩ := q2
  cases r2
  obtain ⟨_, vs, hv, rs⟩ := n2.ok.cell _ (List.mem_of_getElem? hk)
  obtain ⟨w, hw, rw'⟩ := rs.get hd'
  have hlt : j < vs.length := (List.getElem?_eq_some_iff.mp hw).1
  refine ⟨_, _, _, j, w, rfl, rfl, hv, by omega, by omega, ?_, hw, ?_⟩
  · have e1 : ¬ ((j : Int) < 0) := by omega
    simp only [seqIndex?, if_neg e1]
    rw [if_pos (by simp; omega)]
    simp
  have n3 := Nx.write (o := .lst (vs.eraseIdx j)) (c' := .lst (ds.eraseIdx j)) n2.ok hk ⟨_, upd_same, rs.eraseIdx j⟩
  exact post _ _ _ _ _ ((n1.trans n2).trans n3) (rw'.mono (Ex.refl _)) q
/-- xs.pop() of a cell -/
theorem ev_pop {tq : Addr} {apos cpos : Pos} {Q : D → Mem → Prop} (k : Nat) (ho : EVd X a G M (.ref tq) M1) (hk : M1[k]? = some (tq, Cell.lst ds)) (hd : ds[ds.length - 1]? = some d) (q : Q d (M1.set k (tq, Cell.lst ds.dropLast)))
    (hbase : attributeBase a "pop" X.env (eval a X.env) = eval a X.env := by rfl) (hline : (apos.endLine == cpos.line) = true := by rfl) :
    EV X (.Call (.Attribute a "pop" apos) [] [] cpos) G M Q := .mk fun Z σ H m s Qc post pins st I => by
  refine (pe_bm0 PySem.F.plainAttrs_list PySem.F.slot_list_pop PySem.F.type_list_pop mt_pop pE hbase hline).run pins st σ H Qc I ?_
  refine ho Z σ H m s _ fun v Z1 H1 x M1 n1 r1 q1 => ?_
  obtain ⟨rfl, rfl⟩ := q1
  cases r1
  obtain ⟨_, vs, hv, rs⟩ := n1.ok.cell _ (List.mem_of_getElem? hk)
  obtain ⟨w, hw, rw'⟩ := rs.get hd
  refine ⟨.inl ⟨rfl, _, SqL.of hv⟩, _, _, w, rfl, rfl, hv, by rw [rs.length]; exact hw, ?_⟩
  have rd : Reps X.K Z1 vs.dropLast ds.dropLast := by
    rw [List.dropLast_eq_take, List.dropLast_eq_take, rs.length]
    exact rs.take _
  have n3 := Nx.write (o := .lst vs.dropLast) (c' := .lst ds.dropLast) n1.ok hk ⟨_, upd_same, rd⟩
  exact post _ _ _ _ _ (n1.trans n3) rw' q
/-- xs[i] = e, xs a cell -/
theorem sv_setItem {tq : Addr} {o ie : Expr} {spos : Pos} {j : Nat} (k : Nat) (h : EVd X e G M d M1) (ho : EVd X o G M1 (.ref tq) M2) (hi : EVd X ie G M2 (.int (j : Int)) M3) (hk : M3[k]? = some (tq, Cell.lst ds)) (hj : j < ds.length) (kk : SV X rest G (M3.set k (tq, Cell.lst (ds.set j d))) E)
    (ha : ∀ v, assign (.Subscript o ie pos) X.env v = (do
      let ov ← holding [v] (eval o X.env)
      let iv ← holding [v, ov] (eval ie X.env)
      standAt pos
      holding [v, ov, iv] (setItem ov iv v)
      release [v, ov, iv] []) := by intro _; rfl)
    (hs : swapsWithSole [.Subscript o ie pos] e spos.line X.env = pure false := by rfl) (hw : swappedStores [.Subscript o ie pos] e X.env = pure none := by rfl) (h1 : (assignEach [.Subscript o ie pos] X.env).map (·.2) = [assign (.Subscript o ie pos) X.env] := by rfl) :
    SV X (.Assign [.Subscript o ie pos] e spos :: rest) G M E :=
  sv_cons (SV1.of (ps_asg pE (pg_sub pE pE set_list ha) hs hw h1) fun Z σ H m s D0 ok => by
    refine h Z σ H m s _ fun v Z1 H1 d M1 n1 r1 q1 => ?_
    obtain ⟨rfl, rfl⟩ := q1
    refine ho Z1 σ H1 n1.ok (s.mono n1.ez) _ fun u Z2 H2 y M2 n2 r2 q2 => ?_
    obtain ⟨rfl, rfl⟩ := q2
    cases r2
    refine hi Z2 σ H2 n2.ok ((s.mono n1.ez).mono n2.ez) _ fun u Z3 H3 y M3 n3 r3 q3 => ?_
    obtain ⟨rfl, rfl⟩ := q3
    cases r3
    obtain ⟨_, vs, hv, rs⟩ := n3.ok.cell _ (List.mem_of_getElem? hk)
    have hl : j < vs.length := by rw [rs.length]; exact hj
    refine ⟨_, vs, (j : Int), j, rfl, rfl, hv, ?_, ?_⟩
    · unfold ixN
      rw [if_pos (by omega), if_pos (by omega)]
      simp
    have r1' := (r1.mono n2.ez).mono n3.ez
    have n4 := Nx.write (o := .lst (vs.set j v)) (c' := .lst (ds.set j d)) n3.ok hk ⟨_, upd_same, rs.set j r1'⟩
    exact ok.nx σ _ _ G _ (((n1.trans n2).trans n3).trans n4) ((((s.mono n1.ez).mono n2.ez).mono n3.ez).mono n4.ez) kk)

/-! ### targets -/
theorem av_name (i : Nat) {xn : Str} {Q : Sl → Mem → Prop} (nd : X.N.Nodup) (q : Q (G.set i (some d)) M) (hi : X.N[i]? = some xn := by rfl) (hx : Loc X.env.scope xn := by first | exact Or.inl rfl | exact Or.inr rfl)
    (hf : X.fn xn = true ∨ X.env.scope.names.lookup xn = some .local := by first | exact .inl rfl | exact .inr rfl) : AV X (.Name xn p) d G M Q := .mk fun Z σ H v m s r Qc post pins st u I rv =>
  (pg_name nd hi hx hf).run pins st σ H v u Qc I rv (post _ Z H _ M (Nx.refl m) (s.set i r) q)
/-- the targets of a tuple, one after another -/
def AVs (X : Cx) (ts : List Expr) (ds : List D) (G : Sl) (M : Mem) (Q : Sl → Mem → Prop) : Prop := ∃ t : TGs, PGs X ts t ∧ ∀ Z σ H vs, MOk X.K Z H M → SOk X.K Z σ G → Reps X.K Z vs ds →
  ∀ Qc : L2.St → Hp → Prop, (∀ σ' Z' H' G' M', Nx X.K Z H M Z' H' M' → SOk X.K Z' σ' G' → Q G' M' → Qc σ' H') → t vs σ H Qc
theorem avs_nil {Q : Sl → Mem → Prop} (q : Q G M) : AVs X [] [] G M Q := ⟨_, pgs_nil, fun Z σ H vs m s r Qc post => by cases r; exact ⟨rfl, post σ Z H G M (Nx.refl m) s q⟩⟩
/-- two names -/
theorem av_two (i j : Nat) {x1 x2 : Str} {p1 p2 : Pos} {d1 d2 : D} {kk : Nat} {Q : Sl → Mem → Prop} (hc : X.calm = true) (nd : X.N.Nodup) (q : Q ((G.set i (some d1)).set j (some d2)) M) (hi : X.N[i]? = some x1 := by rfl) (hj : X.N[j]? = some x2 := by rfl)
    (hx : Loc X.env.scope x1 := by first | exact Or.inl rfl | exact Or.inr rfl) (hy : Loc X.env.scope x2 := by first | exact Or.inl rfl | exact Or.inr rfl)
    (hf : X.fn x1 = true ∨ X.env.scope.names.lookup x1 = some .local := by first | exact .inl rfl | exact .inr rfl) (hf2 : X.fn x2 = true ∨ X.env.scope.names.lookup x2 = some .local := by first | exact .inl rfl | exact .inr rfl)
    (hs : (assignEach [Expr.Name x1 p1, .Name x2 p2] X.env).map (·.2) = assign (.Name x1 p1) X.env :: (assignEach [Expr.Name x2 p2] X.env).map (·.2) := by rfl) (hs2 : (assignEach [Expr.Name x2 p2] X.env).map (·.2) = assign (.Name x2 p2) X.env :: (assignEach [] X.env).map (·.2) := by rfl)
    (hn : (assignEach [Expr.Name x1 p1, .Name x2 p2] X.env).length = 2 := by rfl) (hst : (assignEach [Expr.Name x1 p1, .Name x2 p2] X.env).findIdx? (·.1) = none := by rfl) :
    AV X (.Tuple [.Name x1 p1, .Name x2 p2] kk pos) (.tup [d1, d2]) G M Q := .mk fun Z σ H v m s r Qc post pins st u I rv => by
  refine (pg_tup (n := 2) hc (pgs_cons (pg_name nd hi hx hf) (pgs_cons (pg_name nd hj hy hf2) pgs_nil hs2) hs) hn hst).run pins st σ H v u Qc I rv ?_
  cases r with
  | @tup a vs _ h1 rs =>
    cases rs with
    | cons r1 rs =>
      cases rs with
      | cons r2 rs =>
        cases rs
        exact ⟨a, _, rfl, ex_t m.ex h1, rfl, _, _, rfl, _, _, rfl, rfl, post _ Z H _ M (Nx.refl m) ((s.set i r1).set j r2) q⟩
theorem av_three (i j l : Nat) {x1 x2 x3 : Str} {p1 p2 p3 : Pos} {d1 d2 d3 : D} {kk : Nat} {Q : Sl → Mem → Prop} (hc : X.calm = true) (nd : X.N.Nodup) (q : Q (((G.set i (some d1)).set j (some d2)).set l (some d3)) M) (hi : X.N[i]? = some x1 := by rfl) (hj : X.N[j]? = some x2 := by rfl) (hl : X.N[l]? = some x3 := by rfl)
    (hx : Loc X.env.scope x1 := by first | exact Or.inl rfl | exact Or.inr rfl) (hy : Loc X.env.scope x2 := by first | exact Or.inl rfl | exact Or.inr rfl) (hz : Loc X.env.scope x3 := by first | exact Or.inl rfl | exact Or.inr rfl)
    (hf : X.fn x1 = true ∨ X.env.scope.names.lookup x1 = some .local := by first | exact .inl rfl | exact .inr rfl) (hf2 : X.fn x2 = true ∨ X.env.scope.names.lookup x2 = some .local := by first | exact .inl rfl | exact .inr rfl) (hf3 : X.fn x3 = true ∨ X.env.scope.names.lookup x3 = some .local := by first | exact .inl rfl | exact .inr rfl)
    (hs : (assignEach [Expr.Name x1 p1, .Name x2 p2, .Name x3 p3] X.env).map (·.2) = assign (.Name x1 p1) X.env :: (assignEach [Expr.Name x2 p2, .Name x3 p3] X.env).map (·.2) := by rfl) (hs2 : (assignEach [Expr.Name x2 p2, .Name x3 p3] X.env).map (·.2) = assign (.Name x2 p2) X.env :: (assignEach [Expr.Name x3 p3] X.env).map (·.2) := by rfl)
    (hs3 : (assignEach [Expr.Name x3 p3] X.env).map (·.2) = assign (.Name x3 p3) X.env :: (assignEach [] X.env).map (·.2) := by rfl)
    (hn : (assignEach [Expr.Name x1 p1, .Name x2 p2, .Name x3 p3] X.env).length = 3 := by rfl) (hst : (assignEach [Expr.Name x1 p1, .Name x2 p2, .Name x3 p3] X.env).findIdx? (·.1) = none := by rfl) :
    AV X (.Tuple [.Name x1 p1, .Name x2 p2, .Name x3 p3] kk pos) (.tup [d1, d2, d3]) G M Q := .mk fun Z σ H v m s r Qc post pins st u I rv => by
  refine (pg_tup (n := 3) hc (pgs_cons (pg_name nd hi hx hf) (pgs_cons (pg_name nd hj hy hf2) (pgs_cons (pg_name nd hl hz hf3) pgs_nil hs3) hs2) hs) hn hst).run pins st σ H v u Qc I rv ?_
  cases r with
  | @tup a vs _ h1 rs =>
    cases rs with
    | cons r1 rs =>
      cases rs with
      | cons r2 rs =>
        cases rs with
        | cons r3 rs =>
          cases rs
          exact ⟨a, _, rfl, ex_t m.ex h1, rfl, _, _, rfl, _, _, rfl, _, _, rfl, rfl, post _ Z H _ M (Nx.refl m) (((s.set i r1).set j r2).set l r3) q⟩
/-- target = e -/
theorem sv_asg {tg : Expr} (h : EV X e G M fun d M1 => AV X tg d G M1 fun G' M' => SV X rest G' M' E) (hs : swapsWithSole [tg] e pos.line X.env = pure false := by rfl) (hw : swappedStores [tg] e X.env = pure none := by rfl)
    (h1 : (assignEach [tg] X.env).map (·.2) = [assign tg X.env] := by rfl) : SV X (.Assign [tg] e pos :: rest) G M E :=
  sv_cons (SV1.of (ps_asg pE pG hs hw h1) fun Z σ H m s D0 ok => h Z σ H m s _ fun v Z1 H1 d M1 n1 r1 q1 =>
    q1 Z1 σ H1 v n1.ok (s.mono n1.ez) r1 _ fun σ' Z' H' G' M' n2 s2 q => ok.nx σ' Z' H' G' M' (n1.trans n2) s2 q)

/-! ### loops -/
/-- what a for loop walks: ds, which stands still while the cells kc do; the memory is M' at its begin -/
def IT (X : Cx) (tg iter : Expr) (G : Sl) (M : Mem) (ds : List D) (M' : Mem) (kc : Mem) : Prop := ∃ wi : TI, PI X tg iter wi ∧ ∀ Z σ H, MOk X.K Z H M → SOk X.K Z σ G → ∀ R : It → Hp → Prop,
  (∀ Z1 H1 (J : It), Nx X.K Z H M Z1 H1 M' →
    (∀ (i : Nat) Z2 H2 M2, Nx X.K Z1 H1 M' Z2 H2 M2 → (∀ c ∈ kc, c ∈ M2) → i < ds.length → J.go i H2 ∧ ∀ v H3, J.yld i H2 v H3 → H3 = H2 ∧ ∃ d, ds[i]? = some d ∧ Rep X.K Z2 v d) →
    (∀ Z2 H2 M2, Nx X.K Z1 H1 M' Z2 H2 M2 → (∀ c ∈ kc, c ∈ M2) → J.stop ds.length H2) → R J H1) → wi σ H R
theorem it_list {tg : Expr} (h : EVd X e G M (.lst ds) M1) : IT X tg e G M ds M1 [] := ⟨_, pi_list pE, fun Z σ H m s R q => h Z σ H m s _ fun v Z1 H1 x M1 n1 r1 q1 => by
  obtain ⟨rfl, rfl⟩ := q1
  cases r1 with
  | @lst a vs _ h1 rs =>
    have at2 : ∀ {Z2 H2 M2}, Nx X.K Z1 H1 M1 Z2 H2 M2 → SqL X.K H2 a vs := fun n2 => SqL.of (n2.ok.ex _ _ (n2.ez _ _ h1))
    refine ⟨a, rfl, ⟨vs, SqL.of (n1.ok.ex _ _ h1)⟩, q Z1 H1 (Itl X.K a) n1 (fun i Z2 H2 M2 n2 _ hi => ?_) fun Z2 H2 M2 n2 _ => ⟨vs, at2 n2, by rw [rs.length]; exact Nat.le_refl _⟩⟩
    have hv : i < vs.length := by rw [rs.length]; exact hi
    refine ⟨⟨vs, vs[i], at2 n2, by simp [hv]⟩, fun v H3 ⟨e3, y⟩ => ⟨e3, ?_⟩⟩
    subst e3
    have := y vs (at2 n2)
    obtain ⟨d, h2, h3⟩ := rs.get' this
    exact ⟨d, h2, h3.mono n2.ez⟩⟩
theorem it_tup {tg : Expr} (h : EVd X e G M (.tup ds) M1) : IT X tg e G M ds M1 [] := ⟨_, pi_tup pE, fun Z σ H m s R q => h Z σ H m s _ fun v Z1 H1 x M1 n1 r1 q1 => by
  obtain ⟨rfl, rfl⟩ := q1
  cases r1 with
  | @tup a vs _ h1 rs =>
    have at2 : ∀ {Z2 H2 M2}, Nx X.K Z1 H1 M1 Z2 H2 M2 → SqT X.K H2 a vs := fun n2 => ex_t (n2.ez.trans n2.ok.ex) h1
    refine ⟨a, rfl, ⟨vs, ex_t n1.ok.ex h1⟩, q Z1 H1 (Itt X.K a) n1 (fun i Z2 H2 M2 n2 _ hi => ?_) fun Z2 H2 M2 n2 _ => ⟨vs, at2 n2, by rw [rs.length]; exact Nat.le_refl _⟩⟩
    have hv : i < vs.length := by rw [rs.length]; exact hi
    refine ⟨⟨vs, vs[i], at2 n2, by simp [hv]⟩, fun v H3 ⟨e3, y⟩ => ⟨e3, ?_⟩⟩
    subst e3
    have := y vs (at2 n2)
    obtain ⟨d, h2, h3⟩ := rs.get' this
    exact ⟨d, h2, h3.mono n2.ez⟩⟩
/-- a list that is read: frozen, or a cell -/
def LA (M : Mem) (d : D) (ds : List D) (kc : Mem) : Prop := (d = .lst ds ∧ kc = []) ∨ ∃ q, d = .ref q ∧ kc = [(q, .lst ds)] ∧ (q, Cell.lst ds) ∈ M
theorem LA.fz : LA M (.lst ds) ds [] := .inl ⟨rfl, rfl⟩
theorem LA.cl {q : Addr} (h : (q, Cell.lst ds) ∈ M) : LA M (.ref q) ds [(q, .lst ds)] := .inr ⟨q, rfl, rfl, h⟩
theorem LA.at_ {kc : Mem} {v : V} (l : LA M d ds kc) (m : MOk K Z H M) (r : Rep K Z v d) : ∃ a vs, v = .ref a ∧ H a = some (.lst vs) ∧ Reps K Z vs ds := by
  rcases l with ⟨rfl, rfl⟩ | ⟨q, rfl, rfl, hq⟩
  · cases r with
    | @lst a vs _ h1 rs => exact ⟨a, vs, rfl, m.ex _ _ h1, rs⟩
  · cases r
    obtain ⟨_, vs, hv, rs⟩ := m.cell _ hq
    exact ⟨q, vs, rfl, hv, rs⟩
theorem it_la {tg : Expr} {kc : Mem} (h : EVd X e G M d M1) (l : LA M1 d ds kc) : IT X tg e G M ds M1 kc := by
  rcases l with ⟨rfl, rfl⟩ | ⟨q, rfl, rfl, hq⟩
  · exact it_list h
  · refine ⟨_, pi_list pE, fun Z σ H m s R qq => h Z σ H m s _ fun v Z1 H1 x M1 n1 r1 q1 => ?_⟩
    obtain ⟨rfl, rfl⟩ := q1
    cases r1
    have at2 : ∀ {Z2 H2 M2}, Nx X.K Z1 H1 M1 Z2 H2 M2 → (∀ c ∈ [(q, Cell.lst ds)], c ∈ M2) → ∃ vs, H2 q = some (.lst vs) ∧ Reps X.K Z2 vs ds := fun n2 hc => (n2.ok.cell (q, Cell.lst ds) (hc _ List.mem_cons_self)).2
    obtain ⟨_, vs, hv, rs⟩ := n1.ok.cell _ hq
    refine ⟨q, rfl, ⟨vs, SqL.of hv⟩, qq Z1 H1 (Itl X.K q) n1 (fun i Z2 H2 M2 n2 hc hi => ?_) fun Z2 H2 M2 n2 hc => ?_⟩
    · obtain ⟨ws, hw, rs2⟩ := at2 n2 hc
      have hv : i < ws.length := by rw [rs2.length]; exact hi
      refine ⟨⟨ws, ws[i], SqL.of hw, by simp [hv]⟩, fun v H3 ⟨e3, y⟩ => ⟨e3, ?_⟩⟩
      subst e3
      have := y ws (SqL.of hw)
      obtain ⟨d, h2, h3⟩ := rs2.get' this
      exact ⟨d, h2, h3⟩
    · obtain ⟨ws, hw, rs2⟩ := at2 n2 hc
      exact ⟨ws, SqL.of hw, by rw [rs2.length]; exact Nat.le_refl _⟩
/-- range's items -/
def rng (lo : Int) (n : Nat) : List D := (List.range n).map fun (k : Nat) => D.int (lo + (k : Int))
theorem rng_len (lo : Int) (n : Nat) : (rng lo n).length = n := by unfold rng; simp
theorem rng_get {lo : Int} {n i : Nat} (h : i < n) : (rng lo n)[i]? = some (.int (lo + (i : Int))) := by unfold rng; simp [h]
theorem rng_at {lo : Int} {n i : Nat} {d : D} (h : (rng lo n)[i]? = some d) : i < n ∧ d = .int (lo + (i : Int)) := by
  have hl : i < n := by have := (List.getElem?_eq_some_iff.mp h).1; rw [rng_len] at this; exact this
  rw [rng_get hl] at h
  exact ⟨hl, (Option.some.inj h).symm⟩
theorem it_rng1 {tg : Expr} {n : Int} (hm : X.mg "range" = none) (h : EVd X a G M (.int n) M1) (hb : n < 2 ^ 62) (hn : -(2 ^ 62) ≤ n) (hg : Gl X "range" := by rfl) (hs : starEach [a] X.env = [(false, eval a X.env)] := by rfl) : IT X tg (.Call (.Name "range" p) [a] [] pos) G M (rng 0 n.toNat) M1 [] :=
  ⟨_, pi_range1 hg hm (pa_cons pE pa_nil hs) hs, fun Z σ H m s R q => h Z σ H m s _ fun v Z1 H1 x M1 n1 r1 q1 => by
    obtain ⟨rfl, rfl⟩ := q1
    cases r1
    refine ⟨n, rfl, hn, hb, q Z1 H1 _ n1 (fun i Z2 H2 M2 n2 _ hi => ?_) fun Z2 H2 M2 n2 _ => by show n.toNat ≤ _; rw [rng_len]; exact Nat.le_refl _⟩
    rw [rng_len] at hi
    exact ⟨hi, fun v H3 ⟨e3, y⟩ => ⟨e3, _, rng_get hi, by rw [y]; exact .int _⟩⟩⟩
theorem it_rng2 {tg : Expr} {lo n : Int} (hm : X.mg "range" = none) (h : EVd X a G M (.int lo) M1) (h' : EVd X b G M1 (.int n) M2) (hb : n < 2 ^ 62) (hn : -(2 ^ 62) ≤ n) (hb' : lo < 2 ^ 62) (hn' : -(2 ^ 62) ≤ lo) (hg : Gl X "range" := by rfl) (hs : starEach [a, b] X.env = [(false, eval a X.env), (false, eval b X.env)] := by rfl) (hs2 : starEach [b] X.env = [(false, eval b X.env)] := by rfl) :
    IT X tg (.Call (.Name "range" p) [a, b] [] pos) G M (rng lo (n - lo).toNat) M2 [] :=
  ⟨_, pi_range2 hg hm (pa_cons pE (pa_cons pE pa_nil hs2) (by rw [hs, hs2])) hs hs2, fun Z σ H m s R q => h Z σ H m s _ fun v Z1 H1 x M1 n1 r1 q1 => by
    obtain ⟨rfl, rfl⟩ := q1
    cases r1
    refine h' Z1 σ H1 n1.ok (s.mono n1.ez) _ fun v Z2 H2 x M2 n2 r2 q2 => ?_
    obtain ⟨rfl, rfl⟩ := q2
    cases r2
    refine ⟨lo, n, rfl, ⟨hn', hb', hn, hb⟩, q Z2 H2 _ (n1.trans n2) (fun i Z3 H3 M3 n3 _ hi => ?_) fun Z3 H3 M3 n3 _ => by show (n - lo).toNat ≤ _; rw [rng_len]; exact Nat.le_refl _⟩
    rw [rng_len] at hi
    exact ⟨hi, fun v H3 ⟨e3, y⟩ => ⟨e3, _, rng_get hi, by rw [y]; exact .int _⟩⟩⟩
/-- the word of a loop, with slots forgotten -/
abbrev wk (I : Nat → Sl → Mem → Prop) (i : Nat) : Sl → Mem → Prop := fun G' M' => ∃ G0, Le G0 G' ∧ I i G0 M'
theorem sv_for {tg iter : Expr} {body : List Stmt} (I : Nat → Sl → Mem → Prop) (hp : PassesOwn (model X.prog X.w) X.A X.env X.xe) (hc : X.calm = true) {kc : Mem} (h : IT X tg iter G M ds M1 kc) (h0 : I 0 G M1)
    (hs : ∀ i d G' M', ds[i]? = some d → I i G' M' → AV X tg d G' M' fun G2 M2 => SV X body G2 M2 { E with nx := wk I (i + 1), ct := wk I (i + 1), bk := fun G3 M3 => SV X rest G3 M3 E })
    (hd : ∀ G' M', I ds.length G' M' → SV X rest G' M' E) (hk : ∀ i G' M', I i G' M' → ∀ c ∈ kc, c ∈ M' := by intro _ _ _ _ c hc; cases hc) (hf : ∀ x, foldedSetIterable iter X.env x = pure x := by intro _; rfl) : SV X (.For tg iter body [] pos :: rest) G M E := by
  obtain ⟨wi, hi, hw⟩ := h
  refine sv_cons (SV1.of (ps_for hp hc hi pG pSs hf) fun Z σ H m s D0 ok => hw Z σ H m s _ fun Z1 H1 J n1 go stop => ?_)
  refine ⟨fun i mm σ' H' => mm = ds.length - i ∧ i ≤ ds.length ∧ ∃ Z' G' M', Nx X.K Z1 H1 M1 Z' H' M' ∧ SOk X.K Z' σ' G' ∧ I i G' M', ⟨ds.length, by simp, Nat.zero_le _, Z1, G, M1, Nx.refl n1.ok, s.mono n1.ez, h0⟩, ?_⟩
  rintro i mm σ' H' ⟨rfl, hil, Z', G', M', n2, s2, inv⟩
  by_cases hlt : i < ds.length
  · obtain ⟨g1, g2⟩ := go i Z' H' M' n2 (hk i G' M' inv) hlt
    refine .inr ⟨g1, fun σ2 H2 => ∃ Z2 G2 M2, Nx X.K Z1 H1 M1 Z2 H2 M2 ∧ SOk X.K Z2 σ2 G2 ∧ I (i + 1) G2 M2, fun σ2 H2 ⟨Z2, G2, M2, z⟩ => ⟨ds.length - (i + 1), by omega, rfl, hlt, Z2, G2, M2, z⟩, fun v H3 y => ?_⟩
    obtain ⟨e3, d, hd', r⟩ := g2 v H3 y
    subst e3
    refine hs i d G' M' hd' inv Z' σ' H3 v n2.ok s2 r _ fun σ4 Z4 H4 G4 M4 n4 s4 q4 => ?_
    refine q4 Z4 σ4 H4 n4.ok s4 _ ⟨fun σ5 Z5 H5 G5 M5 n5 s5 q5 => ?_, fun v Z5 H5 d M5 n5 r5 q5 => ok.rt v Z5 H5 d M5 ((n1.trans n2).trans (n4.trans n5)) r5 q5, fun σ5 Z5 H5 G5 M5 n5 s5 q5 => ?_, fun σ5 Z5 H5 G5 M5 n5 s5 q5 => ?_, ?_⟩
    · obtain ⟨G6, l6, i6⟩ := q5
      exact ⟨Z5, G6, M5, n2.trans (n4.trans n5), s5.le l6, i6⟩
    · exact ok.nx σ5 Z5 H5 G5 M5 ((n1.trans n2).trans (n4.trans n5)) s5 q5
    · obtain ⟨G6, l6, i6⟩ := q5
      exact ⟨Z5, G6, M5, n2.trans (n4.trans n5), s5.le l6, i6⟩
    · obtain ⟨W, t, w⟩ := ok.ex
      exact ⟨W, t, ((w.aft n1).aft n2).aft n4⟩
  · have e : i = ds.length := by omega
    subst e
    exact .inl ⟨stop Z' H' M' n2 (hk _ G' M' inv), ok.nx σ' Z' H' G' M' (n1.trans n2) s2 (hd G' M' inv)⟩
/-- while: W by a measure -/
theorem sv_while {body : List Stmt} (W : Nat → Sl → Mem → Prop) (hp : PassesOwn (model X.prog X.w) X.A X.env X.xe) (h0 : ∃ n, W n G M)
    (hs : ∀ n G' M', W n G' M' → ET X c G' M' fun k M2 => if k = true then SV X body G' M2 { E with nx := fun G3 M3 => ∃ G0 n', Le G0 G3 ∧ n' < n ∧ W n' G0 M3, ct := fun G3 M3 => ∃ G0 n', Le G0 G3 ∧ n' < n ∧ W n' G0 M3, bk := fun G3 M3 => SV X rest G3 M3 E } else SV X rest G' M2 E) :
    SV X (.While c body [] pos :: rest) G M E := by
  refine sv_cons (SV1.of (ps_while hp pT pSs) fun Z σ H m s D0 ok => ?_)
  obtain ⟨n0, w0⟩ := h0
  refine ⟨fun n σ' H' => ∃ Z' G' M', Nx X.K Z H M Z' H' M' ∧ SOk X.K Z' σ' G' ∧ W n G' M', ⟨n0, Z, G, M, Nx.refl m, s, w0⟩, ?_⟩
  rintro n σ1 H1 ⟨Z1, G1, M1, n1, s1, w1⟩
  refine hs n G1 M1 w1 Z1 σ1 H1 n1.ok s1 _ fun k Z2 H2 M2 n2 q2 => ?_
  cases k with
  | false =>
    refine iteF ?_
    rw [if_neg Bool.false_ne_true] at q2
    exact ok.nx σ1 Z2 H2 G1 M2 (n1.trans n2) (s1.mono n2.ez) q2
  | true =>
    refine iteT ⟨fun σ' H' => ∃ Z' G' M' n', n' < n ∧ Nx X.K Z H M Z' H' M' ∧ SOk X.K Z' σ' G' ∧ W n' G' M', fun σ' H' ⟨Z', G', M', n', hn, z⟩ => ⟨n', hn, Z', G', M', z⟩, ?_⟩
    rw [if_pos rfl] at q2
    refine q2 Z2 σ1 H2 n2.ok (s1.mono n2.ez) _ ⟨fun σ5 Z5 H5 G5 M5 n5 s5 q5 => ?_, fun v Z5 H5 d M5 n5 r5 q5 => ok.rt v Z5 H5 d M5 ((n1.trans n2).trans n5) r5 q5, fun σ5 Z5 H5 G5 M5 n5 s5 q5 => ok.nx σ5 Z5 H5 G5 M5 ((n1.trans n2).trans n5) s5 q5, fun σ5 Z5 H5 G5 M5 n5 s5 q5 => ?_, ?_⟩
    · obtain ⟨G6, n6, l6, h6, w6⟩ := q5
      exact ⟨Z5, G6, M5, n6, h6, (n1.trans n2).trans n5, s5.le l6, w6⟩
    · obtain ⟨G6, n6, l6, h6, w6⟩ := q5
      exact ⟨Z5, G6, M5, n6, h6, (n1.trans n2).trans n5, s5.le l6, w6⟩
    · obtain ⟨W', t, w⟩ := ok.ex
      exact ⟨W', t, (w.aft n1).aft n2⟩
end
end ES

set_option Elab.async false
set_option linter.all false
set_option maxRecDepth 100000
set_option maxHeartbeats 2000000
namespace ES
open PySem PySem.Spec PyProof.Rows L2

/-! ### list comprehensions -/
def wipeG (G : Sl) : List Nat → Sl
  | [] => G
  | v :: vs => (wipeG G vs).set v none
theorem sok_wipe {K : PySem.W.Frag} {Z : Hp} {σ : L2.St} {G : Sl} (s : SOk K Z σ G) : ∀ vs : List Nat, SOk K Z (wipe σ vs) (wipeG G vs)
  | [] => s
  | v :: vs => (sok_wipe s vs).drop v
/-- a target within a comprehension: it stores to the block's own names alone -/
def TgOk (K : PySem.W.Frag) (g : TG) (vs : List Nat) (G : Sl) (d : D) (G2 : Sl) : Prop := ∀ Z σ0 H v, SOk K Z (wipe σ0 vs) G → Rep K Z v d → Ex Z H → ∀ Q : L2.St → Hp → Prop, (∀ σ2, wipe σ2 vs = wipe σ0 vs → SOk K Z σ2 G2 → Q σ2 H) → g v (wipe σ0 vs) H Q
theorem tg_name {K : PySem.W.Frag} {i : Nat} {G : Sl} {d : D} : TgOk K (gName i) [i] G d (G.set i (some d)) := fun Z σ0 H v s r _ Q q => q _ (by simp [wipe]) (s.set i r)
theorem tg_two {K : PySem.W.Frag} {i j : Nat} {G : Sl} {d1 d2 : D} (hij : i ≠ j) : TgOk K (gTup K 2 (gCons (gName i) (gCons (gName j) gNil))) [i, j] G (.tup [d1, d2]) ((G.set i (some d1)).set j (some d2)) := fun Z σ0 H v s r e Q q => by
  cases r with
  | @tup a vs _ h1 rs =>
    cases rs with
    | cons r1 rs =>
      cases rs with
      | cons r2 rs =>
        cases rs
        refine ⟨a, _, rfl, ex_t e h1, rfl, _, _, rfl, _, _, rfl, rfl, q _ ?_ ((s.set i r1).set j r2)⟩
        apply List.ext_getElem?
        intro k
        simp only [wipe, List.getElem?_set, List.length_set]
        by_cases h1 : i = k
        · subst h1; simp <;> (repeat' split) <;> simp_all
        · by_cases h2 : j = k
          · subst h2; simp [h1] <;> (repeat' split) <;> simp_all
          · simp [h1, h2]
section
variable {X : Cx} {K : PySem.W.Frag} {Z Z1 H H1 : Hp} {M M1 M2 M3 : Mem} {G : Sl} {e a b c : Expr} {es : List Expr} {d x y z : D} {xs ys ds : List D} {pos p : Pos} {E : AE} {rest : List Stmt} {st : Stmt}
/-- in every block of the comprehension -/
def EVb (X : Cx) (scope : Scope) (e : Expr) (G : Sl) (M : Mem) (Q : D → Mem → Prop) : Prop := ∀ (s : Shared) (H : Hp) (C : Addr) (cl : List (Str × Addr)) (fp : List Addr), EV (X.blk s H scope (compEnvC scope cl C X.env) fp) e G M Q
structure ETs (X : Cx) (ifs : List Expr) (G : Sl) (M : Mem) (Q : Bool → Mem → Prop) : Prop where
  mk ::
  run : ∀ Z σ H, MOk X.K Z H M → SOk X.K Z σ G → ∀ Qc, PostT X.K Z H M Q Qc → sTs X ifs σ H Qc
instance {X : Cx} {ifs : List Expr} {G : Sl} {M : Mem} {Q : Bool → Mem → Prop} : CoeFun (ETs X ifs G M Q) fun _ => ∀ Z σ H, MOk X.K Z H M → SOk X.K Z σ G → ∀ Qc, PostT X.K Z H M Q Qc → sTs X ifs σ H Qc := ⟨ETs.run⟩
def ETb (X : Cx) (scope : Scope) (ifs : List Expr) (G : Sl) (M : Mem) (Q : Bool → Mem → Prop) : Prop := ∀ (s : Shared) (H : Hp) (C : Addr) (cl : List (Str × Addr)) (fp : List Addr), ETs (X.blk s H scope (compEnvC scope cl C X.env) fp) ifs G M Q
theorem ets_nil {Q : Bool → Mem → Prop} (q : Q true M) : ETs X [] G M Q := .mk fun Z σ H m s Qc post pins st I => pts_nil.run pins st σ H Qc I (post _ Z H M (Nx.refl m) q)
theorem ets_one {Q : Bool → Mem → Prop} (h : ET X c G M Q) : ETs X [c] G M Q := .mk fun Z σ H m s Qc post pins st I => (pts_one pT).run pins st σ H Qc I (h Z σ H m s Qc post)
theorem etb_nil {scope : Scope} {Q : Bool → Mem → Prop} (q : Q true M) : ETb X scope [] G M Q := fun _ _ _ _ _ => ets_nil q
theorem etb_one {scope : Scope} {Q : Bool → Mem → Prop} (h : ∀ (s : Shared) (H : Hp) (C : Addr) (cl : List (Str × Addr)) (fp : List Addr), ET (X.blk s H scope (compEnvC scope cl C X.env) fp) c G M Q) : ETb X scope [c] G M Q := fun s H C cl fp => ets_one (h s H C cl fp)
def tEb (X : Cx) (scope : Scope) (e : Expr) : TE := fun σ H Q => ∀ (s : Shared) (H0 : Hp) (C : Addr) (cl : List (Str × Addr)) (fp : List Addr), sE (X.blk s H0 scope (compEnvC scope cl C X.env) fp) e σ H Q
def tTb (X : Cx) (scope : Scope) (ifs : List Expr) : TT := fun σ H Q => ∀ (s : Shared) (H0 : Hp) (C : Addr) (cl : List (Str × Addr)) (fp : List Addr), sTs (X.blk s H0 scope (compEnvC scope cl C X.env) fp) ifs σ H Q
theorem MOk.left {F : Mem} (m : MOk K Z H (M ++ F)) : MOk K Z H M := by
  refine ⟨m.ex, ?_, fun p hp => m.cell p (List.mem_append_left _ hp)⟩
  have z := m.nd
  unfold dom at z
  rw [List.map_append, List.nodup_append] at z
  exact z.1
/-- the word of a comprehension by the turn, the list so far, the memory -/
structure LcW (X : Cx) (tg iter elt : Expr) (ifs : List Expr) (scope : Scope) (g : TG) (vs : List Nat) (G : Sl) (M : Mem) (ds : List D) (M1 : Mem) (Q : D → Mem → Prop) (I : Nat → List D → Mem → Prop) (kc : Mem) : Prop where
  it : IT X tg iter G M ds M1 kc
  hk : ∀ i acc M', I i acc M' → ∀ c ∈ kc, c ∈ M'
  few : ds.length < 1000000
  h0 : I 0 [] M1
  hs : ∀ i d acc M', ds[i]? = some d → I i acc M' → ∃ G2, TgOk X.K g vs (wipeG G vs) d G2 ∧ ETb X scope ifs G2 M' fun k M3 => if k = true then EVb X scope elt G2 M3 fun y M4 => I (i + 1) (acc ++ [y]) M4 else I (i + 1) acc M3
  hd : ∀ acc M', acc.length ≤ ds.length → I ds.length acc M' → NewL acc M' Q
theorem lc_run {kc : Mem} {elt : Expr} {ifs : List Expr} {scope : Scope} {g : TG} {vs : List Nat} {Q : D → Mem → Prop} {I : Nat → List D → Mem → Prop} {wi : TI} {σ : L2.St} {Qc : VK}
    (hk : ∀ i acc M', I i acc M' → ∀ c ∈ kc, c ∈ M') (few : ds.length < 1000000) (h0 : I 0 [] M1)
    (hs : ∀ i d acc M', ds[i]? = some d → I i acc M' → ∃ G2, TgOk X.K g vs (wipeG G vs) d G2 ∧ ETb X scope ifs G2 M' fun k M3 => if k = true then EVb X scope elt G2 M3 fun y M4 => I (i + 1) (acc ++ [y]) M4 else I (i + 1) acc M3)
    (hd : ∀ acc M', acc.length ≤ ds.length → I ds.length acc M' → NewL acc M' Q)
    (m : MOk X.K Z H M) (s : SOk X.K Z σ G) (post : Post X.K Z H M Q Qc)
    (hw : ∀ R : It → Hp → Prop, (∀ Z1 H1 (J : It), Nx X.K Z H M Z1 H1 M1 →
    (∀ (i : Nat) Z2 H2 M2, Nx X.K Z1 H1 M1 Z2 H2 M2 → (∀ c ∈ kc, c ∈ M2) → i < ds.length → J.go i H2 ∧ ∀ v H3, J.yld i H2 v H3 → H3 = H2 ∧ ∃ d, ds[i]? = some d ∧ Rep X.K Z2 v d) →
    (∀ Z2 H2 M2, Nx X.K Z1 H1 M1 Z2 H2 M2 → (∀ c ∈ kc, c ∈ M2) → J.stop ds.length H2) → R J H1) → wi σ H R) :
    tLc wi g (tTb X scope ifs) (tEb X scope elt) vs σ H Qc := by
  refine hw _ fun Z1 H1 J n1 go stop => ?_
  intro Dn hDn
  have nc := Nx.cell (o := .lst []) (c := .lst []) n1.ok hDn ⟨[], upd_same, .nil⟩
  refine ⟨fun i mm H' => mm = ds.length - i ∧ i ≤ ds.length ∧ ∃ Z' acc M', acc.length ≤ i ∧ Nx X.K Z1 H1 M1 Z' H' (M' ++ [(Dn, .lst acc)]) ∧ I i acc M', ⟨ds.length, by simp, Nat.zero_le _, Z1, [], M1, Nat.zero_le _, nc, h0⟩, ?_⟩
  rintro i mm H' ⟨rfl, hil, Z', acc, M', hacc, n2, inv⟩
  by_cases hlt : i < ds.length
  · obtain ⟨g1, g2⟩ := go i Z' H' _ n2 (fun c hc => List.mem_append_left _ (hk i acc M' inv c hc)) hlt
    refine .inr ⟨g1, fun H2 => ∃ Z2 acc2 M2, acc2.length ≤ i + 1 ∧ Nx X.K Z1 H1 M1 Z2 H2 (M2 ++ [(Dn, .lst acc2)]) ∧ I (i + 1) acc2 M2, fun H2 ⟨Z2, acc2, M2, z⟩ => ⟨ds.length - (i + 1), by omega, rfl, hlt, Z2, acc2, M2, z⟩, fun v H3 y => ?_⟩
    obtain ⟨e3, d, hd', r⟩ := g2 v H3 y
    subst e3
    obtain ⟨G2, tg2, ht⟩ := hs i d acc M' hd' inv
    refine tg2 Z' σ H3 v (sok_wipe (s.mono (n1.ez.trans n2.ez)) vs) r n2.ok.ex _ fun σ2 hw2 s2 => ⟨hw2, ?_⟩
    intro s0 H0 C cl fp
    refine ht s0 H0 C cl fp Z' σ2 H3 (MOk.left n2.ok) s2 _ fun k Z4 H4 M4 n4 q4 => ?_
    have f4 := Nx.frame n2.ok n4
    cases k with
    | false =>
      rw [if_neg Bool.false_ne_true] at q4
      refine iteF ⟨Z4, acc, M4, Nat.le_succ_of_le hacc, n2.trans f4, q4⟩
    | true =>
      rw [if_pos rfl] at q4
      refine iteT fun s5 H5 C5 cl5 fp5 => ?_
      refine q4 s5 H5 C5 cl5 fp5 Z4 σ2 H4 n4.ok (s2.mono n4.ez) _ fun u Z6 H6 yv M6 n6 r6 q6 => ?_
      have f6 := Nx.frame f4.ok n6
      have hk : (M6 ++ [(Dn, Cell.lst acc)])[M6.length]? = some (Dn, Cell.lst acc) := by simp
      obtain ⟨_, ws, hv, rs⟩ := f6.ok.cell _ (List.mem_of_getElem? hk)
      refine ⟨ws, hv, by rw [rs.length]; exact szl (by omega), Z6, acc ++ [yv], M6, by simp; omega, ?_, q6⟩
      have n7 := Nx.write (o := .lst (ws ++ [u])) (c' := .lst (acc ++ [yv])) f6.ok hk ⟨_, upd_same, rs.append (.cons r6 .nil)⟩
      have e7 : (M6 ++ [(Dn, Cell.lst acc)]).set M6.length (Dn, Cell.lst (acc ++ [yv])) = M6 ++ [(Dn, Cell.lst (acc ++ [yv]))] := by simp
      rw [e7] at n7
      exact ((n2.trans f4).trans f6).trans n7
  · have e : i = ds.length := by omega
    subst e
    refine .inl ⟨stop Z' H' _ n2 (fun c hc => List.mem_append_left _ (hk _ acc M' inv c hc)), ?_⟩
    rcases hd acc M' hacc inv with q | q
    · have hk : (M' ++ [(Dn, Cell.lst acc)])[M'.length]? = some (Dn, Cell.lst acc) := by simp
      obtain ⟨Z9, n9, r9⟩ := Nx.freeze n2.ok hk
      have e9 : (M' ++ [(Dn, Cell.lst acc)]).eraseIdx M'.length = M' := by
        rw [List.eraseIdx_append_of_length_le (Nat.le_refl _)]; simp
      rw [e9] at n9
      exact post _ Z9 H' _ M' ((n1.trans n2).trans n9) r9 q
    · exact post _ Z' H' _ _ (n1.trans n2) (.ref Dn) (q Dn)
theorem ev_lc {kc : Mem} {tg iter elt : Expr} {ifs : List Expr} {scope : Scope} {own : List (Str × Nat)} {g : TG} {Q : D → Mem → Prop} {I : Nat → List D → Mem → Prop} (hc : X.calm = true) (nd : X.N.Nodup) (ok : BlkOk X.N X.env.scope scope own)
    (hg : ∀ (s : Shared) (H : Hp) (C : Addr) (cl : List (Str × Addr)) (fp : List Addr), PG (X.blk s H scope (compEnvC scope cl C X.env) fp) tg g) (w : LcW X tg iter elt ifs scope g (own.map (·.2)) G M ds M1 Q I kc) (hf : ∀ x, foldedSetIterable iter X.env x = pure x := by intro _; rfl) :
    EV X (.ListComp elt [⟨tg, iter, ifs, 0⟩] scope pos) G M Q := .mk fun Z σ H m s Qc post pins st I0 => by
  obtain ⟨wi, hi, hw⟩ := w.it
  exact (pe_lc (tt := tTb X scope ifs) (te := tEb X scope elt) hc nd hi ok hg (fun s0 H0 C cl fp => ⟨fun pins s σ H Q I h => h s0 H0 C cl fp pins s I⟩) (fun s0 H0 C cl fp => ⟨fun pins s σ H Q I h => h s0 H0 C cl fp pins s I⟩) hf).run pins st σ H Qc I0
    (lc_run w.hk w.few w.h0 w.hs w.hd m s post (hw Z σ H m s))
/-- y = [..] on one line -/
theorem sv_setLc {kc : Mem} (i : Nat) {yn : Str} {py : Pos} {spos : Pos} {tg iter elt : Expr} {ifs : List Expr} {scope : Scope} {own : List (Str × Nat)} {g : TG} {I : Nat → List D → Mem → Prop} (hc : X.calm = true) (nd : X.N.Nodup) (ok : BlkOk X.N X.env.scope scope own)
    (hg : ∀ (s : Shared) (H : Hp) (C : Addr) (cl : List (Str × Addr)) (fp : List Addr), PG (X.blk s H scope (compEnvC scope cl C X.env) fp) tg g)
    (hsw : swapsWith (.ListComp elt [⟨tg, iter, ifs, 0⟩] scope pos) (some (.Name yn py)) spos.line X.env = pure true)
    (w : LcW X tg iter elt ifs scope g (own.map (·.2)) G M ds M1 (fun d M' => SV X rest (G.set i (some d)) M' E) I kc) (hy : X.N[i]? = some yn := by rfl) (hyl : X.env.scope.names.lookup yn = some .local := by rfl) (hf : ∀ x, foldedSetIterable iter X.env x = pure x := by intro _; rfl) :
    SV X (.Assign [.Name yn py] (.ListComp elt [⟨tg, iter, ifs, 0⟩] scope pos) spos :: rest) G M E := by
  obtain ⟨wi, hi, hw⟩ := w.it
  refine sv_cons (SV1.of (ps_setLc (i := i) (tt := tTb X scope ifs) (te := tEb X scope elt) hc nd hy hyl hsw hi ok hg (fun s0 H0 C cl fp => ⟨fun pins s σ H Q I h => h s0 H0 C cl fp pins s I⟩) (fun s0 H0 C cl fp => ⟨fun pins s σ H Q I h => h s0 H0 C cl fp pins s I⟩) hf) fun Z σ H m s D0 okk => ?_)
  exact lc_run w.hk w.few w.h0 w.hs w.hd m s (fun v Z' H' d M' n r q => okk.nx _ Z' H' _ M' n ((s.mono n.ez).set i r) q) (hw Z σ H m s)

/-- the plain kind: nothing but the list is changed; items of a typed list -/
theorem lcw_pure {kc : Mem} {α : Type} {tg iter elt : Expr} {ifs : List Expr} {scope : Scope} {g : TG} {vs : List Nat} {Q : D → Mem → Prop} (xs : List α) (en : α → D) (f : α → Bool) (h : α → D) (G2 : α → Sl) (it : IT X tg iter G M (xs.map en) M1 kc) (few : xs.length < 1000000)
    (tg2 : ∀ v ∈ xs, TgOk X.K g vs (wipeG G vs) (en v) (G2 v)) (ht : ∀ v ∈ xs, ETb X scope ifs (G2 v) M1 (Is (f v) M1)) (he : ∀ v ∈ xs, f v = true → EVb X scope elt (G2 v) M1 (Is (h v) M1)) (hd : NewL ((xs.filter f).map h) M1 Q) (hkc : ∀ c ∈ kc, c ∈ M1 := by intro c hc; cases hc) :
    LcW X tg iter elt ifs scope g vs G M (xs.map en) M1 Q (fun i acc M' => M' = M1 ∧ acc = ((xs.take i).filter f).map h) kc where
  it := it
  hk := fun i acc M' ⟨e, _⟩ => by rw [e]; exact hkc
  few := by rw [List.length_map]; exact few
  h0 := ⟨rfl, by simp⟩
  hs := fun i d acc M' hi ⟨e1, e2⟩ => by
    rw [e1]
    rw [List.getElem?_map] at hi
    cases hv : xs[i]? with
    | none => rw [hv] at hi; cases hi
    | some v =>
      rw [hv] at hi
      have e : en v = d := Option.some.inj hi
      subst e
      have hm : v ∈ xs := List.mem_of_getElem? hv
      refine ⟨G2 v, tg2 v hm, fun s0 H0 C cl fp => .mk fun Z σ H m s Qc post => ht v hm s0 H0 C cl fp Z σ H m s Qc fun k Z' H' M' n q => post k Z' H' M' n ?_⟩
      obtain ⟨e3, e4⟩ := q
      rw [e4]
      have tk : xs.take (i + 1) = xs.take i ++ [v] := by rw [List.take_add_one, hv]; rfl
      cases hk : k with
      | true =>
        rw [if_pos rfl]
        have fv : f v = true := by rw [← e3]; exact hk
        refine fun s0 H0 C cl fp => .mk fun Z σ H m s Qc post => he v hm fv s0 H0 C cl fp Z σ H m s Qc fun u Z' H' d' M' n r q => post u Z' H' d' M' n r ?_
        obtain ⟨e5, e6⟩ := q
        refine ⟨e6, ?_⟩
        rw [e5, e2, tk, List.filter_append, List.map_append, List.filter_cons_of_pos fv]
        rfl
      | false =>
        rw [if_neg Bool.false_ne_true]
        have fv : ¬ f v = true := by rw [← e3, hk]; exact Bool.false_ne_true
        refine ⟨rfl, ?_⟩
        rw [e2, tk, List.filter_append, List.map_append, List.filter_cons_of_neg fv]
        simp
  hd := fun acc M' _ ⟨e1, e2⟩ => by
    rw [e1, e2, List.length_map, List.take_length]
    exact hd
end
end ES

set_option Elab.async false
set_option linter.all false
set_option maxRecDepth 100000
set_option maxHeartbeats 2000000
namespace ES
open PySem PySem.Spec PyProof.Rows L2

/-! ### what a def promises -/
abbrev AS := List D → Mem → (D → Mem → Prop) → XAT → Prop
def PostX (K : PySem.W.Frag) (Z H : Hp) (M : Mem) (Ea : XAT) (E : XK) : Prop := ∀ Z' H' M' C d vs fs, Nx K Z H M Z' H' M' → New H M d → H' d = some (.xd vs) → RepF K Z' vs fs → Ea C fs M' → E (.ref C) (some d) H'
def spOf (K : PySem.W.Frag) (n : Nat) (S : AS) : Sp := fun vs H Q E => vs.length = n ∧ ∃ Z ds M Qa Ea, MOk K Z H M ∧ Reps K Z vs ds ∧ S ds M Qa Ea ∧ Post K Z H M Qa Q ∧ PostX K Z H M Ea E
/-- the def at f keeps S, at most k calls deep -/
structure FnA (P : Program) (w : World) (K : PySem.W.Frag) (mg : Str → Option Value) (base : Heap) (k : Nat) (f : Addr) (n : Nat) (S : AS) : Prop where
  ex : ∃ fd ps, ps.length = n ∧ FnOk P w K mg base (L2.CX P w) k f fd ps (spOf K n S) ∧ PySem.W.keepIn K (.ref f) = true ∧ Binds K fd ps []
/-- .. by its name -/
structure Fn (P : Program) (w : World) (K : PySem.W.Frag) (mg : Str → Option Value) (base : Heap) (k : Nat) (x : Str) (n : Nat) (S : AS) : Prop where
  ex : ∃ f, mg x = some (.ref f) ∧ FnA P w K mg base k f n S
section
variable {P : Program} {w : World} {K : PySem.W.Frag} {mg : Str → Option Value} {base : Heap} {k : Nat} {f : Addr} {n : Nat} {S S' : AS} {x : Str}
theorem FnA.mono {j : Nat} (h : FnA P w K mg base j f n S) (l : j ≤ k) : FnA P w K mg base k f n S := by
  obtain ⟨fd, ps, e, F, kp, b⟩ := h.ex
  exact ⟨fd, ps, e, F.mono l, kp, b⟩
theorem Fn.mono {j : Nat} (h : Fn P w K mg base j x n S) (l : j ≤ k) : Fn P w K mg base k x n S := by
  obtain ⟨f, e, h⟩ := h.ex
  exact ⟨f, e, h.mono l⟩
theorem FnA.imp (h : FnA P w K mg base k f n S) (i : ∀ ds M Q E, S' ds M Q E → S ds M Q E) : FnA P w K mg base k f n S' := by
  obtain ⟨fd, ps, e, F, kp, b⟩ := h.ex
  exact ⟨fd, ps, e, F.imp fun vs H Q E ⟨l, Z, ds, M, Qa, Ea, m, r, s, p1, p2⟩ => ⟨l, Z, ds, M, Qa, Ea, m, r, i _ _ _ _ s, p1, p2⟩, kp, b⟩
theorem Fn.imp (h : Fn P w K mg base k x n S) (i : ∀ ds M Q E, S' ds M Q E → S ds M Q E) : Fn P w K mg base k x n S' := by
  obtain ⟨f, e, h⟩ := h.ex
  exact ⟨f, e, h.imp i⟩
theorem sok_start {Z : Hp} {vs : List V} {ds : List D} {N : List Str} (r : Reps K Z vs ds) (hN : vs.length ≤ N.length) : SOk K Z (L2.start N vs) (ds.map some ++ List.replicate (N.length - ds.length) none) := by
  have hl := r.length
  unfold L2.start
  refine ⟨by simp [hl], fun i d h => ?_⟩
  by_cases hi : i < ds.length
  · rw [List.getElem?_append_left (by simpa using hi), List.getElem?_map] at h
    have h' : ds[i]? = some d := by
      cases e : ds[i]? with
      | none => rw [e] at h; cases h
      | some y => rw [e] at h; simpa using h
    obtain ⟨v, h1, h2⟩ := r.get h'
    exact ⟨v, by rw [List.getElem?_append_left (by simpa [hl] using hi), List.getElem?_map, h1]; rfl, h2⟩
  · rw [List.getElem?_append_right (by simpa using hi), List.getElem?_replicate] at h
    split at h <;> simp at h
/-- THE RULE for a def -/
theorem fnok_mk {qual : Str} {st : Stmt} {fd : FuncData} {N ps : List Str} (F : Fun K x qual st f fd) (sc : FnScope N ps (defScope st)) (hn : ps.length ≤ N.length)
    (body : ∀ (cdv : Value) (A : Around) (outer : List Env) (s : Shared) (H : Hp) (E : XK), Room k (A.deeper (envOfC qual (defScope st) s.heap.objs.size f cdv)) → ∀ ds M Qa Ea, ds.length = ps.length → S ds M Qa Ea →
      SV (cxOf (L2.CX P w) P w K mg base N qual (defScope st) f cdv A outer s H E) (defBody st) (ds.map some ++ List.replicate (N.length - ds.length) none) M { nx := fun _ M' => Qa .non M', rt := Qa, ex := fun _ => Ea }) : FnOk P w K mg base (L2.CX P w) (k + 1) f fd ps (spOf K ps.length S) :=
  F.okX sc (fun vs H Q E h => h.1) fun cdv A outer s H vs Q E hr h => by
    obtain ⟨hl, Z, ds, M, Qa, Ea, m, r, hS, post, px⟩ := h
    refine ⟨sSs _ _, pSs, ?_⟩
    have hl' : ds.length = ps.length := by rw [← r.length]; exact hl
    refine body cdv A outer s H E hr ds M Qa Ea hl' hS Z _ H m (sok_start r (by rw [hl]; exact hn)) _ ⟨fun σ' Z' H' G' M' n s q => post _ Z' H' _ M' n .non q, fun v Z' H' d M' n r q => post v Z' H' d M' n r q, fun _ _ _ _ _ _ _ q => q.elim, fun _ _ _ _ _ _ _ q => q.elim, ?_⟩
    exact ⟨fun cls d _ H => E cls d H, takes_of rfl rfl rfl rfl, fun σ' Z' H' G' M' C d vs fs n s nd e r q => px Z' H' M' C d vs fs n nd e r q⟩
/-- .. as a callee -/
theorem fna_mk {qual : Str} {st : Stmt} {fd : FuncData} {N ps : List Str} (F : Fun K x qual st f fd) (sc : FnScope N ps (defScope st)) (hb : Binds K fd ps []) (hn : ps.length ≤ N.length)
    (body : ∀ (cdv : Value) (A : Around) (outer : List Env) (s : Shared) (H : Hp) (E : XK), Room k (A.deeper (envOfC qual (defScope st) s.heap.objs.size f cdv)) → ∀ ds M Qa Ea, ds.length = ps.length → S ds M Qa Ea →
      SV (cxOf (L2.CX P w) P w K mg base N qual (defScope st) f cdv A outer s H E) (defBody st) (ds.map some ++ List.replicate (N.length - ds.length) none) M { nx := fun _ M' => Qa .non M', rt := Qa, ex := fun _ => Ea }) : FnA P w K mg base (k + 1) f ps.length S :=
  ⟨fd, ps, rfl, fnok_mk F sc hn body, F.kp, hb⟩
theorem Fn.mk' {S : AS} (hm : mg x = some (.ref f)) (h : FnA P w K mg base k f n S) : Fn P w K mg base k x n S := ⟨f, hm, h⟩
end

/-! ### calls -/
section
variable {X : Cx} {K : PySem.W.Frag} {Z Z1 H H1 : Hp} {M M1 M2 M3 : Mem} {G : Sl} {e a b c : Expr} {es : List Expr} {d x y z : D} {xs ys ds : List D} {pos p : Pos} {E : AE} {rest : List Stmt} {st : Stmt} {k n : Nat} {S : AS}
/-- what a caller shows: the promise on a part of the memory -/
def Meets (S : AS) (n : Nat) (ds : List D) (M1 : Mem) (Q : D → Mem → Prop) (Ex : XAT) : Prop := ds.length = n ∧ ∃ Ms F, M1.Perm (Ms ++ F) ∧ S ds Ms (fun d M2 => ∃ M', (M2 ++ F).Perm M' ∧ Q d M') (fun C fs M2 => ∃ M', (M2 ++ F).Perm M' ∧ Ex C fs M')
theorem Meets.sp {Q : D → Mem → Prop} {Ex : XAT} {Qc : VK} {E : XK} {vs : List V} (h : Meets S n ds M1 Q Ex) (m : MOk K Z H M1) (r : Reps K Z vs ds) (post : Post K Z H M1 Q Qc) (px : PostX K Z H M1 Ex E) : spOf K n S vs H Qc E := by
  obtain ⟨hl, Ms, F, pm, hS⟩ := h
  have m2 := m.perm pm
  refine ⟨by rw [r.length]; exact hl, Z, ds, Ms, _, _, m2.left, r, hS, fun v Z' H' d M' nn r' q => ?_, fun Z' H' M' C d vs fs nn nd e r' q => ?_⟩
  · obtain ⟨M'', p2, q⟩ := q
    exact post v Z' H' d M'' (Nx.perm (Nx.frame m2 nn) pm.symm p2) r' q
  · obtain ⟨M'', p2, q⟩ := q
    exact px Z' H' M'' C d vs fs (Nx.perm (Nx.frame m2 nn) pm.symm p2) (nd.imp id fun h => (pm.symm.map (·.1)).mem_iff.mp (by unfold dom at h; rw [List.map_append]; exact List.mem_append_left _ h)) e r' q
theorem Meets.pure {ex : XAT} (hl : ds.length = n) (h : S ds [] (Is d []) noX) (mono : ∀ Q Q' E E', (∀ d M, Q d M → Q' d M) → (∀ C fs M, E C fs M → E' C fs M) → S ds [] Q E → S ds [] Q' E') : Meets S n ds M1 (Is d M1) ex :=
  ⟨hl, [], M1, .refl _, mono _ _ _ _ (fun d' M' q => by obtain ⟨rfl, rfl⟩ := q; exact ⟨M1, .refl _, rfl, rfl⟩) (fun _ _ _ q => q.elim) h⟩
theorem px_no : PostX K Z H M noX E0 := fun _ _ _ _ _ _ _ _ _ _ _ q => q.elim
/-- a call that lets nothing out -/
theorem ev_call {xn : Str} {Q : D → Mem → Prop} (C : Fn X.prog X.w X.K X.mg X.base k xn n S) (hr : Room k X.A) (ha : EA X (e :: es) G M fun ds M1 => Meets S n ds M1 Q noX) (hg : Gl X xn := by rfl) (hdb : (xn == ("__debug__" : Str)) = false := by decide)
    (he : starEach (e :: es) X.env = (false, eval e X.env) :: starEach es X.env := by rfl) (hpl : (backTo pos (starEach es X.env)).any (·.1) = false := by rfl) : EV X (.Call (.Name xn p) (e :: es) [] pos) G M Q := .mk fun Z σ H m s Qc post pins st I => by
  obtain ⟨f, hm, fd, ps, hn, F, kp, hb⟩ := C.ex
  refine (pe_call F hr hg hm kp hb .nil passL pA hdb he hpl).run pins st σ H Qc I ?_
  refine ha Z σ H m s _ fun vs Z1 H1 ds M1 n1 r1 q1 => ?_
  rw [List.append_nil]
  exact q1.sp n1.ok r1 (post.aft n1) px_no
theorem ev_call0 {xn : Str} {Q : D → Mem → Prop} (C : Fn X.prog X.w X.K X.mg X.base k xn n S) (hr : Room k X.A) (ha : Meets S n [] M Q noX) (hg : Gl X xn := by rfl) (hdb : (xn == ("__debug__" : Str)) = false := by decide) : EV X (.Call (.Name xn p) [] [] pos) G M Q := .mk fun Z σ H m s Qc post pins st I => by
  obtain ⟨f, hm, fd, ps, hn, F, kp, hb⟩ := C.ex
  refine (pe_call0 F hr hg hm kp hb .nil passL hdb).run pins st σ H Qc I ?_
  exact ha.sp m .nil post px_no
/-- a call whose exception is wished for -/
structure EVX (X : Cx) (e : Expr) (G : Sl) (M : Mem) (Q : D → Mem → Prop) (Ex : XAT) : Prop where
  mk ::
  run : ∀ Z σ H, MOk X.K Z H M → SOk X.K Z σ G → ∀ Qc, Post X.K Z H M Q Qc → ∀ W, Takes X W → WO1 X.K Z H M σ Ex W → sE X e σ H Qc
instance {X : Cx} {e : Expr} {G : Sl} {M : Mem} {Q : D → Mem → Prop} {Ex : XAT} : CoeFun (EVX X e G M Q Ex) fun _ => ∀ Z σ H, MOk X.K Z H M → SOk X.K Z σ G → ∀ Qc, Post X.K Z H M Q Qc → ∀ W, Takes X W → WO1 X.K Z H M σ Ex W → sE X e σ H Qc := ⟨EVX.run⟩
theorem EV.tox {Q : D → Mem → Prop} {Ex : XAT} (h : EV X e G M Q) : EVX X e G M Q Ex := .mk fun Z σ H m s Qc post _ _ _ => h Z σ H m s Qc post
theorem WO1.px {ex : XAT} {W : WX} {σ : L2.St} (h : WO1 K Z H M σ ex W) : PostX K Z H M ex (WE W σ) := h
theorem evx_call {xn : Str} {Q : D → Mem → Prop} {Ex : XAT} (C : Fn X.prog X.w X.K X.mg X.base k xn n S) (hr : Room k X.A) (ha : EA X (e :: es) G M fun ds M1 => Meets S n ds M1 Q Ex) (hg : Gl X xn := by rfl) (hdb : (xn == ("__debug__" : Str)) = false := by decide)
    (he : starEach (e :: es) X.env = (false, eval e X.env) :: starEach es X.env := by rfl) (hpl : (backTo pos (starEach es X.env)).any (·.1) = false := by rfl) : EVX X (.Call (.Name xn p) (e :: es) [] pos) G M Q Ex := .mk fun Z σ H m s Qc post W tk wo pins st I => by
  obtain ⟨f, hm, fd, ps, hn, F, kp, hb⟩ := C.ex
  refine (pe_callSD (E := WE W) F hr hg hm kp hb .nil (passAt tk) pA hdb he hpl).run pins st σ H Qc I ?_
  refine ha Z σ H m s _ fun vs Z1 H1 ds M1 n1 r1 q1 => ?_
  rw [List.append_nil]
  exact q1.sp n1.ok r1 (post.aft n1) (wo.aft n1).px
/-- by a local name that holds the def -/
theorem evx_callL {xn : Str} {f : Addr} {Q : D → Mem → Prop} {Ex : XAT} (i : Nat) (hG : G[i]? = some (some (.ref f))) (C : FnA X.prog X.w X.K X.mg X.base k f n S) (hr : Room k X.A) (ha : EA X (e :: es) G M fun ds M1 => Meets S n ds M1 Q Ex) (hN : X.N[i]? = some xn := by rfl) (hv : Vis X.env.scope xn := by first | exact Or.inl rfl | exact Or.inr (Or.inl rfl) | exact Or.inr (Or.inr rfl))
    (hd : (xn == ("__debug__" : Str)) = false := by decide) (hcd : (xn == ("__classdict__" : Str)) = false := by decide) (he : starEach (e :: es) X.env = (false, eval e X.env) :: starEach es X.env := by rfl) (hpl : (backTo pos (starEach es X.env)).any (·.1) = false := by rfl) : EVX X (.Call (.Name xn p) (e :: es) [] pos) G M Q Ex := .mk fun Z σ H m s Qc post W tk wo pins st I => by
  obtain ⟨fd, ps, hn, F, kp, hb⟩ := C.ex
  obtain ⟨v, hv', r⟩ := s.at_ i _ hG
  cases r
  refine wpAny_Call_Name_kw (thn ((pe_var (pos := p) hN hv hd hcd).run pins st σ H (fun v H1 => v = .ref f ∧ H1 = H) I ⟨.ref f, hv', rfl, rfl⟩) fun u s1 hh => ?_)
  obtain ⟨v, H1, I1, r1, rfl, rfl⟩ := hh
  cases r1
  refine PySem.W.callWith_K (h₀ := X.base) I.ok.mod.kin kp (thn (ha Z σ _ m s (fun vs H1 => spOf X.K n S (vs ++ []) H1 Qc (WE W σ)) (fun vs Z1 H1 ds M1 n1 r1 q1 => ?_) pos pins s1 I1) fun us s2 hh => ?_) he hpl
  · show spOf X.K n S (vs ++ []) H1 Qc (WE W σ)
    rw [List.append_nil]
    exact q1.sp n1.ok r1 (post.aft n1) (wo.aft n1).px
  · obtain ⟨vs, H2, I2, r, q⟩ := hh
    exact ⟨I2.kIn, run_fnSD F hr hb .nil (passAt tk σ) I2 r q⟩
theorem EVX.toE {Q : D → Mem → Prop} (h : EVX X e G M Q noX) : EV X e G M Q := .mk fun Z σ H m s Qc post => h Z σ H m s Qc post _ takes0 fun _ _ _ _ _ _ _ _ _ _ _ q => q.elim
theorem sv_exprX (h : EVX X e G M (fun _ M1 => SV X rest G M1 E) (E.ex G)) (hs : swapsWith e none pos.line X.env = pure false := by rfl) : SV X (.Expr e pos :: rest) G M E :=
  sv_cons (SV1.of (ps_expr pE hs) fun Z σ H m s D0 ok => by
    obtain ⟨W, t, w⟩ := ok.ex
    exact h Z σ H m s _ (fun v Z' H' d M' n r q => ok.nx σ Z' H' G M' n (s.mono n.ez) q) W t (w.at1 s))
theorem sv_retX (h : EVX X e G M E.rt (E.ex G)) : SV X (.Return (some e) pos :: rest) G M E := sv_cons (SV1.of (ps_ret pE) fun Z σ H m s D0 ok => by
    obtain ⟨W, t, w⟩ := ok.ex
    exact h Z σ H m s _ (fun v Z' H' d M' n r q => ok.rt v Z' H' d M' n r q) W t (w.at1 s))
theorem sv_setX (i : Nat) {xn : Str} {p' : Pos} (nd : X.N.Nodup) (h : EVX X e G M (fun d M1 => SV X rest (G.set i (some d)) M1 E) (E.ex G)) (hi : X.N[i]? = some xn := by rfl) (hx : Loc X.env.scope xn := by first | exact Or.inl rfl | exact Or.inr rfl)
    (hs : swapsWith e (some (.Name xn p')) pos.line X.env = pure false := by rfl) (hf : X.fn xn = true ∨ X.env.scope.names.lookup xn = some .local := by first | exact .inl rfl | exact .inr rfl) : SV X (.Assign [.Name xn p'] e pos :: rest) G M E :=
  sv_cons (SV1.of (ps_set nd hi hx pE hs hf) fun Z σ H m s D0 ok => by
    obtain ⟨W, t, w⟩ := ok.ex
    exact h Z σ H m s _ (fun v Z' H' d M' n r q => ok.nx _ Z' H' _ M' n ((s.mono n.ez).set i r) q) W t (w.at1 s))
end
end ES

set_option Elab.async false
set_option linter.all false
set_option maxRecDepth 100000
set_option maxHeartbeats 2000000
namespace ES
open PySem PySem.Spec PyProof.Rows L2

section
variable {X : Cx} {K : PySem.W.Frag} {Z Z1 H H1 : Hp} {M M1 M2 M3 : Mem} {G : Sl} {e a b c : Expr} {es : List Expr} {d x y z : D} {xs ys ds : List D} {pos p : Pos} {E : AE} {rest : List Stmt} {st : Stmt} {k n : Nat} {S : AS}
/-! ### xs[i] += e of a cell of ints -/
def tGetN (K : PySem.W.Frag) : V → V → Hp → VK → Prop := fun o i H Q => ∃ (q : Addr) (vs : List V) (j : Nat) (v : V), o = .ref q ∧ i = .int (j : Int) ∧ j < 1000000 ∧ SqL K H q vs ∧ vs[j]? = some v ∧ Q v H
theorem get_n : PGet X (tGetN X.K) := by
  rintro pins s σ H o i ov iv Q I ro ri ⟨q, vs, j, v, rfl, rfl, hj, hs, hv, hQ⟩
  cases ro
  obtain ⟨t, rfl⟩ := ri
  obtain ⟨its, r, pl, hz⟩ := I.list hs
  obtain ⟨u, hu, ru⟩ := r.get hv
  exact wpAny_getItem_list pl.isList (by omega) (by omega) (by simpa using hu) ⟨v, H, I, ru, hQ⟩
theorem sv_augItem {op : Operator} {f : Int → Int → Int} {q : Addr} {o ie : Expr} {tpos : Pos} {j : Nat} {u w : Int} (kk : Nat) (hp : PIp X op (ipI f)) (ho : EVd X o G M (.ref q) M1) (hi : EVd X ie G M1 (.int (j : Int)) M2) (hM : M2[kk]? = some (q, .lst ds)) (hd : ds[j]? = some (.int u)) (hj : j < 1000000) (he : EVd X e G M2 (.int w) M2)
    (h : SV X rest G (M2.set kk (q, .lst (ds.set j (.int (f u w))))) E) (ha : ∀ ov iv new, augStore ie ov iv new = (do holding [new, ov, iv] (setItem ov iv new); release [new, ov, iv] []; pure .next) := by intros; rfl) :
    SV X (.AugAssign (.Subscript o ie tpos) op e pos :: rest) G M E :=
  sv_cons (SV1.of (ps_augS pE pE get_n pE hp set_list ha) fun Z σ H m s D0 ok => by
    refine ho Z σ H m s _ fun v Z1 H1 x M1 n1 r1 q1 => ?_
    obtain ⟨rfl, rfl⟩ := q1
    cases r1
    refine hi Z1 σ H1 n1.ok (s.mono n1.ez) _ fun v Z2 H2 x M2 n2 r2 q2 => ?_
    obtain ⟨rfl, rfl⟩ := q2
    cases r2
    obtain ⟨_, vs, hv, rs⟩ := n2.ok.cell _ (List.mem_of_getElem? hM)
    obtain ⟨v0, hv0, r0⟩ := rs.get hd
    cases r0
    refine ⟨q, vs, j, _, rfl, rfl, hj, SqL.of hv, hv0, ?_⟩
    refine he Z2 σ H2 n2.ok ((s.mono n1.ez).mono n2.ez) _ fun v Z3 H3 x M3 n3 r3 q3 => ?_
    obtain ⟨rfl, rfl⟩ := q3
    cases r3
    obtain ⟨_, ws, hw, rw3⟩ := n3.ok.cell _ (List.mem_of_getElem? hM)
    have hl : j < ws.length := by rw [rw3.length]; exact (List.getElem?_eq_some_iff.mp hd).1
    refine ⟨u, w, rfl, rfl, q, ws, (j : Int), j, rfl, rfl, hw, ?_, ?_⟩
    · unfold ixN
      rw [if_pos (by omega), if_pos (by omega)]
      simp
    have n4 := Nx.write (o := .lst (ws.set j (.int (f u w)))) (c' := .lst (ds.set j (.int (f u w)))) n3.ok hM ⟨_, upd_same, rw3.set j (.int _)⟩
    exact ok.nx σ _ _ G _ (((n1.trans n2).trans n3).trans n4) ((((s.mono n1.ez).mono n2.ez).mono n3.ez).mono n4.ez) h)

/-! ### list(range(..)) -/
theorem reps_rgV {lo hi : Int} : Reps K Z (rgV lo hi) (rng lo (hi - lo).toNat) := by
  unfold rgV rng
  generalize List.range (hi - lo).toNat = l
  induction l with
  | nil => exact .nil
  | cons i l ih => exact .cons (.int _) ih
theorem ev_listRng {n : Int} {Q : D → Mem → Prop} (hc : X.calm = true) (hm : X.mg "list" = none) (hm2 : X.mg "range" = none) (h : EVd X a G M (.int n) M1) (hn : n ≤ 1000000 ∧ -1000000 ≤ n) (kk : NewL (rng 0 n.toNat) M1 Q) {p2 pos2 : Pos} (hg : Gl X "list" := by rfl) (hg2 : Gl X "range" := by rfl) (na : starEach [a] X.env = (false, eval a X.env) :: starEach [] X.env := by rfl)
    (nb : starEach [.Call (.Name "range" p2) [a] [] pos2] X.env = (false, eval (.Call (.Name "range" p2) [a] [] pos2) X.env) :: starEach [] X.env := by rfl) : EV X (.Call (.Name "list" p) [.Call (.Name "range" p2) [a] [] pos2] [] pos) G M Q := .mk fun Z σ H m s Qc post pins st I => by
  refine (pe_listRg hc hg hm (prg_1 hg2 hm2 pE na) nb).run pins st σ H Qc I ?_
  refine h Z σ H m s _ fun v Z1 H1 x M1 n1 r1 q1 => ?_
  obtain ⟨rfl, rfl⟩ := q1
  cases r1
  refine ⟨n, rfl, ⟨by omega, by omega, by omega, by omega, by omega⟩, fun q hq => ?_⟩
  have r := @reps_rgV X.K Z1 0 n
  rw [Int.sub_zero] at r
  exact kk.post n1.ok (post.aft n1) hq r
theorem e_listRng {n : Int} (hc : X.calm = true) (hm : X.mg "list" = none) (hm2 : X.mg "range" = none) (h : EVd X a G M (.int n) M1) (hn : n ≤ 1000000 ∧ -1000000 ≤ n) {p2 pos2 : Pos} (hg : Gl X "list" := by rfl) (hg2 : Gl X "range" := by rfl) (na : starEach [a] X.env = (false, eval a X.env) :: starEach [] X.env := by rfl)
    (nb : starEach [.Call (.Name "range" p2) [a] [] pos2] X.env = (false, eval (.Call (.Name "range" p2) [a] [] pos2) X.env) :: starEach [] X.env := by rfl) : EVd X (.Call (.Name "list" p) [.Call (.Name "range" p2) [a] [] pos2] [] pos) G M (.lst (rng 0 n.toNat)) M1 := ev_listRng hc hm hm2 h hn .is hg hg2 na nb
theorem rng0 (n : Nat) : rng 0 n = ((List.range n).map fun (k : Nat) => (k : Int)).map D.int := by
  unfold rng
  rw [List.map_map]
  apply List.map_congr_left
  intro i _
  simp

/-! ### isinstance by the built-in classes -/
def D.cls : D → Option String
  | .non => some "NoneType"
  | .bl _ => some "bool"
  | .int _ => some "int"
  | .str _ => some "str"
  | .lst _ => some "list"
  | .tup _ => some "tuple"
  | _ => none
theorem ty_rep {v : V} {t : String} (r : Rep K Z v d) (h : d.cls = some t) (ex : Ex Z H) : TyX K H v (.type t) := by
  cases r with
  | non => cases h; exact .base .non
  | bl b => cases h; exact .base (.bl b)
  | int i => cases h; exact .base (.int i)
  | str s => cases h; exact .base (.str s)
  | lst h1 _ => cases h; exact .base (.lst (ex _ _ h1))
  | tup h1 _ =>
    cases h
    rcases ex_t ex h1 with (h2 | ⟨o, h2⟩) | ⟨o, its, n, h2, h3, _⟩
    · exact .base (.tup h2)
    · exact .fTuple h2
    · exact .kTuple h2 h3
  | _ => cases h
/-- a built-in class as a value -/
theorem e_bty {xn : Str} {T : String} (hm : X.mg xn = none) (hv : bootBuiltins xn = some (.type T)) (hg : Gl X xn := by rfl) (hn : xn ≠ "__name__" := by decide) (hd : (xn == ("__debug__" : Str)) = false := by decide) : EVd X (.Name xn p) G M (.ty T) M := .mk fun Z σ H m s Qc post pins st I =>
  (pe_bltn (v := .ty T) hg hm hv rfl hn hd).run pins st σ H Qc I (post _ Z H _ M (Nx.refl m) (.ty T) ⟨rfl, rfl⟩)
theorem e_isi {T t : String} {r : Bool} (hm : X.mg "isinstance" = none) (h : EVd X a G M d M1) (h2 : EVd X b G M1 (.ty T) M2) (ht : d.cls = some t) (hk : kitB t T = some r) (hg : Gl X "isinstance" := by rfl) (he : starEach [a, b] X.env = (false, eval a X.env) :: starEach [b] X.env := by rfl) (he2 : starEach [b] X.env = (false, eval b X.env) :: starEach [] X.env := by rfl)
    (hpl : (backTo pos (starEach [b] X.env)).any (·.1) = false := by rfl) : EVd X (.Call (.Name "isinstance" p) [a, b] [] pos) G M (.bl r) M2 :=
  ev_fn ((a_cons h (a_cons h2 a_nil he2) he).to ⟨_, call_isi, fun Z H vs m rr Qc post => by
    cases rr with
    | cons r1 rr =>
      cases rr with
      | cons r2 rr =>
        cases rr
        cases r2
        exact ⟨_, _, _, _, r, rfl, .ty T, ty_rep r1 ht m.ex, kit_ty hk, post _ _ _ _ _ (Nx.refl m) (.bl r) ⟨rfl, rfl⟩⟩⟩) hm bb_isi hg (by decide) (by decide) he hpl
/-- isinstance(x, (A, B)) -/
theorem e_isi2 {T1 T2 t : String} {r1 r2 : Bool} {c : Expr} {kt : Nat} {tpos : Pos} (hm : X.mg "isinstance" = none) (h : EVd X a G M d M1) (h2 : EVd X b G M1 (.ty T1) M2) (h3 : EVd X c G M2 (.ty T2) M3) (ht : d.cls = some t) (hk : kitB t T1 = some r1) (hk2 : kitB t T2 = some r2) (hg : Gl X "isinstance" := by rfl)
    (he : starEach [a, .Tuple [b, c] kt tpos] X.env = (false, eval a X.env) :: starEach [.Tuple [b, c] kt tpos] X.env := by rfl) (he2 : starEach [.Tuple [b, c] kt tpos] X.env = (false, eval (.Tuple [b, c] kt tpos) X.env) :: starEach [] X.env := by rfl)
    (he3 : starEach [b, c] X.env = (false, eval b X.env) :: starEach [c] X.env := by rfl) (he4 : starEach [c] X.env = (false, eval c X.env) :: starEach [] X.env := by rfl)
    (hpl : (backTo pos (starEach [.Tuple [b, c] kt tpos] X.env)).any (·.1) = false := by rfl) : EVd X (.Call (.Name "isinstance" p) [a, .Tuple [b, c] kt tpos] [] pos) G M (.bl (r1 || r2)) M3 := .mk fun Z σ H m s Qc post pins st I => by
  refine (pe_callB call_isiT hg hm bb_isi (pa_cons pE (pa_cons (pe_tup (pa_cons pE (pa_cons pE pa_nil he4) he3)) pa_nil he2) he) (by decide) (by decide) he hpl).run pins st σ H Qc I ?_
  refine h Z σ H m s _ fun v Z1 H1 x M1 n1 q1 e1 => ?_
  obtain ⟨rfl, rfl⟩ := e1
  refine h2 Z1 σ H1 n1.ok (s.mono n1.ez) _ fun u Z2 H2 y M2 n2 q2 e2 => ?_
  obtain ⟨rfl, rfl⟩ := e2
  cases q2
  refine h3 Z2 σ H2 n2.ok ((s.mono n1.ez).mono n2.ez) _ fun u Z3 H3 y M3 n3 q3 e3 => ?_
  obtain ⟨rfl, rfl⟩ := e3
  cases q3
  refine ⟨by show 2 ≤ sizeLine; decide, fun tp htp => ?_⟩
  have n4 := Nx.froze (o := .tup [.ty T1, .ty T2]) n3.ok htp
  refine ⟨v, tp, _, _, _, (r1 || r2), rfl, upd_same, .cons (.ty T1) (.cons (.ty T2) .nil), ty_rep q1 ht ((n2.ez.trans (n3.ez.trans n4.ez)).trans n4.ok.ex), ?_, post _ _ _ _ _ (((n1.trans n2).trans n3).trans n4) (.bl _) ⟨rfl, rfl⟩⟩
  refine kitAny_cons (kit_ty hk) (fun e => kitAny_cons (kit_ty hk2) (fun e2 => ?_) fun e2 => ?_) fun e => ?_
  · rw [e, e2]; exact kitAny_nil
  · rw [e, e2]; rfl
  · rw [e]; rfl

/-! ### in, not in: flat items -/
def D.flat : D → Bool
  | .non => true
  | .bl _ => true
  | .int _ => true
  | .str _ => true
  | _ => false
/-- == of flat data, as Python has it -/
def D.eqF : D → D → Bool
  | .non, .non => true
  | .bl a, .bl b => a == b
  | .bl a, .int b => (if a then 1 else 0) == b
  | .int a, .bl b => a == (if b then 1 else 0)
  | .int a, .int b => a == b
  | .str a, .str b => a == b
  | _, _ => false
theorem flat_rep {v : V} (r : Rep K Z v d) (h : d.flat = true) : flatV v = true := by cases r <;> first | rfl | cases h
theorem flat_reps : ∀ {ds : List D} {vs : List V}, Reps K Z vs ds → ds.all D.flat = true → vs.all flatV = true
  | _, _, .nil, _ => rfl
  | _, _, .cons r rs, h => by
    rw [List.all_cons, Bool.and_eq_true] at h ⊢
    exact ⟨flat_rep r h.1, flat_reps rs h.2⟩
theorem eqF_rep {v u : V} (r : Rep K Z v x) (r' : Rep K Z u y) (h : x.flat = true) (h' : y.flat = true) : eqV v u = D.eqF x y := by
  cases r <;> first | (cases h; done) | skip
  all_goals cases r' <;> first | (cases h'; done) | rfl
theorem inV_rep {v : V} (r : Rep K Z v x) (hx : x.flat = true) : ∀ {ds : List D} {vs : List V}, Reps K Z vs ds → ds.all D.flat = true → inV v vs = ds.any fun y => D.eqF y x
  | _, _, .nil, _ => rfl
  | _, _, .cons r1 rs, h => by
    rw [List.all_cons, Bool.and_eq_true] at h
    have ih := inV_rep r hx rs h.2
    unfold inV at ih ⊢
    rw [List.any_cons, List.any_cons, eqF_rep r1 r h.1 hx, ih]
theorem c_in (hx : x.flat = true) (hd : ds.all D.flat = true) (hy : y = .lst ds ∨ y = .tup ds) : CD X .In x y M (ds.any fun z => D.eqF z x) := ⟨_, op_in_seq, fun Z H v u m r1 r2 Qc q => by
  rcases hy with rfl | rfl
  · cases r2 with
    | @lst a1 v1 _ g1 s1 => exact ⟨a1, v1, rfl, .inl (SqL.of (m.ex _ _ g1)), flat_rep r1 hx, flat_reps s1 hd, by rw [inV_rep r1 hx s1 hd]; exact q⟩
  · cases r2 with
    | @tup a1 v1 _ g1 s1 => exact ⟨a1, v1, rfl, .inr (ex_t m.ex g1), flat_rep r1 hx, flat_reps s1 hd, by rw [inV_rep r1 hx s1 hd]; exact q⟩⟩
theorem c_notIn (hx : x.flat = true) (hd : ds.all D.flat = true) (hy : y = .lst ds ∨ y = .tup ds) : CD X .NotIn x y M (!ds.any fun z => D.eqF z x) := ⟨_, op_notIn_seq, fun Z H v u m r1 r2 Qc q => by
  rcases hy with rfl | rfl
  · cases r2 with
    | @lst a1 v1 _ g1 s1 => exact ⟨a1, v1, rfl, .inl (SqL.of (m.ex _ _ g1)), flat_rep r1 hx, flat_reps s1 hd, by rw [inV_rep r1 hx s1 hd]; exact q⟩
  · cases r2 with
    | @tup a1 v1 _ g1 s1 => exact ⟨a1, v1, rfl, .inr (ex_t m.ex g1), flat_rep r1 hx, flat_reps s1 hd, by rw [inV_rep r1 hx s1 hd]; exact q⟩⟩
/-- of a cell -/
theorem c_inC {q : Addr} (kk : Nat) (hM : M[kk]? = some (q, .lst ds)) (hx : x.flat = true) (hd : ds.all D.flat = true) : CD X .In x (.ref q) M (ds.any fun z => D.eqF z x) := ⟨_, op_in_seq, fun Z H v u m r1 r2 Qc qq => by
  cases r2
  obtain ⟨_, vs, hv, rs⟩ := m.cell _ (List.mem_of_getElem? hM)
  exact ⟨q, vs, rfl, .inl (SqL.of hv), flat_rep r1 hx, flat_reps rs hd, by rw [inV_rep r1 hx rs hd]; exact qq⟩⟩
theorem flat_ints (ns : List Int) : (ns.map D.int).all D.flat = true := by rw [List.all_map]; simp [D.flat]
theorem any_ints (i : Int) (ns : List Int) : ((ns.map D.int).any fun z => D.eqF z (.int i)) = decide (i ∈ ns) := by
  induction ns with
  | nil => rfl
  | cons n ns ih =>
    rw [List.map_cons, List.any_cons, ih]
    show (n == i || decide (i ∈ ns)) = decide (i ∈ n :: ns)
    by_cases h : n = i
    · subst h; simp
    · have h2 : ¬ i = n := fun z => h z.symm
      simp [h, h2]
theorem c_inI {i : Int} {ns : List Int} : CD X .In (.int i) (.lst (ns.map D.int)) M (decide (i ∈ ns)) := by
  rw [← any_ints]
  exact c_in rfl (flat_ints ns) (.inl rfl)
theorem c_notInI {i : Int} {ns : List Int} : CD X .NotIn (.int i) (.lst (ns.map D.int)) M (!decide (i ∈ ns)) := by
  rw [← any_ints]
  exact c_notIn rfl (flat_ints ns) (.inl rfl)

/-! ### == at any depth -/
mutual
inductive Py : D → PyData → Prop
  | non : Py .non .none
  | bl (b : Bool) : Py (.bl b) (.bool b)
  | int (i : Int) : Py (.int i) (.int i)
  | str (s : Str) : Py (.str s) (.str s)
  | lst {ds : List D} {ps : List PyData} : Pys ds ps → Py (.lst ds) (.list ps)
  | tup {ds : List D} {ps : List PyData} : Pys ds ps → Py (.tup ds) (.tuple ps)
inductive Pys : List D → List PyData → Prop
  | nil : Pys [] []
  | cons {d : D} {ds : List D} {p : PyData} {ps : List PyData} : Py d p → Pys ds ps → Pys (d :: ds) (p :: ps)
end
mutual
theorem dp_of (ex : Ex Z H) : ∀ {d : D} {q : PyData} {v : V}, Py d q → Rep K Z v d → Dp K H v q
  | _, _, _, .non, .non => .non
  | _, _, _, .bl b, .bl _ => .bl b
  | _, _, _, .int i, .int _ => .int i
  | _, _, _, .str s, .str _ => .str s
  | _, _, _, .lst h, .lst h1 r => .lst (SqL.of (ex _ _ h1)) (dps_of ex h r)
  | _, _, _, .tup h, .tup h1 r => .tup (ex_t ex h1) (dps_of ex h r)
theorem dps_of (ex : Ex Z H) : ∀ {ds : List D} {qs : List PyData} {vs : List V}, Pys ds qs → Reps K Z vs ds → DpAll K H vs qs
  | _, _, _, .nil, .nil => .nil
  | _, _, _, .cons h hs, .cons r rs => .cons (dp_of ex h r) (dps_of ex hs rs)
end
theorem c_eqD {p1 p2 : PyData} (hu : X.A.units + 64 < cLine) (h1 : Py x p1) (h2 : Py y p2) (s1 : SeqAt.shaped p1 = true) (s2 : SeqAt.shaped p2 = true) : CD X .Eq x y M (PyData.eqv p1 p2) := ⟨_, op_eqD hu, fun Z H v u m r1 r2 Qc q => ⟨p1, p2, dp_of m.ex h1 r1, dp_of m.ex h2 r2, s1, s2, q⟩⟩
theorem c_neD {p1 p2 : PyData} (hu : X.A.units + 64 < cLine) (h1 : Py x p1) (h2 : Py y p2) (s1 : SeqAt.shaped p1 = true) (s2 : SeqAt.shaped p2 = true) : CD X .NotEq x y M (!PyData.eqv p1 p2) := ⟨_, op_neD hu, fun Z H v u m r1 r2 Qc q => ⟨p1, p2, dp_of m.ex h1 r1, dp_of m.ex h2 r2, s1, s2, q⟩⟩
theorem c_inDp {p1 : PyData} {ps : List PyData} (hu : X.A.units + 65 < cLine) (h1 : Py x p1) (h2 : Py y (.list ps)) (s1 : SeqAt.shaped p1 = true) (s2 : SeqAt.shaped (.list ps) = true) : CD X .In x y M (ps.any fun z => PyData.eqv z p1) := ⟨_, op_inD hu, fun Z H v u m r1 r2 Qc q => ⟨p1, ps, dp_of m.ex h1 r1, dp_of m.ex h2 r2, s1, s2, q⟩⟩
theorem c_notInDp {p1 : PyData} {ps : List PyData} (hu : X.A.units + 65 < cLine) (h1 : Py x p1) (h2 : Py y (.list ps)) (s1 : SeqAt.shaped p1 = true) (s2 : SeqAt.shaped (.list ps) = true) : CD X .NotIn x y M (!ps.any fun z => PyData.eqv z p1) := ⟨_, op_notInD hu, fun Z H v u m r1 r2 Qc q => ⟨p1, ps, dp_of m.ex h1 r1, dp_of m.ex h2 r2, s1, s2, q⟩⟩
/-- data of a type, with an == that is its own -/
class Enc (α : Type) where
  en : α → D
  py : α → PyData
  dp : Nat
  ok : ∀ a, Py (en a) (py a)
  lay : ∀ a, (py a).canLay0 = true
  dep : ∀ a, (py a).depth ≤ dp
  eqv : ∀ a b, PyData.eqv (py a) (py b) = true ↔ a = b
instance encInt : Enc Int where
  en := .int
  py := .int
  dp := 1
  ok := .int
  lay := fun _ => rfl
  dep := fun _ => by simp [PyData.depth]
  eqv := fun a b => by simp [PyData.eqv]
section enc
variable {α β : Type} [Enc α] [Enc β]
theorem pys_map : ∀ l : List α, Pys (l.map Enc.en) (l.map Enc.py)
  | [] => .nil
  | a :: l => .cons (Enc.ok a) (pys_map l)
theorem lay_map : ∀ l : List α, PyData.canLayAll0 (l.map Enc.py) = true
  | [] => rfl
  | a :: l => by rw [List.map_cons]; simp [PyData.canLayAll0, Enc.lay a, lay_map l]
theorem dep_map : ∀ l : List α, PyData.depthAll (l.map Enc.py) ≤ Enc.dp α
  | [] => by simp [PyData.depthAll]
  | a :: l => by
    rw [List.map_cons]
    have h1 := Enc.dep a
    have h2 := dep_map l
    simp [PyData.depthAll]
    omega
theorem eqv_map : ∀ l m : List α, PyData.eqvAll (l.map Enc.py) (m.map Enc.py) = true ↔ l = m
  | [], [] => by simp [PyData.eqvAll]
  | [], _ :: _ => by simp [PyData.eqvAll]
  | _ :: _, [] => by simp [PyData.eqvAll]
  | a :: l, b :: m => by
    rw [List.map_cons, List.map_cons]
    simp only [PyData.eqvAll, Bool.and_eq_true, Enc.eqv, eqv_map l m, List.cons.injEq]
instance encList : Enc (List α) where
  en := fun l => .lst (l.map Enc.en)
  py := fun l => .list (l.map Enc.py)
  dp := Enc.dp α + 1
  ok := fun l => .lst (pys_map l)
  lay := fun l => by simp [PyData.canLay0, lay_map l]
  dep := fun l => by
    have := dep_map l
    simp [PyData.depth]
    omega
  eqv := fun l m => by simp only [PyData.eqv, eqv_map]
instance encPair : Enc (α × β) where
  en := fun x => .tup [Enc.en x.1, Enc.en x.2]
  py := fun x => .tuple [Enc.py x.1, Enc.py x.2]
  dp := max (Enc.dp α) (Enc.dp β) + 1
  ok := fun x => .tup (.cons (Enc.ok x.1) (.cons (Enc.ok x.2) .nil))
  lay := fun x => by simp [PyData.canLay0, PyData.canLayAll0, Enc.lay]
  dep := fun x => by
    have h1 := Enc.dep x.1
    have h2 := Enc.dep x.2
    simp [PyData.depth, PyData.depthAll]
    omega
  eqv := fun x y => by
    obtain ⟨a, b⟩ := x
    obtain ⟨c, d⟩ := y
    simp only [PyData.eqv, PyData.eqvAll, Bool.and_eq_true, Enc.eqv, Prod.mk.injEq, and_true]
theorem enc_shaped (a : α) (h : Enc.dp α ≤ 64) : SeqAt.shaped (Enc.py a) = true := by
  unfold SeqAt.shaped
  rw [Enc.lay a, decide_eq_true (Nat.le_trans (Enc.dep a) h)]
  rfl
theorem enc_eqv [DecidableEq α] (a b : α) : PyData.eqv (Enc.py a) (Enc.py b) = decide (a = b) := by
  by_cases h : a = b
  · rw [decide_eq_true h]; exact (Enc.eqv a b).mpr h
  · rw [decide_eq_false h]
    cases e : PyData.eqv (Enc.py a) (Enc.py b) with
    | false => rfl
    | true => exact absurd ((Enc.eqv a b).mp e) h
theorem c_eqE [DecidableEq α] (u v : α) (hu : X.A.units + 64 < cLine) (h : Enc.dp α ≤ 64 := by decide) : CD X .Eq (Enc.en u) (Enc.en v) M (decide (u = v)) := by
  rw [← enc_eqv]
  exact c_eqD hu (Enc.ok u) (Enc.ok v) (enc_shaped u h) (enc_shaped v h)
theorem c_neE [DecidableEq α] (u v : α) (hu : X.A.units + 64 < cLine) (h : Enc.dp α ≤ 64 := by decide) : CD X .NotEq (Enc.en u) (Enc.en v) M (!decide (u = v)) := by
  rw [← enc_eqv]
  exact c_neD hu (Enc.ok u) (Enc.ok v) (enc_shaped u h) (enc_shaped v h)
theorem any_py [DecidableEq α] (u : α) (l : List α) : ((l.map Enc.py).any fun z => PyData.eqv z (Enc.py u)) = decide (u ∈ l) := by
  induction l with
  | nil => rfl
  | cons a l ih =>
    rw [List.map_cons, List.any_cons, ih, enc_eqv]
    by_cases h : a = u
    · subst h; simp
    · have h2 : ¬ u = a := fun z => h z.symm
      simp [h, h2]
theorem c_inE [DecidableEq α] (u : α) (l : List α) (hu : X.A.units + 65 < cLine) (h : Enc.dp α + 1 ≤ 64 := by decide) : CD X .In (Enc.en u) (.lst (l.map Enc.en)) M (decide (u ∈ l)) := by
  rw [← any_py]
  exact c_inDp hu (Enc.ok u) (Enc.ok l) (enc_shaped u (by omega)) (enc_shaped l h)
theorem c_notInE [DecidableEq α] (u : α) (l : List α) (hu : X.A.units + 65 < cLine) (h : Enc.dp α + 1 ≤ 64 := by decide) : CD X .NotIn (Enc.en u) (.lst (l.map Enc.en)) M (!decide (u ∈ l)) := by
  rw [← any_py]
  exact c_notInDp hu (Enc.ok u) (Enc.ok l) (enc_shaped u (by omega)) (enc_shaped l h)
end enc
/-- xs == [] -/
theorem c_eqNil {ps : List PyData} (hu : X.A.units + 64 < cLine) (h1 : Pys ds ps) (s1 : SeqAt.shaped (.list ps) = true) : CD X .Eq (.lst ds) (.lst []) M ds.isEmpty := by
  have e : PyData.eqv (.list ps) (.list []) = ds.isEmpty := by cases h1 <;> simp [PyData.eqv, PyData.eqvAll]
  rw [← e]
  exact c_eqD hu (.lst h1) (.lst .nil) s1 (by decide)
theorem c_neNil {ps : List PyData} (hu : X.A.units + 64 < cLine) (h1 : Pys ds ps) (s1 : SeqAt.shaped (.list ps) = true) : CD X .NotEq (.lst ds) (.lst []) M (!ds.isEmpty) := by
  have e : PyData.eqv (.list ps) (.list []) = ds.isEmpty := by cases h1 <;> simp [PyData.eqv, PyData.eqvAll]
  rw [← e]
  exact c_neD hu (.lst h1) (.lst .nil) s1 (by decide)
/-- a < b < c of ints -/
theorem e_chain {op op' : CmpOp} {k1 k2 : Bool} (h1 : EVd X a G M x M) (h2 : EVd X b G M y M) (h3 : EVd X c G M z M) (hc : CD X op x y M k1) (hc2 : CD X op' y z M k2) (hm : lastMarks [op, op'] [b, c] = false := by with_unfolding_all rfl) : EVd X (.Compare a [op, op'] [b, c] pos) G M (.bl (k1 && k2)) M := .mk fun Z σ H m s Qc post pins st I => by
  obtain ⟨r, ho, hr⟩ := hc
  obtain ⟨r', ho', hr'⟩ := hc2
  refine (pe_chain ho ho' pE pE pE hm).run pins st σ H Qc I ?_
  refine h1 Z σ H m s _ fun v Z1 H1 x M1 n1 r1 q1 => ?_
  obtain ⟨rfl, rfl⟩ := q1
  refine h2 Z1 σ H1 n1.ok (s.mono n1.ez) _ fun u Z2 H2 y M2 n2 r2 q2 => ?_
  obtain ⟨rfl, rfl⟩ := q2
  refine hr Z2 H2 v u n2.ok (r1.mono n2.ez) r2 _ ⟨k1, rfl, ?_⟩
  cases k1 with
  | false => exact iteF (post _ Z2 H2 _ _ (n1.trans n2) (.bl _) ⟨rfl, rfl⟩)
  | true =>
    refine iteT (h3 Z2 σ H2 n2.ok ((s.mono n1.ez).mono n2.ez) _ fun w Z3 H3 z M3 n3 r3 q3 => ?_)
    obtain ⟨rfl, rfl⟩ := q3
    exact hr' Z3 H3 u w n3.ok (r2.mono n3.ez) r3 _ (post _ Z3 H3 _ _ ((n1.trans n2).trans n3) (.bl _) ⟨rfl, rfl⟩)
theorem t_chain {op op' : CmpOp} {k1 k2 : Bool} (h1 : EVd X a G M x M) (h2 : EVd X b G M y M) (h3 : EVd X c G M z M) (hc : CD X op x y M k1) (hc2 : CD X op' y z M k2) (hm : lastMarks [op, op'] [b, c] = false := by with_unfolding_all rfl) : ETd X (.Compare a [op, op'] [b, c] pos) G M (k1 && k2) M := .mk fun Z σ H m s Qc post pins st I => by
  obtain ⟨r, ho, hr⟩ := hc
  obtain ⟨r', ho', hr'⟩ := hc2
  refine (pt_chain ho ho' pE pE pE hm).run pins st σ H Qc I ?_
  refine h1 Z σ H m s _ fun v Z1 H1 x M1 n1 r1 q1 => ?_
  obtain ⟨rfl, rfl⟩ := q1
  refine h2 Z1 σ H1 n1.ok (s.mono n1.ez) _ fun u Z2 H2 y M2 n2 r2 q2 => ?_
  obtain ⟨rfl, rfl⟩ := q2
  refine hr Z2 H2 v u n2.ok (r1.mono n2.ez) r2 _ ⟨k1, rfl, ?_⟩
  cases k1 with
  | false => exact iteF ⟨false, rfl, post _ Z2 H2 _ (n1.trans n2) ⟨rfl, rfl⟩⟩
  | true =>
    refine iteT (h3 Z2 σ H2 n2.ok ((s.mono n1.ez).mono n2.ez) _ fun w Z3 H3 z M3 n3 r3 q3 => ?_)
    obtain ⟨rfl, rfl⟩ := q3
    exact hr' Z3 H3 u w n3.ok (r2.mono n3.ez) r3 _ ⟨k2, rfl, post _ Z3 H3 _ ((n1.trans n2).trans n3) ⟨by simp, rfl⟩⟩
end
end ES

set_option Elab.async false
set_option linter.all false
set_option maxRecDepth 100000
set_option maxHeartbeats 2000000
namespace ES
open PySem PySem.Spec PyProof.Rows L2

/-! ### instances of own classes -/
def putD (f : Str) (v : D) : List (Str × D) → List (Str × D)
  | [] => [(f, v)]
  | (g, x) :: r => if g = f then (g, v) :: r else (g, x) :: putD f v r
section
variable {X : Cx} {K : PySem.W.Frag} {Z Z1 H H1 : Hp} {M M1 M2 M3 : Mem} {G : Sl} {e o a b c : Expr} {es : List Expr} {d x y z : D} {xs ys ds : List D} {pos p : Pos} {E : AE} {rest : List Stmt} {st : Stmt} {k n : Nat} {S : AS} {f : Str} {C : Addr} {fs : List (Str × D)}
theorem repF_put {v : V} {d : D} (r : Rep K Z v d) : ∀ {vs : List (Str × V)} {fs : List (Str × D)}, RepF K Z vs fs → RepF K Z (putF f v vs) (putD f d fs)
  | _, _, .nil => .cons r .nil
  | _, _, .cons (f := g) h t => by
    unfold putF putD
    split
    · exact .cons r t
    · exact .cons h (repF_put r t)
theorem repF_len : ∀ {vs : List (Str × V)} {fs : List (Str × D)}, RepF K Z vs fs → vs.length = fs.length
  | _, _, .nil => rfl
  | _, _, .cons _ t => congrArg (· + 1) (repF_len t)
theorem repF_look : ∀ {vs : List (Str × V)} {fs : List (Str × D)} {d : D}, RepF K Z vs fs → fs.lookup f = some d → ∃ v, vs.lookup f = some v ∧ Rep K Z v d
  | _, _, _, .nil, e => by cases e
  | _, _, d, .cons (f := g) h t, e => by
    rw [List.lookup_cons] at e ⊢
    cases hb : f == g with
    | true => rw [hb] at e; cases e; exact ⟨_, rfl, h⟩
    | false => rw [hb] at e; exact repF_look t e
theorem repF_none : ∀ {vs : List (Str × V)} {fs : List (Str × D)}, RepF K Z vs fs → fs.lookup f = none → vs.lookup f = none
  | _, _, .nil, _ => rfl
  | _, _, .cons (f := g) h t, e => by
    rw [List.lookup_cons] at e ⊢
    cases hb : f == g with
    | true => rw [hb] at e; cases e
    | false => rw [hb] at e; exact repF_none t e
/-- o.f of a frozen instance -/
theorem e_fld (cl : Cls X.K C) (na : NoAttr X.K C f) (h : EVd X o G M (.ins C fs) M1) (hl : fs.lookup f = some d) (hb : attributeBase o f X.env (eval o X.env) = eval o X.env := by rfl) : EVd X (.Attribute o f pos) G M d M1 := .mk fun Z σ H m s Qc post pins st I => by
  refine (pe_fld pE hb).run pins st σ H Qc I ?_
  refine h Z σ H m s _ fun v Z1 H1 x M1 n1 r1 q1 => ?_
  obtain ⟨rfl, rfl⟩ := q1
  cases r1 with
  | @ins a C dx vs ds h1 rs =>
    obtain ⟨w, h2, h3⟩ := repF_look rs hl
    exact ⟨a, C, dx, vs, w, rfl, n1.ok.ex _ _ h1, cl, na, h2, post _ _ _ _ _ n1 h3 ⟨rfl, rfl⟩⟩
/-- of a cell -/
theorem e_fldC {q : Addr} (kk : Nat) (cl : Cls X.K C) (na : NoAttr X.K C f) (h : EVd X o G M (.ref q) M1) (hM : M1[kk]? = some (q, .ins C fs)) (hl : fs.lookup f = some d) (hb : attributeBase o f X.env (eval o X.env) = eval o X.env := by rfl) : EVd X (.Attribute o f pos) G M d M1 := .mk fun Z σ H m s Qc post pins st I => by
  refine (pe_fld pE hb).run pins st σ H Qc I ?_
  refine h Z σ H m s _ fun v Z1 H1 x M1 n1 r1 q1 => ?_
  obtain ⟨rfl, rfl⟩ := q1
  cases r1
  obtain ⟨_, dx, vs, h1, rs⟩ := n1.ok.cell _ (List.mem_of_getElem? hM)
  obtain ⟨w, h2, h3⟩ := repF_look rs hl
  exact ⟨q, C, dx, vs, w, rfl, h1, cl, na, h2, post _ _ _ _ _ n1 h3 ⟨rfl, rfl⟩⟩
/-- o.f = e of a cell -/
theorem sv_fld {q : Addr} {spos : Pos} (kk : Nat) (cl : Cls X.K C) (na : NoAttr X.K C f) (h : EVd X e G M d M1) (ho : EVd X o G M1 (.ref q) M2) (hM : M2[kk]? = some (q, .ins C fs)) (hz : fs.length < 1000) (hk : SV X rest G (M2.set kk (q, .ins C (putD f d fs))) E)
    (hs : swapsWith e (some (.Attribute o f p)) spos.line X.env = pure false := by rfl) : SV X (.Assign [.Attribute o f p] e spos :: rest) G M E :=
  sv_cons (SV1.of (ps_fld pE pE hs) fun Z σ H m s D0 ok => by
    refine h Z σ H m s _ fun v Z1 H1 x M1 n1 r1 q1 => ?_
    obtain ⟨rfl, rfl⟩ := q1
    refine ho Z1 σ H1 n1.ok (s.mono n1.ez) _ fun u Z2 H2 y M2 n2 r2 q2 => ?_
    obtain ⟨rfl, rfl⟩ := q2
    cases r2
    obtain ⟨_, dx, vs, h1, rs⟩ := n2.ok.cell _ (List.mem_of_getElem? hM)
    refine ⟨q, C, dx, vs, rfl, h1, cl, na, by rw [repF_len rs]; exact hz, ?_⟩
    have n3 := Nx.write (o := .ins C dx (putF f v vs)) (c' := .ins C (putD f x fs)) n2.ok hM ⟨dx, _, upd_same, repF_put (r1.mono n2.ez) rs⟩
    exact ok.nx σ _ _ G _ ((n1.trans n2).trans n3) (((s.mono n1.ez).mono n2.ez).mono n3.ez) hk)
/-- o.m(e, ..) of a frozen instance -/
theorem ev_meth {m : Str} {fa : Addr} {apos : Pos} {pl : Sem Bool} {Q : D → Mem → Prop} (cl : Cls X.K C) (hm : Meth X.K C m fa) (F : FnA X.prog X.w X.K X.mg X.base k fa n S) (hr : Room k X.A) (h : EVd X o G M (.ins C fs) M1) (hl : fs.lookup m = none) (ha : EA X (e :: es) G M1 fun ds M2 => Meets S n (.ins C fs :: ds) M2 Q noX)
    (hst : starEach (e :: es) X.env = (false, eval e X.env) :: starEach es X.env := by rfl) (hpl : (backTo pos (starEach es X.env)).any (·.1) = false := by rfl)
    (ht : eval (.Call (.Attribute o m apos) (e :: es) [] pos) X.env = (do
      let ov ← eval o X.env
      standAt apos.atName
      let (f, first) ← holding [ov] (getMethod ov m pl)
      callWith pos f first (backTo pos (starEach (e :: es) X.env)) (backToKw pos (keywordEach [] X.env))) := by rfl) : EV X (.Call (.Attribute o m apos) (e :: es) [] pos) G M Q := .mk fun Z σ H mo s Qc post pins st I => by
  obtain ⟨fd, ps, hn, F, kp, hb⟩ := F.ex
  refine (pe_meth pE cl hm F hr hb .nil passL pA hst hpl ht).run pins st σ H Qc I ?_
  refine h Z σ H mo s _ fun v Z1 H1 x M1 n1 r1 q1 => ?_
  obtain ⟨rfl, rfl⟩ := q1
  cases r1 with
  | @ins a C dx vs ds h1 rs =>
    refine ⟨a, dx, vs, rfl, n1.ok.ex _ _ h1, repF_none rs hl, ?_⟩
    refine ha Z1 σ H1 n1.ok (s.mono n1.ez) _ fun ws Z2 H2 ds2 M2 n2 r2 q2 => ?_
    rw [List.append_nil]
    exact q2.sp n2.ok (.cons (.ins (n2.ez _ _ h1) (rs.mono n2.ez)) r2) ((post.aft n1).aft n2) px_no
theorem ev_meth0 {m : Str} {fa : Addr} {apos : Pos} {pl : Sem Bool} {Q : D → Mem → Prop} (cl : Cls X.K C) (hm : Meth X.K C m fa) (F : FnA X.prog X.w X.K X.mg X.base k fa n S) (hr : Room k X.A) (h : EVd X o G M (.ins C fs) M1) (hl : fs.lookup m = none) (ha : Meets S n [.ins C fs] M1 Q noX)
    (ht : eval (.Call (.Attribute o m apos) [] [] pos) X.env = (do
      let ov ← eval o X.env
      standAt apos.atName
      let (f, first) ← holding [ov] (getMethod ov m pl)
      callWith pos f first (backTo pos (starEach [] X.env)) (backToKw pos (keywordEach [] X.env))) := by rfl) : EV X (.Call (.Attribute o m apos) [] [] pos) G M Q := .mk fun Z σ H mo s Qc post pins st I => by
  obtain ⟨fd, ps, hn, F, kp, hb⟩ := F.ex
  refine (pe_meth0 pE cl hm F hr hb .nil passL ht).run pins st σ H Qc I ?_
  refine h Z σ H mo s _ fun v Z1 H1 x M1 n1 r1 q1 => ?_
  obtain ⟨rfl, rfl⟩ := q1
  cases r1 with
  | @ins a C dx vs ds h1 rs =>
    refine ⟨a, dx, vs, rfl, n1.ok.ex _ _ h1, repF_none rs hl, ?_⟩
    exact ha.sp n1.ok (.cons (.ins h1 rs) .nil) (post.aft n1) px_no
/-- an instance cell is frozen (the k-th) -/
theorem Nx.freezeI {kk : Nat} {q : Addr} (m : MOk K Z H M) (h : M[kk]? = some (q, .ins C fs)) : ∃ Z', Nx K Z H M Z' H (M.eraseIdx kk) ∧ Rep K Z' (.ref q) (.ins C fs) := by
  have hm : (q, Cell.ins C fs) ∈ M := List.mem_of_getElem? h
  have pd : q ∈ dom M := List.mem_map.mpr ⟨_, hm, rfl⟩
  obtain ⟨zp, dx, vs, hv, r⟩ := m.cell _ hm
  have zp : Z q = none := zp
  have hv : H q = some (.ins C dx vs) := hv
  have ez : Ex Z (upd Z q (.ins C dx vs)) := Ex.new zp
  have sub : (M.eraseIdx kk).Sublist M := List.eraseIdx_sublist ..
  refine ⟨upd Z q (.ins C dx vs), ⟨⟨fun a u e => ?_, (sub.map (·.1)).nodup m.nd, fun w hq => ?_⟩, ez, fun _ _ e _ => e, fun a u e => ?_, fun a e => .inl ((sub.map (·.1)).subset e)⟩, .ins upd_same (r.mono ez)⟩
  · by_cases ha : a = q
    · subst ha; rw [upd_same] at e; rw [← e]; exact hv
    · rw [upd_ne ha] at e; exact m.ex a u e
  · have hq' := sub.subset hq
    obtain ⟨h1, h2⟩ := m.cell w hq'
    have hne : w.1 ≠ q := fun e => by
      obtain ⟨i, hi⟩ := List.mem_iff_getElem?.mp hq
      rw [List.getElem?_eraseIdx] at hi
      have a1 : (dom M)[kk]? = some q := by unfold dom; rw [List.getElem?_map, h]; rfl
      obtain ⟨g1, e1⟩ := List.getElem?_eq_some_iff.mp a1
      split at hi
      · rename_i hlt
        have a2 : (dom M)[i]? = some q := by unfold dom; rw [List.getElem?_map, hi, ← e]; rfl
        obtain ⟨g2, e2⟩ := List.getElem?_eq_some_iff.mp a2
        have := (List.getElem_inj m.nd).mp (e1.trans e2.symm)
        omega
      · rename_i hlt
        have a2 : (dom M)[i + 1]? = some q := by unfold dom; rw [List.getElem?_map, hi, ← e]; rfl
        obtain ⟨g2, e2⟩ := List.getElem?_eq_some_iff.mp a2
        have := (List.getElem_inj m.nd).mp (e1.trans e2.symm)
        omega
    exact ⟨by rw [upd_ne hne]; exact h1, h2.mono ez rfl⟩
  · by_cases ha : a = q
    · subst ha; exact .inr (.inr pd)
    · rw [upd_ne ha] at e; exact .inl e
/-- an object that nobody speaks of -/
theorem Nx.more {q : Addr} {o : HO} (m : MOk K Z H M) (hq : H q = none) : Nx K Z H M Z (upd H q o) M :=
  ⟨⟨m.ex.trans (Ex.new hq), m.nd, fun w hw => by
    obtain ⟨h1, h2⟩ := m.cell w hw
    obtain ⟨u, hu⟩ := h2.some
    exact ⟨h1, h2.mono (Ex.refl Z) (upd_ne (ne_of_none hu hq))⟩⟩, Ex.refl Z, fun a u e _ => Ex.new hq a u e, fun _ _ e => .inl e, fun _ e => .inl e⟩
/-- what a caller of a class shows: its __init__ keeps S -/
def MeetsI (S : AS) (n : Nat) (C : Addr) (ds : List D) (M1 : Mem) (Q : D → Mem → Prop) : Prop := ds.length + 1 = n ∧ ∀ q, ∃ Ms F, M1.Perm (Ms ++ F) ∧ S (.ref q :: ds) ((q, .ins C []) :: Ms) (fun d M2 => d = .non ∧ ∃ fs M3, M2.Perm ((q, .ins C fs) :: M3) ∧ ∃ M', (M3 ++ F).Perm M' ∧ Q (.ins C fs) M') noX
/-- C(e, ..), the instance frozen -/
theorem ev_make {xn : Str} {fi : Addr} {Q : D → Mem → Prop} (mk : Mk X.K C fi) (F : FnA X.prog X.w X.K X.mg X.base k fi n S) (hr : Room (k + 1) X.A) (hm : X.mg xn = some (.ref C)) (ha : EA X (e :: es) G M fun ds M1 => MeetsI S n C ds M1 Q) (hg : Gl X xn := by rfl) (hdb : (xn == ("__debug__" : Str)) = false := by decide)
    (he : starEach (e :: es) X.env = (false, eval e X.env) :: starEach es X.env := by rfl) (hpl : (backTo pos (starEach es X.env)).any (·.1) = false := by rfl) : EV X (.Call (.Name xn p) (e :: es) [] pos) G M Q := .mk fun Z σ H mo s Qc post pins st I => by
  obtain ⟨fd, ps, hn, F, kp, hb⟩ := F.ex
  refine (pe_make mk F hr hg hm hb .nil passL pA hdb he hpl).run pins st σ H Qc I ?_
  refine ha Z σ H mo s _ fun vs Z1 H1 ds M1 n1 r1 q1 => ?_
  intro x dx hx hdx hne
  obtain ⟨hl, q1⟩ := q1
  obtain ⟨Ms, F', pm, hS⟩ := q1 x
  have m1 := n1.ok.perm pm
  have na := Nx.more (o := .own x) m1 hdx
  have hx2 : (upd H1 dx (.own x)) x = none := by rw [upd_ne (Ne.symm hne)]; exact hx
  have nb := Nx.cell (o := .ins C dx []) (c := .ins C []) na.ok hx2 ⟨dx, [], upd_same, .nil⟩
  have pm2 : ((Ms ++ F') ++ [(x, Cell.ins C [])]).Perm (((x, Cell.ins C []) :: Ms) ++ F') := by
    rw [List.append_assoc, List.cons_append]
    exact (List.perm_append_comm (l₁ := F') (l₂ := [(x, Cell.ins C [])])).append_left Ms |>.trans (List.perm_middle)
  have n2 := (na.trans nb).perm (.refl _) pm2
  rw [List.append_nil]
  refine ⟨by rw [List.length_cons, r1.length]; exact hl, Z1, .ref x :: ds, (x, Cell.ins C []) :: Ms, _, _, n2.ok.left, .cons (.ref x) r1, hS, fun v Z' H' d M' n3 r3 q3 => ?_, px_no⟩
  obtain ⟨rfl, fs, M3, p3, M4, p4, q4⟩ := q3
  cases r3
  refine ⟨rfl, ?_⟩
  have n4 := (Nx.frame n2.ok n3).perm (.refl _) ((p3.append_right F').trans (.refl _))
  obtain ⟨Z5, n5, r5⟩ := Nx.freezeI (kk := 0) n4.ok rfl
  have n6 := ((n2.perm (.refl _) (.refl _)).trans (n4.trans n5))
  exact post.aft n1 (.ref x) Z5 H' (.ins C fs) M4 (Nx.perm n6 pm.symm p4) r5 q4
end
end ES

set_option Elab.async false
set_option linter.all false
set_option maxRecDepth 100000
set_option maxHeartbeats 2000000
namespace ES
open PySem PySem.Spec PyProof.Rows L2

/-! ### own exceptions: made, raised, caught -/
/-- what the top says of the base class, whose __init__ is ValueError's -/
structure BaseC (K : PySem.W.Frag) (mg : Str → Option Value) (xn : Str) (C0 : Addr) : Prop where
  mgC : mg xn = some (.ref C0)
  sg : PySem.W.specialIn K (.ref C0) "__getattribute__" = some (some (.builtin "type.__getattribute__"))
  rd : PySem.W.readsIn K C0 (.type "type") = true
  fc : PySem.W.findCls K (.ref C0) (.type "type") "__init__" = some (.val (.builtin "ValueError.__init__"))
section
variable {X : Cx} {o e : Expr} {es : List Expr} {to te : TE} {ta : TA} {p p1 p2 pos : Pos}
theorem pe_winit {pl : Sem Bool} {xn : Str} {C0 : Addr} (B : BaseC X.K X.mg xn C0) (ha : PA X (e :: es) ta) (hg : Gl X xn := by rfl)
    (hc : eval (.Call (.Attribute (.Name xn p1) "__init__" p2) (e :: es) [] pos) X.env = (do
      let ov ← eval (.Name xn p1) X.env
      standAt p2.atName
      let (f, first) ← holding [ov] (getMethod ov "__init__" pl)
      callWith pos f first (backTo pos (starEach (e :: es) X.env)) (backToKw pos (keywordEach [] X.env))) := by rfl) (hdb : (xn == ("__debug__" : Str)) = false := by decide)
    (he : starEach (e :: es) X.env = (false, eval e X.env) :: starEach es X.env := by rfl) (hpl : (backTo pos (starEach es X.env)).any (·.1) = false := by rfl) :
    PE X (.Call (.Attribute (.Name xn p1) "__init__" p2) (e :: es) [] pos) (tVeI X.K ta) := by
  refine ⟨fun pins s σ H Q I h => ?_⟩
  refine PySem.W.methodCall_KW (ld_glob I hg B.mgC ?_ hdb) hc
  refine PySem.W.method_cls I.kIn B.sg (PySem.W.cls_value I.kIn B.rd B.fc (by decide +kernel) ?_)
  show wpAny _ _ (callWith pos (Value.builtin "ValueError.__init__") [] (backTo pos (starEach (e :: es) X.env)) []) _ _ _
  refine PyProof.Rows.callWith_method1 (thn (ha.run pos pins _ σ H _ (I.tok _) h) fun us s1 hh => ?_) he hpl
  obtain ⟨vs, H1, I1, r1, a, C, ws, ev, hl, T, ea, q⟩ := hh
  subst ev
  cases r1 with
  | @cons _ u0 _ ur ra rw' =>
    obtain rfl : u0 = Value.ref a := ra
    have hlen : ur.length ≤ sizeLine := by
      rw [← Paired.length rw']
      exact Nat.le_trans hl (by decide)
    exact oinit_ok T I1 ea hlen fun s' J => ⟨.non, H1, J, rfl, q⟩
end

/-- what may be an exception's field: a short text, an int of a machine's size -/
def okV : V → Bool
  | .str y => decide (y.length ≤ 1000)
  | .int i => decide (-(2 ^ 63) < i ∧ i < 2 ^ 63)
  | _ => false
def okD : D → Bool
  | .str y => decide (y.length ≤ 1000)
  | .int i => decide (-(2 ^ 63) < i ∧ i < 2 ^ 63)
  | _ => false
theorem ok_rep {K : PySem.W.Frag} {Z : Hp} {v : V} {d : D} (r : Rep K Z v d) (h : okD d = true) : okV v = true := by cases r <;> first | exact h | cases h
theorem oks_rep {K : PySem.W.Frag} {Z : Hp} : ∀ {ds : List D} {vs : List V}, Reps K Z vs ds → ds.all okD = true → vs.all okV = true
  | _, _, .nil, _ => rfl
  | _, _, .cons r rs, h => by
    rw [List.all_cons, Bool.and_eq_true] at h ⊢
    exact ⟨ok_rep r h.1, oks_rep rs h.2⟩
/-- the promise of an exception's __init__ with the fields fn, in the order of the stores -/
def spXI (C : Addr) (fn : List Str) : Sp := fun vs H Q _ => ∃ (a : Addr) (ws : List V), vs = .ref a :: ws ∧ ws.length = fn.length ∧ ws.all okV = true ∧ H a = some (exo a C none) ∧
  ∀ (dx : Addr) (H' : Hp), H dx = none → dx ≠ a → H' dx = some (exd dx (fn.zip ws).reverse) → H' a = some (exo a C (some dx)) → (∀ b, b ≠ a → b ≠ dx → H' b = H b) → Q .non H'
/-- an exception class of the program's own -/
structure XC (P : Program) (w : World) (K : PySem.W.Frag) (mg : Str → Option Value) (base : Heap) (k : Nat) (xn : Str) (fn : List Str) (C : Addr) : Prop where
  mgC : mg xn = some (.ref C)
  ox : OexC K C
  init : ∃ fI fd ps, PySem.W.findIn K (.ref C) "__init__" = some (some (.ref fI)) ∧ PySem.W.typeIn K (.ref fI) = some (.type "function") ∧ FnOk P w K mg base CX0 k fI fd ps (spXI C fn) ∧ Binds K fd ps []
section
variable {K : PySem.W.Frag} {Z Z1 H H1 : Hp} {M M1 M2 M3 : Mem}
theorem repF_zip : ∀ {fn : List Str} {vs : List V} {ds : List D}, Reps K Z vs ds → RepF K Z (fn.zip vs) (fn.zip ds)
  | [], _, _, _ => .nil
  | _ :: _, _, _, .nil => .nil
  | f :: fn, _, _, .cons r rs => .cons r (repF_zip rs)
theorem repF_app : ∀ {a b : List (Str × V)} {c d : List (Str × D)}, RepF K Z a c → RepF K Z b d → RepF K Z (a ++ b) (c ++ d)
  | _, _, _, _, .nil, h => h
  | _, _, _, _, .cons r t, h => .cons r (repF_app t h)
theorem repF_rev : ∀ {a : List (Str × V)} {c : List (Str × D)}, RepF K Z a c → RepF K Z a.reverse c.reverse
  | _, _, .nil => .nil
  | _, _, .cons r t => by
    rw [List.reverse_cons, List.reverse_cons]
    exact repF_app (repF_rev t) (.cons r .nil)
end
section
variable {X : Cx} {K : PySem.W.Frag} {Z Z1 H H1 : Hp} {M M1 M2 M3 : Mem} {G : Sl} {e a b c : Expr} {es : List Expr} {d x y z : D} {xs ys ds : List D} {pos p p2 : Pos} {E : AE} {rest : List Stmt} {st : Stmt} {k n : Nat} {S : AS} {C : Addr} {fn : List Str}
/-- raise X(e, ..) -/
theorem sv_raise {xn : Str} (T : XC X.prog X.w X.K X.mg X.base k xn fn C) (hc : X.calm = true) (hr : Room (k + 1) X.A) (ha : EAd X (e :: es) G M ds M1) (hl : ds.length = fn.length) (hl2 : ds.length ≤ 1000) (hok : ds.all okD = true) (hex : E.ex G C (fn.zip ds).reverse M1) (hg : Gl X xn := by rfl) (hdb : (xn == ("__debug__" : Str)) = false := by decide)
    (he : starEach (e :: es) X.env = (false, eval e X.env) :: starEach es X.env := by rfl) (hpl : (backTo pos (starEach es X.env)).any (·.1) = false := by rfl) : SV X (.Raise (some (.Call (.Name xn p) (e :: es) [] pos)) none p2 :: rest) G M E :=
  sv_cons <| .mk fun Z σ H m s D0 ok pins stt I => by
    obtain ⟨W, tk, wo⟩ := ok.ex
    obtain ⟨fI, fd, ps, iC, tI, F, hb⟩ := T.init
    refine (ps_raise hc tk (pmk_oex (k := k) T.ox iC tI F hr hb .nil pass0 hg T.mgC pA hdb he hpl)).run pins stt σ H D0 I ?_
    refine ha Z σ H m s _ fun vs Z1 H1 ds' M' n1 r1 q1 => ?_
    obtain ⟨rfl, rfl⟩ := q1
    refine ⟨by rw [r1.length]; exact hl2, fun a hna => ?_⟩
    rw [List.append_nil]
    refine ⟨a, vs, rfl, by rw [r1.length]; exact hl, oks_rep r1 hok, upd_same, fun dx H' hdx hne h1 h2 h3 => ⟨rfl, dx, _, h2, h1, ?_, ?_⟩⟩
    · rw [upd_ne hne] at hdx; exact hdx
    · have hdx' : H1 dx = none := by rw [upd_ne hne] at hdx; exact hdx
      have same : upd (del H' a) dx (.xd (fn.zip vs).reverse) = upd H1 dx (.xd (fn.zip vs).reverse) := by
        funext b
        by_cases hb : b = dx
        · subst hb; rw [upd_same, upd_same]
        · rw [upd_ne hb, upd_ne hb]
          by_cases ha : b = a
          · subst ha; rw [del_same, hna]
          · rw [del_ne ha, h3 b ha hb, upd_ne ha]
      rw [same]
      have n2 := Nx.more (o := .xd (fn.zip vs).reverse) n1.ok hdx'
      exact wo σ Z1 _ G M' C dx _ _ (n1.trans n2) (s.mono n1.ez) (n1.back (.inl hdx')) upd_same (repF_rev (repF_zip r1)) hex
/-! the text of an exception: of short parts -/
/-- the part gives a text of at most 1100 signs -/
def PB (σ : L2.St) (t : TE) : Prop := ∀ H (Q : VK), (∀ y : Str, y.length ≤ 1100 → Q (.str y) H) → t σ H Q
theorem pb_c {σ : L2.St} {x : Str} (h : x.length ≤ 1100) : PB σ (tC (.str x)) := fun H Q q => q x h
theorem pb_v {σ : L2.St} {i : Nat} {v : V} (h : σ[i]? = some (some v)) (ok : okV v = true) : PB σ (tFmt (tVar i)) := fun H Q q => by
  refine ⟨v, h, ?_⟩
  cases v with
  | str y =>
    have hy : y.length ≤ 1000 := by simpa [okV] using ok
    exact .inl ⟨y, rfl, Nat.le_trans hy (by decide), q y (by omega)⟩
  | int i =>
    have hi : -(2 ^ 63) < i ∧ i < 2 ^ 63 := by simpa [okV] using ok
    have hb : i.natAbs < 2 ^ 63 := by omega
    refine .inr ⟨i, rfl, ?_, q _ ?_⟩
    · rcases Nat.eq_zero_or_pos i.natAbs with h0 | h0
      · rw [h0]; decide
      · exact Nat.lt_trans ((Nat.log2_lt (by omega)).mpr hb) (by decide)
    · have h1 := PySem.int_text_length_le (a := i) (k := 64) (by decide) (by
        rcases Nat.eq_zero_or_pos i.natAbs with h0 | h0
        · rw [h0]; decide
        · exact Nat.lt_trans ((Nat.log2_lt (by omega)).mpr hb) (by decide))
      rw [PySem.ofString_length]
      exact Nat.le_trans h1 (by decide)
  | _ => cases ok
theorem pb_js {σ : L2.St} {H : Hp} {Q : Str → Hp → Prop} : ∀ {ts : List TE} {acc : Str}, (∀ t ∈ ts, PB σ t) → acc.length + 1100 * ts.length ≤ sizeLine → (∀ out, Q out H) → tJs ts acc σ H Q
  | [], _, _, _, q => q _
  | t :: ts, acc, h, hl, q => by
    refine h t (List.mem_cons_self ..) H _ fun y hy => ⟨y, rfl, ?_, ?_⟩
    · rw [Str.length_append]
      rw [List.length_cons] at hl
      omega
    · refine pb_js (fun t ht => h t (List.mem_cons_of_mem _ ht)) ?_ q
      rw [Str.length_append]
      rw [List.length_cons] at hl
      omega
/-- what is stored by an __init__ of one field -/
theorem xs1 {K : PySem.W.Frag} {f1 : Str} {σ : L2.St} {H : Hp} {Q : VK} {D0 : Ends} {a C : Addr} {v : V} (ox : OexC K C) (no1 : PySem.W.findIn K (.ref C) f1 = some none) (h3 : H a = some (exo a C none)) (s0 : σ[0]? = some (some (.ref a))) (s1 : σ[1]? = some (some v))
    (hd : D0.nx = fun _ H' => Q .non H')
    (q : ∀ (dx : Addr) (H' : Hp), H dx = none → dx ≠ a → H' dx = some (exd dx ([f1].zip [v]).reverse) → H' a = some (exo a C (some dx)) → (∀ b, b ≠ a → b ≠ dx → H' b = H b) → Q .non H') : tOst K f1 (tVar 0) (tVar 1) D0 σ H := by
  refine ⟨v, s1, .ref a, s0, a, C, rfl, ox, no1, .inl ⟨h3, fun dx hdn hne => ?_⟩⟩
  rw [hd]
  exact q dx _ hdn hne (by rw [upd_ne hne, upd_same]; rfl) upd_same fun b hb1 hb2 => by rw [upd_ne hb1, upd_ne hb2]
/-- of two fields -/
theorem xs2 {K : PySem.W.Frag} {f1 f2 : Str} {σ : L2.St} {H : Hp} {Q : VK} {D0 : Ends} {a C : Addr} {v1 v2 : V} (ox : OexC K C) (no1 : PySem.W.findIn K (.ref C) f1 = some none) (no2 : PySem.W.findIn K (.ref C) f2 = some none) (h3 : H a = some (exo a C none)) (s0 : σ[0]? = some (some (.ref a))) (s1 : σ[1]? = some (some v1)) (s2 : σ[2]? = some (some v2))
    (hd : D0.nx = fun _ H' => Q .non H')
    (q : ∀ (dx : Addr) (H' : Hp), H dx = none → dx ≠ a → H' dx = some (exd dx ([f1, f2].zip [v1, v2]).reverse) → H' a = some (exo a C (some dx)) → (∀ b, b ≠ a → b ≠ dx → H' b = H b) → Q .non H') : tSeq (tOst K f1 (tVar 0) (tVar 1)) (tOst K f2 (tVar 0) (tVar 2)) D0 σ H := by
  refine ⟨v1, s1, .ref a, s0, a, C, rfl, ox, no1, .inl ⟨h3, fun dx hdn hne => ?_⟩⟩
  refine ⟨v2, s2, .ref a, s0, a, C, rfl, ox, no2, .inr ⟨dx, [(f1, v1)], upd_same, by rw [upd_ne hne, upd_same], by simp, ?_⟩⟩
  rw [hd]
  exact q dx _ hdn hne (by rw [upd_same]; rfl) (by rw [upd_ne (Ne.symm hne), upd_same]) fun b hb1 hb2 => by rw [upd_ne hb2, upd_ne hb1, upd_ne hb2]
/-- its __init__: what the walk over the body must give -/
theorem xinit {P : Program} {w : World} {K : PySem.W.Frag} {mg : Str → Option Value} {base : Heap} {f : Addr} {fd : FuncData} {x qual : Str} {st : Stmt} {N ps : List Str} {C : Addr} {fn : List Str} (F : Fun K x qual st f fd) (sc : FnScope N ps (defScope st)) (hp : ps.length = fn.length + 1) (ox : OexC K C)
    (tr : ∀ (cdv : Value) (A : Around) (outer : List Env) (s : Shared) (H0 : Hp) (E : XK), ∃ (ts : List TE) (t2 : TS), PSs (cxOf CX0 P w K mg base N qual (defScope st) f cdv A outer s H0 E).nox (defBody st) (tSeq (tDrop (tVeI K (tCons (tVar 0) (tCons (fun σ H Q => tJs ts Str.empty σ H fun out H1 => Q (.str out) H1) tNil)))) t2) ∧
      ts.length ≤ 10 ∧ ∀ (a : Addr) (ws : List V) (H : Hp) (Q : VK) (D0 : Ends), D0.nx = (fun _ H' => Q .non H') → ws.length = fn.length → ws.all okV = true → H a = some (exo a C none) →
        (∀ (dx : Addr) (H' : Hp), H dx = none → dx ≠ a → H' dx = some (exd dx (fn.zip ws).reverse) → H' a = some (exo a C (some dx)) → (∀ b, b ≠ a → b ≠ dx → H' b = H b) → Q .non H') →
        (L2.start N (.ref a :: ws))[0]? = some (some (.ref a)) ∧ (∀ t ∈ ts, PB (L2.start N (.ref a :: ws)) t) ∧ t2 D0 (L2.start N (.ref a :: ws)) H) :
    FnOk P w K mg base CX0 1 f fd ps (spXI C fn) := by
  refine F.ok sc (fun vs H Q E h => ?_) (fun cdv A outer s H vs Q E hr h => ?_)
  · obtain ⟨a, ws, rfl, h1, _⟩ := h
    simp [h1, hp]
  · obtain ⟨a, ws, rfl, h1, h2, h3, q⟩ := h
    obtain ⟨ts, t2, ps, hlen, ht⟩ := tr cdv A outer s H E
    refine ⟨_, ps, ?_⟩
    refine ⟨.ref a, (ht a ws H Q ⟨fun _ H' => Q .non H', Q, fun _ _ => False, fun _ _ => False⟩ rfl h1 h2 h3 q).1, ?_⟩
    refine pb_js (ht a ws H Q ⟨fun _ H' => Q .non H', Q, fun _ _ => False, fun _ _ => False⟩ rfl h1 h2 h3 q).2.1 ?_ fun out => ?_
    · show 0 + 1100 * ts.length ≤ sizeLine
      have : 1100 * 10 ≤ sizeLine := by decide
      omega
    · exact ⟨a, C, [.str out], rfl, by simp, ox, h3, (ht a ws H Q _ rfl h1 h2 h3 q).2.2⟩
end
end ES

set_option Elab.async false
set_option linter.all false
set_option maxRecDepth 100000
set_option maxHeartbeats 2000000
namespace ES
open PySem PySem.Spec PyProof.Rows L2

/-! ### try: .. except A as x: .. except B: .. -/
/-- a clause: its class, the slot of its name, its suite -/
abbrev Cl := Value × Option Nat × List Stmt
def inS (nm : Option Nat) (a : Addr) (σ : L2.St) : L2.St := match nm with
  | none => σ
  | some i => σ.set i (some (.ref a))
def outS (nm : Option Nat) (σ : L2.St) : L2.St := match nm with
  | none => σ
  | some i => σ.set i none
def outE (nm : Option Nat) (D0 : Ends) : Ends := ⟨fun σ H => D0.nx (outS nm σ) H, D0.rt, fun σ H => D0.bk (outS nm σ) H, fun σ H => D0.ct (outS nm σ) H⟩
/-- what the clauses wish of an exception of the body -/
def wCl (X : Cx) (Wout : WX) (D0 : Ends) : List Cl → WX
  | [] => Wout
  | (c, nm, su) :: r => fun cls d σ H => ∃ b, PySem.W.exmOne X.K cls c = some b ∧
      (b = true → ∀ a, H a = none → ∀ oe pn, Zc cls d oe → (∃ vs, oe.data = .fields vs) → sSs (X.suite a ((a, oe) :: pn)) su (outE nm D0) (inS nm a σ) H) ∧ (b = false → wCl X Wout D0 r cls d σ H)
inductive ClOk (X : Cx) : List ExceptHandler → List Cl → Prop
  | nil : ClOk X [] []
  | plain {x : Str} {c : Value} {b₀ : Stmt} {su : List Stmt} {np pos' : Pos} {hds : List ExceptHandler} {l : List Cl} (hc : Names X x c) (r : ClOk X hds l) : ClOk X (.ExceptHandler (some (.Name x np)) none (b₀ :: su) pos' :: hds) ((c, none, b₀ :: su) :: l)
  | as_ {x n : Str} {i : Nat} {c : Value} {b₀ : Stmt} {su : List Stmt} {np pos' : Pos} {hds : List ExceptHandler} {l : List Cl} (hc : Names X x c) (hi : X.N[i]? = some n) (hl : X.env.kindOf n = some .local) (r : ClOk X hds l) :
      ClOk X (.ExceptHandler (some (.Name x np)) (some n) (b₀ :: su) pos' :: hds) ((c, some i, b₀ :: su) :: l)
section
variable {X : Cx} {body : List Stmt} {h₀ : ExceptHandler} {hds : List ExceptHandler} {l : List Cl} {pos : Pos} {Wout : WX}
theorem ps_tryC (hs : X.stack = X.env :: X.outer) (hf : X.env.frame = some X.env.locals) (hN : X.N.Nodup) (tk : Takes X Wout) (hh : ClOk X (h₀ :: hds) l) :
    PS X (.Try body (h₀ :: hds) [] [] pos) (fun D0 σ H => ∀ (pn : List (Addr × Obj)) (xe : Value → Shared → Prop), Takes (X.tr pn xe) (wCl X Wout D0 l) → PassesOwn (model X.prog X.w) X.A X.env xe → sSs (X.tr pn xe) body D0 σ H) := by
  refine ⟨fun pins s σ H D0 I h => ?_⟩
  have ok := I.ok
  have hfr : X.A.frames = some (X.env :: X.outer) := by rw [ok.frames, hs]
  refine wpAny_Try_except ?_
  refine wpAny_mono (h (X.pn ++ pins) (fun e s₁ => wpAny (model X.prog X.w) X.A (noteFrame e X.env) (fun _ s₂ => wpAny (model X.prog X.w) X.A (setFlight e none) (fun _ s₃ =>
    wpAny (model X.prog X.w) X.A (handleBy e X.env (h₀ :: hds)) (SP X pins D0) X.xe s₃) X.xe s₂) X.xe s₁) (fun u s' xx => ?_) PassesOwn.looking [] s (I.toTry _)) (fun f s1 hsp => ?_) (fun e s1 he => he)
  · obtain ⟨a, B, sI, pins', σ', H', cls, d, rfl, J', nb, up, sky, na, os, ag, w⟩ := xx
    have J : Inv X pins σ' H' sI := J'.ofTry ok
    have sky' : Sky B (X.env :: X.outer) a (Zc cls d) X.env.locals s'.heap := by rw [← hs]; exact sky
    show wpAny (model X.prog X.w) X.A (noteFrame (.ref a) X.env) _ _ _
    refine Sky.land Zc.steady hfr hf sky' fun h3 fl3 up3 => ?_
    have J3 : Inv X pins σ' H' { s' with heap := h3 } := J.landed nb fl3.1 (up.trans up3) os ag
    obtain ⟨oe3, vs3, he3, hz3, hd3⟩ := fl3.there
    have nfr : a ∉ frs (X.env :: X.outer) := fun hm => by
      obtain ⟨_, o', e', hnf⟩ := fl3.2.2.1.mem hm
      rw [he3] at e'
      cases e'
      exact hnf _ hd3
    have nL : a ≠ X.env.locals := fun z => nfr (List.mem_filterMap.mpr ⟨X.env, List.mem_cons_self, by rw [hf, z]⟩)
    have nF : a ∉ X.fs := fun hm => by
      obtain ⟨e, he, q⟩ := List.mem_filterMap.mp hm
      exact nfr (List.mem_filterMap.mpr ⟨e, List.mem_cons_of_mem _ he, q⟩)
    have S3 := J3.suite he3 hd3 na nL nF
    have LT : PySem.W.Looks (model X.prog X.w) h3 (typeOf (.ref a)) cls := fun A Q E s k q => wpAny_typeOf_ref (k _ _ he3) (by rw [hz3.1]; exact q)
    -- the class of a clause is asked
    have asked : ∀ {x : Str} {c : Value} {np : Pos} {Q E : Value → Shared → Prop}, Names X x c → Q c { s' with heap := h3 } → wpAny (model X.prog X.w) (X.A.mark (some (.ref a))) (eval (.Name x np) X.env) Q E { s' with heap := h3 } := fun {x c np Q E} hc q => by
      obtain ⟨hg, hdbg, hm | ⟨hm, hv, hnn⟩⟩ := hc
      · exact ld_glob (X := X.suite a ((a, oe3) :: (X.pn ++ pins))) S3 hg hm q hdbg
      · exact ld_blt (X := X.suite a ((a, oe3) :: (X.pn ++ pins))) S3 hg hm hv q hnn hdbg
    have go : ∀ {hds' : List ExceptHandler} {l' : List Cl}, ClOk X hds' l' → wCl X Wout D0 l' cls d σ' H' →
        wpAny (model X.prog X.w) X.A (handleBy (.ref a) X.env hds') (SP X pins D0) X.xe { s' with heap := h3 } := by
      intro hds' l' hk
      induction hk with
      | nil =>
        intro w
        refine wpAny_handleBy_nil ?_
        obtain ⟨k1, k2, k3, oe, vs, T, oT, ts', he, hz, hd, h1, hr⟩ := id fl3
        unfold PySem.passOn
        refine wpAny_bind (wpAny_field he hd h1 ?_)
        rw [if_neg (show ¬ ((Value.ref T == Value.none) = true) from by simp)]
        have fin : wpAny (model X.prog X.w) X.A (setFlight (.ref a) X.env.frame) (fun _ s4 => wpAny (model X.prog X.w) X.A (throw (.ref a) : Sem Flow) (SP X pins D0) X.xe s4) X.xe { s' with heap := h3 } := by
          rw [hf]
          refine HandSPX.setFlight_upZ fl3 fun h4 hh4 up4 => wpAny_throw (tk _ _ ?_)
          exact ⟨a, B, sI, pins, σ', H', cls, d, rfl, J, nb, (up.trans up3).trans up4, .inr (.inr (by rw [hs]; exact hh4)), na, os, ag, w⟩
        first
          | exact wpAny_bind (wpAny_pure (wpAny_bind fin))
          | exact wpAny_bind fin
      | @plain x c b₀ su np pos' hds2 l2 hc r ih =>
        rintro ⟨b, hb1, hyes, hno⟩
        refine wpAny_handleBy_cons (codeAny_handlers_test ?_) (by intro q; cases q)
        have LM := PySem.W.exm_one (M := model X.prog X.w) (J3.kIn) LT hb1
        refine asked hc (LM.here ?_)
        cases b with
        | false => exact ih (hno rfl)
        | true =>
          refine codeAny_handlers_suite ?_
          refine HandSPX.lands_againZ fl3 fun h4 fl4 up4 => ?_
          have J4 : Inv X pins σ' H' { s' with heap := h4 } := J.landed nb fl4.1 ((up.trans up3).trans up4) os ag
          obtain ⟨oe4, vs4, he4, hz4, hd4⟩ := fl4.there
          refine wpAny_mono (hyes rfl a na oe4 (X.pn ++ pins) hz4 ⟨_, hd4⟩ [] _ (J4.suite he4 hd4 na nL nF)) (fun f s6 hsp => ?_) (fun _ _ z => False.elim z)
          cases f with
          | ret u =>
            obtain ⟨v6, σ6, H6, S6, r6, q6⟩ := hsp
            exact ⟨_, _, _, S6.unsuite ok, r6, q6⟩
          | _ =>
            obtain ⟨σ6, H6, S6, q6⟩ := hsp
            exact ⟨_, _, S6.unsuite ok, q6⟩
      | @as_ x n i c b₀ su np pos' hds2 l2 hc hi hln r ih =>
        rintro ⟨b, hb1, hyes, hno⟩
        refine wpAny_handleBy_cons (codeAny_handlers_test ?_) (by intro q; cases q)
        have LM := PySem.W.exm_one (M := model X.prog X.w) (J3.kIn) LT hb1
        refine asked hc (LM.here ?_)
        cases b with
        | false => exact ih (hno rfl)
        | true =>
          refine codeAny_handlers_suite_as ?_
          refine HandSPX.lands_againZ fl3 fun h4 fl4 up4 => ?_
          have J4 : Inv X pins σ' H' { s' with heap := h4 } := J.landed nb fl4.1 ((up.trans up3).trans up4) os ag
          obtain ⟨oe4, vs4, he4, hz4, hd4⟩ := fl4.there
          have S4 := J4.suite he4 hd4 na nL nF
          refine store_ok (X := X.suite a ((a, oe4) :: (X.pn ++ pins))) (v := .ref a) S4 hN hi (.inl hln) rfl (fun s5 S5 => ?_) (.inr hln)
          refine wpAny_mono (hyes rfl a na oe4 (X.pn ++ pins) hz4 ⟨_, hd4⟩ [] s5 S5) (fun f s6 hsp => ?_) (fun _ _ z => False.elim z)
          cases f with
          | ret u =>
            obtain ⟨v6, σ6, H6, S6, r6, q6⟩ := hsp
            exact gone_ok (S6.unsuite ok) hN hi hln fun s7 J7 => ⟨_, _, _, J7, r6, q6⟩
          | _ =>
            obtain ⟨σ6, H6, S6, q6⟩ := hsp
            exact gone_ok (S6.unsuite ok) hN hi hln fun s7 J7 => ⟨_, _, J7, q6⟩
    exact go hh w
  · cases f with
    | next =>
      obtain ⟨σ', H', J', q⟩ := hsp
      exact wpAny_execs_nil ⟨σ', H', J'.ofTry ok, q⟩
    | ret u =>
      obtain ⟨v, σ', H', J', r, q⟩ := hsp
      exact ⟨v, σ', H', J'.ofTry ok, r, q⟩
    | _ =>
      obtain ⟨σ', H', J', q⟩ := hsp
      exact ⟨σ', H', J'.ofTry ok, q⟩
end

/-! ### the same over trees -/
/-- the context of a suite that handles the exception at a, of class C, its dict at dd -/
structure Caught (X : Cx) (a C dd : Addr) : Prop where
  ex : ∃ oe, (a, oe) ∈ X.pn ∧ Zc (.ref C) (some dd) oe ∧ ∃ vs, oe.data = .fields vs
def inG (nm : Option Nat) (d : D) (G : Sl) : Sl := match nm with
  | none => G
  | some i => G.set i (some d)
def outG (nm : Option Nat) (G : Sl) : Sl := match nm with
  | none => G
  | some i => G.set i none
/-- what an exception of the body meets -/
def HX (X : Cx) (rest : List Stmt) (E : AE) (G : Sl) (C : Addr) (fs : List (Str × D)) (M : Mem) : List Cl → Prop
  | [] => E.ex G C fs M
  | (c, nm, su) :: r => ∃ b, PySem.W.exmOne X.K (.ref C) c = some b ∧ (b = true → ∀ a dd oe pn, Caught (X.suite a ((a, oe) :: pn)) a C dd →
      SV (X.suite a ((a, oe) :: pn)) su (inG nm (.exc a dd fs) G) M { nx := fun G' M' => SV X rest (outG nm G') M' E, rt := E.rt, bk := fun G' M' => E.bk (outG nm G') M', ct := fun G' M' => E.ct (outG nm G') M' }) ∧ (b = false → HX X rest E G C fs M r)
section
variable {X : Cx} {K : PySem.W.Frag} {Z Z1 H H1 : Hp} {M M1 M2 M3 : Mem} {G : Sl} {e a b c : Expr} {es : List Expr} {d x y z : D} {xs ys ds : List D} {pos p p2 : Pos} {E : AE} {rest : List Stmt} {st : Stmt} {k n : Nat} {S : AS}
theorem sok_out {σ : L2.St} {nm : Option Nat} (s : SOk K Z σ G) : SOk K Z (outS nm σ) (outG nm G) := by
  cases nm with
  | none => exact s
  | some i => exact s.drop i
theorem hx_w {D0 : Ends} {W : WX} {σ' : L2.St} {Z Z' H H' : Hp} {G' : Sl} {M' : Mem} {C d : Addr} {vs : List (Str × V)} {fs : List (Str × D)} (ok : EOk X Z H M { E with nx := fun G' M' => SV X rest G' M' E } D0) (wo : WOk X.K Z H M E.ex W)
    (n : Nx X.K Z H M Z' H' M') (s' : SOk X.K Z' σ' G') (nd : New H M d) (e : H' d = some (.xd vs)) (r : RepF X.K Z' vs fs) : ∀ {l : List Cl}, HX X rest E G' C fs M' l → wCl X W D0 l (.ref C) (some d) σ' H'
  | [], q => wo σ' Z' H' G' M' C d vs fs n s' nd e r q
  | (c, nm, su) :: l, ⟨b, hb1, hyes, hno⟩ => by
    obtain ⟨Z2, n2, hz2, ez⟩ := n.freezeX nd e
    refine ⟨b, hb1, fun hbt a na oe pn2 hz hd => ?_, fun hbf => hx_w ok wo n s' nd e r (hno hbf)⟩
    have sx : SOk X.K Z2 (inS nm a σ') (inG nm (.exc a d fs) G') := by
      cases nm with
      | none => exact s'.mono ez
      | some i => exact (s'.mono ez).set i (.exc hz2 (r.mono ez))
    exact hyes hbt a d oe pn2 ⟨oe, List.mem_cons_self .., hz, hd⟩ Z2 _ H' n2.ok sx _ ⟨fun σ5 Z5 H5 G5 M5 n5 s5 q5 => ok.nx _ Z5 H5 _ M5 (n2.trans n5) (sok_out s5) q5, fun v Z5 H5 d M5 n5 r5 q5 => ok.rt v Z5 H5 d M5 (n2.trans n5) r5 q5,
      fun σ5 Z5 H5 G5 M5 n5 s5 q5 => ok.bk _ Z5 H5 _ M5 (n2.trans n5) (sok_out s5) q5, fun σ5 Z5 H5 G5 M5 n5 s5 q5 => ok.ct _ Z5 H5 _ M5 (n2.trans n5) (sok_out s5) q5, _, takes0, fun _ _ _ _ _ _ _ _ _ _ _ _ _ _ q => q.elim⟩
theorem sv_try {body : List Stmt} {h₀ : ExceptHandler} {hds : List ExceptHandler} (l : List Cl) (hN : X.N.Nodup) (hh : ClOk X (h₀ :: hds) l) (hs : X.stack = X.env :: X.outer) (hf : X.env.frame = some X.env.locals)
    (hb : ∀ (pn : List (Addr × Obj)) (xe : Value → Shared → Prop), PassesOwn (model X.prog X.w) X.A X.env xe → SV (X.tr pn xe) body G M { nx := fun G' M' => SV X rest G' M' E, rt := E.rt, bk := E.bk, ct := E.ct, ex := fun G' C fs M' => HX X rest E G' C fs M' l }) :
    SV X (.Try body (h₀ :: hds) [] [] pos :: rest) G M E :=
  sv_cons <| .mk fun Z σ H m s D0 ok pins stt I => by
    obtain ⟨W, tk, wo⟩ := ok.ex
    refine (ps_tryC hs hf hN tk hh).run pins stt σ H D0 I fun pn xe tk2 po => ?_
    exact hb pn xe po Z σ H m s D0 ⟨fun σ' Z' H' G' M' n s' q => ok.nx σ' Z' H' G' M' n s' q, fun v Z' H' d M' n r q => ok.rt v Z' H' d M' n r q, fun σ' Z' H' G' M' n s' q => ok.bk σ' Z' H' G' M' n s' q, fun σ' Z' H' G' M' n s' q => ok.ct σ' Z' H' G' M' n s' q, _, tk2,
      fun σ' Z' H' G' M' C d vs fs n s' nd e r q => hx_w ok wo n s' nd e r q⟩

/-! ### a caught exception: its fields, its class -/
theorem caught_at {pins : List (Addr × Obj)} {σ : L2.St} {s : Shared} {a C dd : Addr} {fs : List (Str × V)} (cg : Caught X a C dd) (I : Inv X pins σ H s) (ea : H dd = some (.xd fs)) :
    ∃ oe od, PySem.W.InstAt s.heap a oe C (some od) ∧ ∀ {f : Str} {v : V}, fs.lookup f = some v → ∃ u, PySem.W.lookIn f od = some (some u) ∧ L2.RelV v u := by
  obtain ⟨oe, hm, hz, vs, hd⟩ := cg.ex
  obtain ⟨ha, _⟩ := I.pin (a, oe) (List.mem_append_left _ hm)
  have hx : ObjOk X.prog X.w H s.heap dd (.xd fs) := I.hok dd _ ea
  obtain ⟨mA, hns, hr⟩ := hx
  obtain ⟨od, ho, hl⟩ := lookIn_ns hns
  refine ⟨oe, od, ⟨ha, hz.1, by unfold PySem.W.notCls; rw [hd] <;> rfl, by rw [hz.2]; exact ho⟩, fun {f v} l => ?_⟩
  obtain ⟨u, hu, ru⟩ := RelO.some_of (v := v) (o := mA f) (by rw [← l]; exact hr f)
  exact ⟨u, by rw [hl, hu], ru⟩
/-- e.f -/
theorem e_xfld {a C dd : Addr} {fs : List (Str × D)} {f : Str} (T : XfC X.K C) (hno : PySem.W.findIn X.K (.ref C) f = some none) (cg : Caught X a C dd) (h : EVd X e G M (.exc a dd fs) M1) (hl : fs.lookup f = some d) (hb : attributeBase e f X.env (eval e X.env) = eval e X.env := by rfl) :
    EVd X (.Attribute e f pos) G M d M1 := .mk fun Z σ H m s Qc post pins st I => by
  refine attr_of hb (thn (h Z σ H m s (fun v H1 => v = .ref a ∧ ∃ vs v', H1 dd = some (.xd vs) ∧ vs.lookup f = some v' ∧ Qc v' H1) (fun v Z1 H1 x M1 n1 r1 q1 => ?_) pins st I) fun u s1 hh => ?_)
  · obtain ⟨rfl, rfl⟩ := q1
    cases r1 with
    | exc h1 rs =>
      obtain ⟨w, h2, h3⟩ := repF_look rs hl
      exact ⟨rfl, _, w, n1.ok.ex _ _ h1, h2, post _ _ _ _ _ n1 h3 ⟨rfl, rfl⟩⟩
  · obtain ⟨v, H1, I1, r1, rfl, vs, w, ea, l, q⟩ := hh
    obtain rfl : u = Value.ref a := r1
    obtain ⟨oe, od, J, look⟩ := caught_at cg I1 ea
    obtain ⟨u', hu, ru⟩ := look l
    exact HandSPX.exc_get I1.kIn J T.ga T.gg T.exC (PySem.W.findObj_own T.hdC hno rfl hu) (handed_of ru) ⟨w, H1, I1.tok _, ru, q⟩
/-- isinstance(e, A), A a class -/
theorem e_isiX {a' C dd A : Addr} {fs : List (Str × D)} {r : Bool} (T : ExcC X.K C) (cg : Caught X a' C dd) (hm : X.mg "isinstance" = none) (h : EVd X a G M (.exc a' dd fs) M1) (h2 : EVd X b G M1 (.ref A) M2) (hk : PySem.W.kitOne X.K (.ref C) (.ref A) = some r) (hg : Gl X "isinstance" := by rfl)
    (he : starEach [a, b] X.env = (false, eval a X.env) :: starEach [b] X.env := by rfl) (he2 : starEach [b] X.env = (false, eval b X.env) :: starEach [] X.env := by rfl) (hpl : (backTo pos (starEach [b] X.env)).any (·.1) = false := by rfl) : EVd X (.Call (.Name "isinstance" p) [a, b] [] pos) G M (.bl r) M2 :=
  ev_fn ((a_cons h (a_cons h2 a_nil he2) he).to ⟨fun xs H Q => ∃ vs : List (Str × V), xs = [V.ref a', V.ref A] ∧ H dd = some (.xd vs) ∧ Q (.bl r) H, fun pins s σ H xs us Q I rr hh => by
    obtain ⟨vs, rfl, ea, q⟩ := hh
    cases rr with
    | cons rx rr =>
      cases rr with
      | cons rt rr =>
        cases rr
        cases rx
        cases rt
        obtain ⟨oe, od, J, _⟩ := caught_at cg I ea
        exact PySem.W.kia_one (PySem.W.kitx_exc (by obtain ⟨cd, hc, _⟩ := PySem.W.any_some T.hd; rw [hc]; rfl) T.hg T.hk T.hs T.ha T.hn T.ht T.hm) I.kIn J hk (fun z => nomatch z) fun tk => ⟨.bl r, H, I.kept (t' := tk) fun _ _ z => z, rfl, q⟩,
    fun Z H vs m rr Qc post => by
    cases rr with
    | cons r1 rr =>
      cases rr with
      | cons r2 rr =>
        cases rr
        cases r2
        cases r1 with
        | exc h1 rs => exact ⟨_, rfl, m.ex _ _ h1, post _ _ _ _ _ (Nx.refl m) (.bl r) ⟨rfl, rfl⟩⟩⟩) hm bb_isi hg (by decide) (by decide) he hpl
end
end ES

set_option Elab.async false
set_option linter.all false
set_option maxRecDepth 100000
set_option maxHeartbeats 2000000
namespace ES
open PySem PySem.Spec PyProof.Rows L2

/-! ### the head: facts of the written part as tests, read by one run -/
abbrev Tst := PySem.W.Frag → Bool
def obsP (ps : List Tst) (fn : List He.DefD) (K : PySem.W.Frag) : He.AlD := ((ps.all fun p => p K) && fn.all fun d => d.ok K, fn.map fun d => He.fnW K d.at_)
def SaysP (ps : List Tst) (fn : List He.DefD) (K : PySem.W.Frag) : Prop := obsP ps fn K = He.valD fn
/-- what the module's names reach in n steps, and the names of the model's own store -/
def asP (g : Addr → Option Obj) : Nat → List Addr
  | 0 => [mainGlobals, cStatics]
  | n + 1 => He.growD g (asP g n)
def obsPG (n : Nat) (ps : List Tst) (fn : List He.DefD) (g : Addr → Option Obj) : He.AlD := obsP ps fn (He.frG g (asP g n))
def hookP (n : Nat) (ps : List Tst) (fn : List He.DefD) : PySem.W.Hook where
  α := He.AlD
  obs := fun s => obsPG n ps fn s.heap.get?
  val := fun _ => He.valD fn
  says := fun _ h => ∃ K : PySem.W.Frag, K.In h ∧ SaysP ps fn K
  of := fun _ _ e => ⟨_, He.frG_in, e⟩
  keeps := fun _ _ _ ⟨K, hK, c⟩ k => ⟨K, PySem.W.Frag.In.keeps hK k, c⟩
theorem obsPG_eq {n : Nat} {ps : List Tst} {fn : List He.DefD} {g : Addr → Option Obj} {s : Shared} (h : ∀ a, g a = s.heap.get? a) : obsPG n ps fn g = (hookP n ps fn).obs s := by
  have e : g = s.heap.get? := funext h
  rw [e] <;> rfl
section
variable {ps : List Tst} {fn : List He.DefD} {K : PySem.W.Frag} {h : Heap} {mg : Str → Option Value}
theorem SaysP.fact (c : SaysP ps fn K) (i : Nat) {p : Tst} (h : ps[i]? = some p := by rfl) : p K = true := by
  have c1 := (He.ba (show ((ps.all fun p => p K) && fn.all fun d => d.ok K) = true from congrArg (fun z : He.AlD => z.1) c)).1
  exact List.all_eq_true.mp c1 p (List.mem_of_getElem? h)
theorem SaysP.def_ (c : SaysP ps fn K) (i : Nat) {d : He.DefD} (h : fn[i]? = some d := by rfl) : ∃ fd, FunD K d.name d.qual d.params d.body d.scope (d.dvs K) (d.kws K) (He.fAd K d.at_) fd := by
  have c2 := (He.ba (show ((ps.all fun p => p K) && fn.all fun d => d.ok K) = true from congrArg (fun z : He.AlD => z.1) c)).2
  have e : fn.map (fun d => He.fnW K d.at_) = fn.map He.DefD.val := congrArg (fun z : He.AlD => z.2) c
  have e2 : (fn.map fun d => He.fnW K d.at_)[i]? = (fn.map He.DefD.val)[i]? := by rw [e]
  rw [List.getElem?_map, List.getElem?_map, h] at e2
  exact He.DefD.funD (Option.some.inj e2) (List.all_eq_true.mp c2 d (List.mem_of_getElem? h))
/-- a def as the rules take it -/
abbrev dD (p : Str × Option Str) (x qual : Str) (st : Stmt) : He.DefD := ⟨p, x, qual, defArgs st, defBody st, defScope st, [], []⟩
theorem fun_of {x qual : Str} {st : Stmt} {f : Addr} {fd : FuncData} (F : FunD K x qual (defArgs st) (defBody st) (defScope st) [] [] f fd) : Fun K x qual st f fd := by
  obtain ⟨oc, od, dV, kV, doc, pm, an, cdv, ct, osl, e, lk, hcd, hD, hK⟩ := F.ex
  rcases hD with ⟨_, rfl⟩ | ⟨e, _⟩
  · exact ⟨⟨oc, od, kV, doc, pm, an, cdv, ct, osl, e, lk, hcd⟩, F.kp⟩
  · exact absurd rfl e
theorem SaysP.fn_ (c : SaysP ps fn K) (i : Nat) {p : Str × Option Str} {x qual : Str} {st : Stmt} (h : fn[i]? = some (dD p x qual st) := by rfl) : ∃ fd, Fun K x qual st (He.fAd K p) fd := by
  obtain ⟨fd, F⟩ := c.def_ i h
  exact ⟨fd, fun_of F⟩

/-! names -/
def gloB (x : Str) : Tst := fun K => He.Fa.ok K (.glo x)
def freeB (x : Str) : Tst := fun K => He.Fa.ok K (.free x)
def intB (x : Str) (i : Int) : Tst := fun K => He.Fa.ok K (.int x i)
theorem glo_of (X : K.In h) (G : h.Ns mainGlobals mg) {x : Str} (c : gloB x K = true) : mg x = some (.ref (He.ga K x)) := He.glo_ok X G c
theorem free_of (X : K.In h) (G : h.Ns mainGlobals mg) {x : Str} (c : freeB x K = true) : mg x = none := He.free_ok X G c
theorem int_of (X : K.In h) (G : h.Ns mainGlobals mg) {x : Str} {i : Int} (c : intB x i K = true) : ∃ t, mg x = some (.int i t) := He.int_ok X G c

/-! own exception classes -/
def oexB (K : PySem.W.Frag) (C : Addr) : Bool := (match K.lookup C with
  | some ⟨.type t, _, .cls cd, sl⟩ => decide (t = "type") && (match cd.mro, sl.toList with
    | .ref C' :: bm, [_, _, _, _, some (.builtin n), _] => decide (C' = C) && (decide (n = "ValueError.__new__") && (!cd.hasDel && (cd.hasDict && PySem.HandSPX.refsVE bm)))
    | _, _ => false)
  | _ => false) && (decide (PySem.W.findIn K (.ref C) "__setattr__" = some (some (.builtin "object.__setattr__"))) && (decide (PySem.W.subIn K (.ref C) (.type "BaseException") = some true) && (decide (PySem.W.typeIn K (.ref C) = some (.type "type")) && PySem.W.keepIn K (.ref C))))
theorem oexB_ok {C : Addr} (c : oexB K C = true) : OexC K C := by
  obtain ⟨c1, c⟩ := He.ba c
  obtain ⟨c2, c⟩ := He.ba c
  obtain ⟨c3, c⟩ := He.ba c
  obtain ⟨c4, c5⟩ := He.ba c
  refine ⟨?_, of_decide_eq_true c2, of_decide_eq_true c3, of_decide_eq_true c4, c5⟩
  have c1 : (match K.lookup C with
    | some ⟨.type t, _, .cls cd, sl⟩ => decide (t = "type") && (match cd.mro, sl.toList with
      | .ref C' :: bm, [_, _, _, _, some (.builtin n), _] => decide (C' = C) && (decide (n = "ValueError.__new__") && (!cd.hasDel && (cd.hasDict && PySem.HandSPX.refsVE bm)))
      | _, _ => false)
    | _ => false) = true := c1
  cases q : K.lookup C with
  | none => rw [q] at c1; cases c1
  | some o =>
    obtain ⟨oc, dd, dt, sl⟩ := o
    rw [q] at c1
    cases oc with
    | type t =>
      cases dt with
      | cls cd =>
        obtain ⟨e1, c1⟩ := He.ba c1
        have e2 := of_decide_eq_true e1
        split at c1
        · rename_i C' bm k0 k1 k2 k3 n k5 hm hs
          obtain ⟨d1, c1⟩ := He.ba c1
          obtain ⟨d2, c1⟩ := He.ba c1
          obtain ⟨d3, c1⟩ := He.ba c1
          obtain ⟨d4, d5⟩ := He.ba c1
          have g1 := of_decide_eq_true d1
          have g2 := of_decide_eq_true d2
          have g3 : cd.hasDel = false := by simpa using d3
          have g4 : cd.hasDict = true := d4
          clear e1 d1 d2 d3 d4
          subst e2 g1 g2
          obtain ⟨nm, bs, mro, ns, qn, hd, sn, sub, ab, col, del⟩ := cd
          dsimp only at hm g3 g4
          subst hm g3 g4
          have hsl : sl = #[k0, k1, k2, k3, some (.builtin "ValueError.__new__"), k5] := by
            obtain ⟨l⟩ := sl
            simp only at hs
            rw [hs]
          subst hsl
          exact ⟨nm, qn, ns, bs, bm, sn, sub, ab, col, dd, k0, k1, k2, k3, k5, rfl, d5⟩
        · cases c1
      | _ => cases c1
    | _ => cases dt <;> cases c1
def excB (K : PySem.W.Frag) (D : Addr) : Bool := decide (PySem.W.findIn K (.ref D) "__getattribute__" = some (some (.builtin "BaseException.__getattribute__"))) && (decide (PySem.W.findIn K (.ref D) "__getattr__" = some none) && (decide (PySem.W.subIn K (.ref D) (.type "BaseException") = some true) &&
  (PySem.W.hasDictIn K D && (decide (PySem.W.findIn K (.ref D) "__class__" = some (some (.builtin "object.__class__"))) && (decide (PySem.W.specialIn K (.builtin "object.__class__") "__get__" = some (some (.builtin "getset_descriptor.__get__"))) && (decide (PySem.W.takesIn K (.builtin "object.__class__") = some true) && decide (PySem.W.mroIn K D (.type "object") = some true)))))))
theorem excB_ok {D : Addr} (c : excB K D = true) : ExcC K D := by
  obtain ⟨c1, c⟩ := He.ba c
  obtain ⟨c2, c⟩ := He.ba c
  obtain ⟨c3, c⟩ := He.ba c
  obtain ⟨c4, c⟩ := He.ba c
  obtain ⟨c5, c⟩ := He.ba c
  obtain ⟨c6, c⟩ := He.ba c
  obtain ⟨c7, c8⟩ := He.ba c
  exact ⟨of_decide_eq_true c1, of_decide_eq_true c2, of_decide_eq_true c3, c4, of_decide_eq_true c5, of_decide_eq_true c6, of_decide_eq_true c7, of_decide_eq_true c8⟩
/-- the base class -/
def baseB (x : Str) : Tst := fun K => gloB x K && (decide (PySem.W.specialIn K (.ref (He.ga K x)) "__getattribute__" = some (some (.builtin "type.__getattribute__"))) && (PySem.W.readsIn K (He.ga K x) (.type "type") &&
  (match PySem.W.findCls K (.ref (He.ga K x)) (.type "type") "__init__" with
  | some (.val (.builtin n)) => decide (n = "ValueError.__init__")
  | _ => false)))
theorem base_of (X : K.In h) (G : h.Ns mainGlobals mg) {x : Str} (c : baseB x K = true) : BaseC K mg x (He.ga K x) := by
  obtain ⟨c1, c⟩ := He.ba c
  obtain ⟨c2, c⟩ := He.ba c
  obtain ⟨c3, c4⟩ := He.ba c
  refine ⟨glo_of X G c1, of_decide_eq_true c2, c3, ?_⟩
  split at c4
  · rename_i n e
    rw [e, of_decide_eq_true c4]
  · cases c4
/-- an exception class: its fields fn -/
structure Exn (K : PySem.W.Frag) (mg : Str → Option Value) (x : Str) (fn : List Str) : Prop where
  mgC : mg x = some (.ref (He.ga K x))
  ox : OexC K (He.ga K x)
  xf : XfC K (He.ga K x)
  xc : ExcC K (He.ga K x)
  no : ∀ f ∈ fn, PySem.W.findIn K (.ref (He.ga K x)) f = some none
  iC : PySem.W.findIn K (.ref (He.ga K x)) "__init__" = some (some (.ref (He.ma K (He.ga K x) "__init__")))
  tI : PySem.W.typeIn K (.ref (He.ma K (He.ga K x) "__init__")) = some (.type "function")
def exnB (x : Str) (fn : List Str) : Tst := fun K => gloB x K && (oexB K (He.ga K x) && (xfB K (He.ga K x) && (excB K (He.ga K x) && ((fn.all fun f => decide (PySem.W.findIn K (.ref (He.ga K x)) f = some none)) &&
  (decide (PySem.W.findIn K (.ref (He.ga K x)) "__init__" = some (some (.ref (He.ma K (He.ga K x) "__init__")))) && decide (PySem.W.typeIn K (.ref (He.ma K (He.ga K x) "__init__")) = some (.type "function")))))))
theorem exn_of (X : K.In h) (G : h.Ns mainGlobals mg) {x : Str} {fn : List Str} (c : exnB x fn K = true) : Exn K mg x fn := by
  obtain ⟨c1, c⟩ := He.ba c
  obtain ⟨c2, c⟩ := He.ba c
  obtain ⟨c3, c⟩ := He.ba c
  obtain ⟨c4, c⟩ := He.ba c
  obtain ⟨c5, c⟩ := He.ba c
  obtain ⟨c6, c7⟩ := He.ba c
  exact ⟨glo_of X G c1, oexB_ok c2, xfB_ok c3, excB_ok c4, fun f hf => of_decide_eq_true (List.all_eq_true.mp c5 f hf), of_decide_eq_true c6, of_decide_eq_true c7⟩
theorem Exn.xc_ {P : Program} {w : World} {base : Heap} {k : Nat} {x : Str} {fn ps : List Str} {fd : FuncData} (e : Exn K mg x fn) (F : FnOk P w K mg base CX0 k (He.ma K (He.ga K x) "__init__") fd ps (spXI (He.ga K x) fn)) (hb : Binds K fd ps []) : XC P w K mg base k x fn (He.ga K x) :=
  ⟨e.mgC, e.ox, _, _, _, e.iC, e.tI, F, hb⟩
/-- which clause catches which class -/
def exmB (x y : Str) (b : Bool) : Tst := fun K => decide (PySem.W.exmOne K (.ref (He.ga K x)) (.ref (He.ga K y)) = some b)
def kitB2 (x y : Str) (b : Bool) : Tst := fun K => decide (PySem.W.kitOne K (.ref (He.ga K x)) (.ref (He.ga K y)) = some b)
theorem exm_of {x y : Str} {b : Bool} (c : exmB x y b K = true) : PySem.W.exmOne K (.ref (He.ga K x)) (.ref (He.ga K y)) = some b := of_decide_eq_true c
theorem kit_of {x y : Str} {b : Bool} (c : kitB2 x y b K = true) : PySem.W.kitOne K (.ref (He.ga K x)) (.ref (He.ga K y)) = some b := of_decide_eq_true c
/-- plain classes -/
structure ClC (K : PySem.W.Frag) (mg : Str → Option Value) (x : Str) (fn : List Str) (ms : List Str) : Prop where
  mgC : mg x = some (.ref (He.ga K x))
  cl : Cls K (He.ga K x)
  mkr : Mk K (He.ga K x) (He.ma K (He.ga K x) "__init__")
  no : ∀ f ∈ fn, NoAttr K (He.ga K x) f
  me : ∀ m ∈ ms, Meth K (He.ga K x) m (He.ma K (He.ga K x) m)
def clcB (x : Str) (fn ms : List Str) : Tst := fun K => gloB x K && (He.Fa.ok K (.cls x) && (He.Fa.ok K (.mkr x) && ((fn.all fun f => He.Fa.ok K (.noat x f)) && (ms.all fun m => He.Fa.ok K (.meth x m)))))
theorem clc_of (X : K.In h) (G : h.Ns mainGlobals mg) {x : Str} {fn ms : List Str} (c : clcB x fn ms K = true) : ClC K mg x fn ms := by
  obtain ⟨c1, c⟩ := He.ba c
  obtain ⟨c2, c⟩ := He.ba c
  obtain ⟨c3, c⟩ := He.ba c
  obtain ⟨c4, c5⟩ := He.ba c
  exact ⟨glo_of X G c1, He.cls_ok c2, He.mkr_ok c3, fun f hf => He.noat_ok (List.all_eq_true.mp c4 f hf), fun m hm => He.meth_ok (List.all_eq_true.mp c5 m hm)⟩
end

/-! ### the law's own promise, the end -/
/-- every script is answered True -/
def S_law : AS := fun ds M Q _ => ∃ ns : List Int, ds = [.scr ns] ∧ ns.length ≤ 63 ∧ M = [] ∧ ∀ M', Q (.bl true) M'
theorem cx_no {P : Program} {w : World} {H : Hp} {s : Shared} {e : Value} {s' : Shared} (h : L2.CX P w [] H s (fun _ _ _ => False) e s') : False := by
  obtain ⟨_, _, _, _, _, _, _, _, _, _, _, _, z⟩ := h
  exact z
theorem walk_X {l : PySem.W.OpenLaw} {k : Nat} {q : Program} {loose : List Str} {XP : (Str → Option Value) → Heap → Prop} {YP : World → Heap → Prop} {d : DefRec}
    (hn : l.most = some 63) (hdf : d.params.defaults = []) (hr : Room k callerA)
    (F : ∀ (w : World) (mg : Str → Option Value) (fa : Addr) (h : Heap), YP w h → h.Ns mainGlobals mg → mg d.name = some (.ref fa) →
      ∃ K : PySem.W.Frag, K.In h ∧ (∃ fd, (∀ (s : Shared) (u : Value), BindsTo s fd ⟨[u], []⟩ [("script", u)]) ∧ ∀ base : Heap, K.In base → base.Ns mainGlobals mg → FnOk l.prog w K mg base (L2.CX l.prog w) k fa fd ["script"] (spOf K 1 S_law))) :
    PySem.W.WalkO q loose XP YP l.row.toRowW d [] (fun f vs => PySem.call f vs) := by
  refine Att.attach_call hn hdf fun w s₀ s₁ mg mb fa o pm cd doc a vs ns G Y ho hd hcd hmg hobj hints hlen hg => ?_
  obtain ⟨K, KX, fd, hb, hF⟩ := F w mg fa _ Y G.T.g hmg
  refine law_call KX G.T.g G.T.b G.T.builtins G.T.nolimit hg hobj hints (Nat.le_trans hlen (by decide)) hr (sp := spOf K 1 S_law) (CX := L2.CX l.prog w) (x := "script") hF hb (fun H hO hS => ?_) fun H e s' z => cx_no z
  exact ⟨rfl, H, [.scr ns], [], fun d _ => d = .bl true, noX, ⟨Ex.refl H, List.nodup_nil, fun p hp => absurd hp (by simp)⟩, .cons (.scr hS) .nil, ⟨ns, rfl, hlen, rfl, fun _ => rfl⟩, fun v Z' H' d M' n r q => by subst q; cases r; rfl, fun _ _ _ _ _ _ _ _ _ _ _ q => q⟩
end ES

set_option Elab.async false
set_option linter.all false
set_option maxRecDepth 100000
set_option maxHeartbeats 2000000
namespace ES
open PySem PySem.Spec PyProof.Rows L2

/-! ### rules that go on with whatever comes -/
section
variable {X : Cx} {K : PySem.W.Frag} {Z Z1 H H1 : Hp} {M M1 M2 M3 : Mem} {G : Sl} {e a b c : Expr} {es : List Expr} {d x y z : D} {xs ys ds : List D} {pos p p2 : Pos} {E : AE} {rest : List Stmt} {st : Stmt} {k n : Nat} {S : AS}
theorem ea_cons {Q : List D → Mem → Prop} (h : EV X e G M fun d M1 => EA X es G M1 fun ds M2 => Q (d :: ds) M2) (hs : starEach (e :: es) X.env = (false, eval e X.env) :: starEach es X.env := by rfl) : EA X (e :: es) G M Q := .mk fun Z σ H m s Qc post pos pins st I => by
  refine (pa_cons pE pA hs).run pos pins st σ H Qc I ?_
  refine h Z σ H m s _ fun v Z1 H1 x M1 n1 r1 q1 => ?_
  refine q1 Z1 σ H1 n1.ok (s.mono n1.ez) _ fun vs Z2 H2 ds M2 n2 r2 q2 => ?_
  exact post _ Z2 H2 _ _ (n1.trans n2) (.cons (r1.mono n2.ez) r2) q2
theorem ea_nil {Q : List D → Mem → Prop} (q : Q [] M) : EA X [] G M Q := a_nil.to q
theorem ev_ix {Q : D → Mem → Prop} (h : EV X a G M fun x M1 => EV X b G M1 fun y M2 => ∃ i d, y = .int i ∧ ID X x i M2 d ∧ Q d M2) (hs : PlainIx b := by intro _ _; rfl) : EV X (.Subscript a b pos) G M Q := .mk fun Z σ H m s Qc post pins st I => by
  refine Subscript_ (binT pE pE (R := fun v u H2 => ∃ (r : R2) (i : Int), u = .int i ∧ IxR X r ∧ r v (.int i) H2 Qc) I ?_ fun v u s2 x y H2 I2 rx ry q => ?_)
  · refine h Z σ H m s _ fun v Z1 H1 x M1 n1 r1 q1 => ?_
    refine q1 Z1 σ H1 n1.ok (s.mono n1.ez) _ fun u Z2 H2 y M2 n2 r2 q2 => ?_
    obtain ⟨i, d, rfl, ⟨r, ho, hr⟩, q⟩ := q2
    cases r2
    exact ⟨r, i, rfl, ho, hr Z2 H2 v n2.ok (r1.mono n2.ez) Qc fun u ru => post u Z2 H2 d _ (n1.trans n2) ru q⟩
  · obtain ⟨r, i, rfl, ho, hr⟩ := q
    exact ho a b pins s2 σ H2 x _ v u Qc I2 rx ry hr (hs _ _)
/-- a if c else b, no memory changed -/
theorem e_if' {k : Bool} (h : ETd X c G M k M) (h1 : k = true → EVd X a G M d M) (h2 : k = false → EVd X b G M d M) : EVd X (.IfExp c a b pos) G M d M := e_if h h1 h2
theorem BD.to {f : Value → Value → Sem Value} {Q : D → Mem → Prop} (h : BD X f x y M (Is d M1)) (q : Q d M1) : BD X f x y M Q := by
  obtain ⟨r, o, k⟩ := h
  exact ⟨r, o, fun Z H v u m r1 r2 Qc post => k Z H v u m r1 r2 Qc fun v Z' H' d' M' n rr q' => post v Z' H' d' M' n rr (by obtain ⟨rfl, rfl⟩ := q'; exact q)⟩
theorem ev_lstE {Q : D → Mem → Prop} (h : EA X es G M fun ds M1 => ds.length ≤ 1000000 ∧ NewL ds M1 Q) : EV X (.List es pos) G M Q := .mk fun Z σ H m s Qc post pins st I => by
  refine (pe_lst pA).run pins st σ H Qc I ?_
  refine h Z σ H m s _ fun vs Z1 H1 ds M1 n1 r1 q1 => ?_
  obtain ⟨hl, k⟩ := q1
  exact ⟨by rw [r1.length]; exact sz hl, fun q hq => k.post n1.ok (post.aft n1) hq r1⟩
theorem ev_tupE {Q : D → Mem → Prop} {kt : Nat} (h : EA X es G M fun ds M1 => ds.length ≤ 1000000 ∧ Q (.tup ds) M1) : EV X (.Tuple es kt pos) G M Q := .mk fun Z σ H m s Qc post pins st I => by
  refine (pe_tup pA).run pins st σ H Qc I ?_
  refine h Z σ H m s _ fun vs Z1 H1 ds M1 n1 r1 q1 => ?_
  refine ⟨by rw [r1.length]; exact sz q1.1, fun q hq => ?_⟩
  have n2 := Nx.froze (o := .tup vs) n1.ok hq
  exact post _ _ _ _ _ (n1.trans n2) (.tup (SqT.of upd_same) (r1.mono n2.ez)) q1.2

/-! ### pure defs -/
/-- trees in, a tree out, no memory -/
abbrev Pu (R : List D → D → Prop) : AS := fun ds M Q _ => ∃ d, R ds d ∧ M = [] ∧ Q d []
theorem ps_meets {R : List D → D → Prop} {Ex : XAT} (h : R ds d) (hl : ds.length = n) : Meets (Pu R) n ds M1 (Is d M1) Ex := ⟨hl, [], M1, .refl _, d, h, rfl, M1, .refl _, rfl, rfl⟩
theorem e_callP {xn : Str} {R : List D → D → Prop} (C : Fn X.prog X.w X.K X.mg X.base k xn n (Pu R)) (hr : Room k X.A) (ha : EAd X (e :: es) G M ds M1) (h : R ds d) (hl : ds.length = n := by rfl) (hg : Gl X xn := by rfl) (hdb : (xn == ("__debug__" : Str)) = false := by decide)
    (he : starEach (e :: es) X.env = (false, eval e X.env) :: starEach es X.env := by rfl) (hpl : (backTo pos (starEach es X.env)).any (·.1) = false := by rfl) : EVd X (.Call (.Name xn p) (e :: es) [] pos) G M d M1 :=
  ev_call C hr (ha.to (ps_meets h hl)) hg hdb he hpl

/-! ### cells lent to a pure def -/
mutual
/-- the tree that stands behind a value -/
inductive Rz (M : Mem) : D → D → Prop
  | same (d : D) : Rz M d d
  | cell {q : Addr} {ds ds' : List D} : (q, Cell.lst ds) ∈ M → Rzs M ds ds' → Rz M (.ref q) (.lst ds')
  | lst {ds ds' : List D} : Rzs M ds ds' → Rz M (.lst ds) (.lst ds')
  | tup {ds ds' : List D} : Rzs M ds ds' → Rz M (.tup ds) (.tup ds')
inductive Rzs (M : Mem) : List D → List D → Prop
  | nil : Rzs M [] []
  | cons {d d' : D} {ds ds' : List D} : Rz M d d' → Rzs M ds ds' → Rzs M (d :: ds) (d' :: ds')
end
theorem rzs_same : ∀ ds : List D, Rzs M ds ds
  | [] => .nil
  | d :: ds => .cons (.same d) (rzs_same ds)
def lent (Z H : Hp) (M : Mem) : Hp := fun a => if a ∈ dom M then H a else Z a
theorem lent_z (m : MOk K Z H M) : Ex Z (lent Z H M) := fun a o h => by
  unfold lent
  by_cases ha : a ∈ dom M
  · rw [m.notz ha] at h; cases h
  · rw [if_neg ha]; exact h
theorem lent_h (m : MOk K Z H M) : Ex (lent Z H M) H := fun a o h => by
  unfold lent at h
  by_cases ha : a ∈ dom M
  · rw [if_pos ha] at h; exact h
  · rw [if_neg ha] at h; exact m.ex a o h
mutual
theorem rz_rep (m : MOk K Z H M) : ∀ {d d' : D} {v : V}, Rz M d d' → Rep K Z v d → Rep K (lent Z H M) v d'
  | _, _, _, .same d, r => r.mono (lent_z m)
  | _, _, _, .cell (q := q) hq hs, .ref _ => by
    obtain ⟨_, vs, hv, rs⟩ := m.cell _ hq
    have hd : q ∈ dom M := List.mem_map.mpr ⟨_, hq, rfl⟩
    exact .lst (vs := vs) (by unfold lent; rw [if_pos hd]; exact hv) (rz_reps m hs rs)
  | _, _, _, .lst hs, .lst h1 rs => .lst (lent_z m _ _ h1) (rz_reps m hs rs)
  | _, _, _, .tup hs, .tup h1 rs => .tup (ex_t (lent_z m) h1) (rz_reps m hs rs)
theorem rz_reps (m : MOk K Z H M) : ∀ {ds ds' : List D} {vs : List V}, Rzs M ds ds' → Reps K Z vs ds → Reps K (lent Z H M) vs ds'
  | _, _, _, .nil, .nil => .nil
  | _, _, _, .cons h hs, .cons r rs => .cons (rz_rep m h r) (rz_reps m hs rs)
end
theorem flat_any {v : V} {Z' : Hp} (r : Rep K Z v d) (h : d.flat = true) : Rep K Z' v d := by
  cases r with
  | non => exact .non
  | bl b => exact .bl b
  | int i => exact .int i
  | str x => exact .str x
  | _ => cases h
theorem lend_sp {Q : D → Mem → Prop} {Qc : VK} {vs : List V} {ds' : List D} (m : MOk K Z H M1) (r : Reps K Z vs ds) (hz : Rzs M1 ds ds') (hl : ds.length = n) (hS : S ds' [] (fun d M2 => M2 = [] ∧ d.flat = true ∧ Q d M1) noX) (post : Post K Z H M1 Q Qc) : spOf K n S vs H Qc E0 := by
  refine ⟨by rw [r.length]; exact hl, lent Z H M1, ds', [], _, _, ⟨lent_h m, List.nodup_nil, fun p hp => absurd hp (by simp)⟩, rz_reps m hz r, hS, fun v Z' H' d M2 nn r' q => ?_, px_no⟩
  obtain ⟨rfl, hf, q⟩ := q
  have kp : ∀ a o, H a = some o → H' a = some o := fun a o h => nn.keep a o h (by simp [dom])
  refine post v Z H' d M1 ⟨⟨fun a o h => kp a o (m.ex a o h), m.nd, fun p hp => ?_⟩, Ex.refl Z, fun a o h _ => kp a o h, fun a o h => .inl h, fun a h => .inl h⟩ (flat_any r' hf) q
  obtain ⟨h1, h2⟩ := m.cell p hp
  obtain ⟨o, ho⟩ := h2.some
  exact ⟨h1, h2.mono (Ex.refl Z) ((kp _ _ ho).trans ho.symm)⟩
/-- f(e, ..), its cells read as trees; a flat answer -/
theorem e_callL {xn : Str} {R : List D → D → Prop} (ds' : List D) (C : Fn X.prog X.w X.K X.mg X.base k xn n (Pu R)) (hr : Room k X.A) (ha : EAd X (e :: es) G M ds M1) (hz : Rzs M1 ds ds') (h : R ds' d) (hf : d.flat = true := by rfl) (hl : ds.length = n := by rfl) (hg : Gl X xn := by rfl) (hdb : (xn == ("__debug__" : Str)) = false := by decide)
    (he : starEach (e :: es) X.env = (false, eval e X.env) :: starEach es X.env := by rfl) (hpl : (backTo pos (starEach es X.env)).any (·.1) = false := by rfl) : EVd X (.Call (.Name xn p) (e :: es) [] pos) G M d M1 := .mk fun Z σ H m s Qc post pins st I => by
  obtain ⟨f, hm, fd, ps, hn, F, kp, hb⟩ := C.ex
  refine (pe_call F hr hg hm kp hb .nil passL pA hdb he hpl).run pins st σ H Qc I ?_
  refine ha Z σ H m s _ fun vs Z1 H1 ds0 M0 n1 r1 q1 => ?_
  obtain ⟨rfl, rfl⟩ := q1
  rw [List.append_nil]
  exact lend_sp n1.ok r1 hz hl ⟨d, h, rfl, rfl, hf, rfl, rfl⟩ (post.aft n1)
end

/-! ### the block of a comprehension, by one test -/
def blkB (N : List Str) (sc scope : Scope) (own : List (Str × Nat)) : Bool := decide (scope.kind = .function) && (scope.names.all (fun y => decide (scope.names.lookup y.1 = some y.2)) && (own.all (fun p => decide (N[p.2]? = some p.1)) &&
  (scope.names.all (fun y => !decide (y.2 = .free) || (decide (sc.names.lookup y.1 = some .cell) || decide (sc.names.lookup y.1 = some .free))) && scope.names.all (fun y => !(decide (y.2 = .local) || decide (y.2 = .cell)) || (decide (y.1 ∈ own.map (·.1)) || !decide (y.1 ∈ N))))))
theorem blk_ok {N : List Str} {sc scope : Scope} {own : List (Str × Nat)} (h : blkB N sc scope own = true) : BlkOk N sc scope own := by
  obtain ⟨h1, h⟩ := He.ba h
  obtain ⟨h2, h⟩ := He.ba h
  obtain ⟨h3, h⟩ := He.ba h
  obtain ⟨h4, h5⟩ := He.ba h
  refine ⟨of_decide_eq_true h1, fun y hy => of_decide_eq_true (List.all_eq_true.mp h2 y hy), fun p hp => of_decide_eq_true (List.all_eq_true.mp h3 p hp), fun y hy e => ?_, fun y hy e => ?_⟩
  · have := List.all_eq_true.mp h4 y hy
    rw [e] at this
    simpa using this
  · have := List.all_eq_true.mp h5 y hy
    rcases e with e | e <;> rw [e] at this <;> simpa using this
section
variable {X : Cx} {M M1 : Mem} {G : Sl} {a : Expr} {p pos : Pos}
abbrev nats (N : Nat) : List D := (List.range N).map fun (k : Nat) => D.int (k : Int)
theorem it_rngN {tg : Expr} {n : Int} (N : Nat) (hm : X.mg "range" = none) (h : EVd X a G M (.int n) M1) (e : n = (N : Int)) (hb : N < 1000000000000) (hg : Gl X "range" := by rfl) (hs : starEach [a] X.env = [(false, eval a X.env)] := by rfl) : IT X tg (.Call (.Name "range" p) [a] [] pos) G M (nats N) M1 [] := by
  have z : rng 0 n.toNat = nats N := by
    rw [e, Int.toNat_natCast]
    unfold rng
    congr 1
    funext k
    rw [Int.zero_add]
  rw [← z]
  exact it_rng1 hm h (by omega) (by omega) hg hs
theorem nats_at {N i : Nat} {d : D} (h : (nats N)[i]? = some d) : i < N ∧ d = .int (i : Int) := by
  rw [List.getElem?_map] at h
  by_cases hi : i < N
  · rw [List.getElem?_range hi] at h
    exact ⟨hi, (Option.some.inj h).symm⟩
  · rw [List.getElem?_eq_none (by simpa using hi)] at h
    cases h
theorem fil_tt {α : Type} (l : List α) : l.filter (fun _ => true) = l := List.filter_eq_self.mpr fun _ _ => rfl
theorem nats_len (N : Nat) : (nats N).length = N := by simp
end

/-! ### cells that are no longer spoken of -/
section
variable {X : Cx} {K : PySem.W.Frag} {Z H : Hp} {M M' : Mem} {G : Sl} {E : AE}
theorem Nx.drop (m : MOk K Z H M) (s : M'.Sublist M) : Nx K Z H M Z H M' :=
  ⟨⟨m.ex, (s.map (·.1)).nodup m.nd, fun p hp => m.cell p (s.subset hp)⟩, Ex.refl Z, fun _ _ h _ => h, fun _ _ h => .inl h, fun a h => .inl ((s.map (·.1)).subset h)⟩
theorem SV.drop {sts : List Stmt} (h : SV X sts G M' E) (s : M'.Sublist M) : SV X sts G M E := .mk fun Z σ H m so D0 ok => h Z σ H (Nx.drop m s).ok so D0 (ok.aft (Nx.drop m s))
theorem SV.none {sts : List Stmt} (h : SV X sts G [] E) : SV X sts G M E := h.drop (List.nil_sublist M)
/-- the random numbers' purse -/
def Pur (q : Addr) (lim : Int) (M : Mem) : Prop := ∃ a b c : Int, M = [(q, .lst [.int a, .int b, .int c])] ∧ 0 ≤ a ∧ 0 ≤ b ∧ b < 2147483648 ∧ 0 ≤ c ∧ c ≤ lim
theorem Pur.mono {q : Addr} {l l' : Int} (h : Pur q l M) (hl : l ≤ l') : Pur q l' M := by
  obtain ⟨a, b, c, e, h1, h2, h3, h4, h5⟩ := h
  exact ⟨a, b, c, e, h1, h2, h3, h4, by omega⟩
/-- a draw below m -/
def S_draw : AS := fun ds M Q _ => ∃ (q : Addr) (m lim : Int), ds = [.ref q, .int m] ∧ 0 < m ∧ m ≤ 1000000000 ∧ lim ≤ 1000000000 ∧ Pur q lim M ∧ ∀ (r : Int) (M' : Mem), 0 ≤ r → r < m → Pur q (lim + 1) M' → Q (.int r) M'
def S_purse : AS := fun ds M Q _ => ∃ (ns : List Int) (at_ : Int), ds = [.scr ns, .int at_] ∧ 0 ≤ at_ ∧ at_ ≤ 1000000 ∧ M = [] ∧ ∀ (q : Addr) (M' : Mem), Pur q at_ M' → Q (.ref q) M'
theorem ev_draw {e1 e2 : Expr} {p pos : Pos} {xn : Str} {k : Nat} {M1 : Mem} {q : Addr} {m lim : Int} {Q : D → Mem → Prop} (C : Fn X.prog X.w X.K X.mg X.base k xn 2 S_draw) (hr : Room k X.A) (ha : EAd X [e1, e2] G M [.ref q, .int m] M1) (pu : Pur q lim M1) (hm : 0 < m ∧ m ≤ 1000000000) (hl : lim ≤ 1000000000)
    (kk : ∀ (r : Int) (M' : Mem), 0 ≤ r → r < m → Pur q (lim + 1) M' → Q (.int r) M') (hg : Gl X xn := by rfl) (hdb : (xn == ("__debug__" : Str)) = false := by decide)
    (he : starEach [e1, e2] X.env = (false, eval e1 X.env) :: starEach [e2] X.env := by rfl) (hpl : (backTo pos (starEach [e2] X.env)).any (·.1) = false := by rfl) : EV X (.Call (.Name xn p) [e1, e2] [] pos) G M Q :=
  ev_call C hr (ha.to ⟨rfl, M1, [], by rw [List.append_nil], q, m, lim, rfl, hm.1, hm.2, hl, pu, fun r M' h0 h1 pu' => ⟨M', by rw [List.append_nil], kk r M' h0 h1 pu'⟩⟩) hg hdb he hpl
end
end ES

set_option Elab.async false
set_option linter.all false
set_option maxRecDepth 100000
set_option maxHeartbeats 0
namespace K16
open PySem PySem.Spec PyProof.Rows L2
def top (i : Nat) : Stmt := PySem.Challenge.pw_stillwritten_k16_arrays_of_twos.main.body.getD i (.Pass ⟨0, 0, 0, 0⟩)
def inClass : Stmt → Nat → Stmt
  | .ClassDef _ _ _ b _ _ _ _ _ _ _, i => b.getD i (.Pass ⟨0, 0, 0, 0⟩)
  | s, _ => s
def tests : List ES.Tst := [ES.baseB "WrittenError", ES.exnB "TooMany" ["what"], ES.exnB "BadMoves" ["what"], ES.intB "MANY" 40, ES.gloB "check_most", ES.gloB "check_twos", ES.gloB "choices", ES.gloB "least_twos", ES.gloB "twos_due", ES.gloB "next_rows", ES.gloB "build_twos", ES.gloB "twos_threads", ES.gloB "_law_purse", ES.gloB "_law_draw", ES.gloB "_law_are_threads", ES.gloB "_law_pascal", ES.gloB "_law_twos", ES.gloB "_law_alone", ES.gloB "_law_all_met", ES.gloB "_law_one_number", ES.gloB "law", ES.freeB "ValueError", ES.freeB "abs", ES.freeB "bool", ES.freeB "int", ES.freeB "isinstance", ES.freeB "len", ES.freeB "list", ES.freeB "range", ES.freeB "sum", ES.exmB "TooMany" "TooMany" true, ES.exmB "BadMoves" "TooMany" false, ES.exmB "TooMany" "BadMoves" false, ES.exmB "BadMoves" "BadMoves" true, ES.kitB2 "TooMany" "BadMoves" false, ES.kitB2 "BadMoves" "BadMoves" true, ES.kitB2 "TooMany" "TooMany" true, ES.kitB2 "BadMoves" "TooMany" false]
def defs : List He.DefD := [ES.dD ("TooMany", some "__init__") "__init__" "TooMany.__init__" (inClass (top 2) 0), ES.dD ("BadMoves", some "__init__") "__init__" "BadMoves.__init__" (inClass (top 3) 0), ES.dD ("check_most", none) "check_most" "check_most" (top 6), ES.dD ("check_twos", none) "check_twos" "check_twos" (top 8), ES.dD ("choices", none) "choices" "choices" (top 9), ES.dD ("least_twos", none) "least_twos" "least_twos" (top 10), ES.dD ("twos_due", none) "twos_due" "twos_due" (top 11), ES.dD ("next_rows", none) "next_rows" "next_rows" (top 12), ES.dD ("build_twos", none) "build_twos" "build_twos" (top 13), ES.dD ("twos_threads", none) "twos_threads" "twos_threads" (top 14), ES.dD ("_law_purse", none) "_law_purse" "_law_purse" (top 16), ES.dD ("_law_draw", none) "_law_draw" "_law_draw" (top 17), ES.dD ("_law_are_threads", none) "_law_are_threads" "_law_are_threads" (top 18), ES.dD ("_law_pascal", none) "_law_pascal" "_law_pascal" (top 19), ES.dD ("_law_twos", none) "_law_twos" "_law_twos" (top 20), ES.dD ("_law_alone", none) "_law_alone" "_law_alone" (top 21), ES.dD ("_law_all_met", none) "_law_all_met" "_law_all_met" (top 22), ES.dD ("_law_one_number", none) "_law_one_number" "_law_one_number" (top 23), ES.dD ("law", none) "law" "law" (top 24)]
def loose : List PySem.Str := (["WrittenError", "TooMany", "BadMoves", "MANY", "check_most", "check_twos", "choices", "least_twos", "twos_due", "next_rows", "build_twos", "twos_threads", "_law_purse", "_law_draw", "_law_are_threads", "_law_pascal", "_law_twos", "_law_alone", "_law_all_met", "_law_one_number"] : List PySem.Str)
abbrev R : PySem.W.OpenRow := PySem.W.OpenLaw.row PySem.Challenge.rw_stillwritten_k16_arrays_of_twos
abbrev hk : PySem.W.Hook := ES.hookP 6 tests defs
def ob (s : PySem.W.SharedT) : He.AlD := ES.obsPG 6 tests defs (HandSHeadRun.getT s)
theorem ob_eq (s : PySem.W.SharedT) : ob s = hk.obs s.abs := ES.obsPG_eq (HandSHeadRun.getT_eq s)
theorem run (w : World) : HandSHeadRun.RunEq R (PySem.W.view R.prog [24]) hk ob 4000 loose w := by
  intro os
  kernel_rfl
end K16

set_option Elab.async false
set_option linter.all false
set_option maxRecDepth 100000
set_option maxHeartbeats 4000000
namespace K16
open PySem PySem.Spec PyProof.Rows L2 ES
local macro_rules | `(tactic| walk_at "ES_SZ") => `(tactic| first | decide | omega | (simp only [List.length_cons, List.length_nil, List.length_append, List.length_map, List.length_replicate, List.length_range]; omega) | (simp; omega))
local macro_rules | `(tactic| walk_at "Add") => `(tactic| first | exact ES.bd_int0 L2.op_add | (refine ES.b_cat ?_ .is; walk_at "ES_SZ") | (refine ES.b_catT ?_; walk_at "ES_SZ"))
local macro_rules | `(tactic| walk_at "Sub") => `(tactic| exact ES.bd_int0 L2.op_sub)
local macro_rules | `(tactic| walk_at "Mult") => `(tactic| first | (refine ES.bd_int (g := fun i j => i * j) L2.op_mul (Or.inl ?_); constructor <;> omega) | (refine ES.bd_int (g := fun i j => i * j) L2.op_mul (Or.inr ?_); constructor <;> omega))
local macro_rules | `(tactic| walk_at "FloorDiv") => `(tactic| (refine ES.bd_int (g := fun i j => i / j) L2.op_fdiv ?_; constructor <;> omega))
local macro_rules | `(tactic| walk_at "Mod") => `(tactic| (refine ES.bd_int (g := fun i j => i % j) L2.op_mod ?_; omega))
local macro_rules | `(tactic| walk_at "Pow") => `(tactic| (refine ES.bd_int (g := fun i j => i ^ j.toNat) L2.op_pow ⟨?_, ?_, ?_⟩ <;> decide))
local macro_rules | `(tactic| walk_at "Lt") => `(tactic| exact ES.c_lt)
local macro_rules | `(tactic| walk_at "LtE") => `(tactic| exact ES.c_le)
local macro_rules | `(tactic| walk_at "Gt") => `(tactic| exact ES.c_gt)
local macro_rules | `(tactic| walk_at "GtE") => `(tactic| exact ES.c_ge)
local macro_rules | `(tactic| walk_at "Eq") => `(tactic| first | exact ES.c_eq | exact ES.c_eqS)
local macro_rules | `(tactic| walk_at "NotEq") => `(tactic| first | exact ES.c_ne | exact ES.c_neS)

/-! ### the plain numbers -/
/-- found behind k turns -/
def ch (m : Int) : Nat → Int
  | 0 => 1
  | k + 1 => ch m k * (m - (k : Int)) / ((k : Int) + 1)
def lt2 (k : Nat) : Int := ch ((k : Int) - 1) (((k : Int) + 1) / 2).toNat
def due (n : Nat) : Nat := if n ≤ 1 then 2 else if n ≤ 3 then 4 else if n ≤ 4 then 5 else if n ≤ 10 then 6 else if n ≤ 15 then 7 else if n ≤ 35 then 8 else 9
theorem lt_due : ∀ k < 10, 2 ≤ k → ∀ n < 41, 1 ≤ n → k ≤ due n → decide (lt2 k < ((n : Nat) : Int)) = decide (k < due n) := by decide +kernel
theorem due_b (n : Nat) : 2 ≤ due n ∧ due n ≤ 9 := by unfold due; constructor <;> (repeat' split) <;> omega
def plc (rows : List Int) (last : Int) : Nat → Nat
  | 0 => 0
  | p + 1 => if rows.getD (p + 1) 0 = last - (rows.length : Int) + ((p + 1 : Nat) : Int) then plc rows last p else p + 1
def nextRows (rows : List Int) (last : Int) : List Int := rows.take (plc rows last (rows.length - 1)) ++ (List.range (rows.length - plc rows last (rows.length - 1))).map fun (k : Nat) => rows.getD (plc rows last (rows.length - 1)) 0 + 1 + (k : Int)

/-! ### what each def promises -/
abbrev TM (K : PySem.W.Frag) : Addr := He.ga K "TooMany"
abbrev BM (K : PySem.W.Frag) : Addr := He.ga K "BadMoves"
abbrev fWhat (y : Str) : List (Str × D) := [("what", D.str y)]
def S_cm (K : PySem.W.Frag) : AS := fun ds M Q E => ∃ (y : Str) (m t : Int), ds = [.str y, .int m, .int t] ∧ y.length ≤ 1000 ∧ M = [] ∧ (t < m → E (TM K) (fWhat y) []) ∧ (m ≤ t → Q .non [])
def S_ct (K : PySem.W.Frag) : AS := fun ds M Q E => ∃ m : Int, ds = [.int m] ∧ M = [] ∧ (40 < m → E (TM K) (fWhat "many") []) ∧ (m < 1 → E (BM K) (fWhat "many") []) ∧ (1 ≤ m → m ≤ 40 → Q .non [])
def R_ch (ds : List D) (d : D) : Prop := ∃ m s : Int, ds = [.int m, .int s] ∧ -1000 ≤ m ∧ m ≤ 1000 ∧ 0 ≤ s ∧ s ≤ 1000 ∧ d = .int (ch m s.toNat)
def R_lt (ds : List D) (d : D) : Prop := ∃ n : Nat, 1 ≤ n ∧ n ≤ 40 ∧ ds = [.int n] ∧ d = .int (due n)
def S_td (K : PySem.W.Frag) : AS := fun ds M Q E => ∃ m : Int, ds = [.int m] ∧ M = [] ∧ (40 < m → E (TM K) (fWhat "many") []) ∧ (m < 1 → E (BM K) (fWhat "many") []) ∧ (1 ≤ m → m ≤ 40 → Q (.int (due m.toNat)) [])
def R_nr (ds : List D) (d : D) : Prop := ∃ (rows : List Int) (last : Int), ds = [.lst (rows.map D.int), .int last] ∧ rows ≠ [] ∧ rows.length ≤ 100 ∧ d = .lst ((nextRows rows last).map D.int)
structure Tx (K : PySem.W.Frag) (mg : Str → Option Value) : Prop where
  range : mg "range" = none
  len : mg "len" = none
  abs : mg "abs" = none
  int : mg "int" = none
  bool : mg "bool" = none
  list : mg "list" = none
  sum : mg "sum" = none
  isi : mg "isinstance" = none
  many : ∃ t, mg "MANY" = some (.int 40 t)

section
variable {P : Program} {w : World} {K : PySem.W.Frag} {mg : Str → Option Value} {base : Heap} {f : Addr} {fd : FuncData}
theorem sc_cm : FnScope ["what", "many", "most"] ["what", "many", "most"] (defScope (top 6)) := ⟨rfl, rfl, rfl, by decide +kernel, rfl, by decide +kernel, by decide +kernel⟩
theorem ok_cm (T : XC P w K mg base 1 "TooMany" ["what"] (TM K)) (F : Fun K "check_most" "check_most" (top 6) f fd) (hb : Binds K fd ["what", "many", "most"] []) : FnA P w K mg base 3 f 3 (S_cm K) := by
  refine fna_mk F sc_cm hb (by decide) fun cdv A outer s H E hr ds M Qa Ea hl hS => ?_
  obtain ⟨y, m, t, rfl, hy, rfl, qx, qn⟩ := hS
  have nd := sc_cm.nd
  refine sv_ifd (t_cmp (e_v 1 rfl) (e_v 2 rfl) (by walk_at "Gt")) (fun hc => ?_) (fun hc => ?_)
  · exact sv_raise T rfl hr (a_cons (e_v 0 rfl) a_nil) rfl (by simp) (by simp [okD, hy]) (qx (of_decide_eq_true hc))
  · exact sv_nil (sv_nil (qn (by simpa using hc)))
theorem sc_ct : FnScope ["many"] ["many"] (defScope (top 8)) := ⟨rfl, rfl, rfl, by decide +kernel, rfl, by decide +kernel, by decide +kernel⟩
theorem ok_ct (tx : Tx K mg) (T : XC P w K mg base 1 "BadMoves" ["what"] (BM K)) (C : Fn P w K mg base 3 "check_most" 3 (S_cm K)) (F : Fun K "check_twos" "check_twos" (top 8) f fd) (hb : Binds K fd ["many"] []) : FnA P w K mg base 4 f 1 (S_ct K) := by
  refine fna_mk F sc_ct hb (by decide) fun cdv A outer s H E hr ds M Qa Ea hl hS => ?_
  obtain ⟨m, rfl, rfl, qx, qy, qn⟩ := hS
  obtain ⟨t, hM⟩ := tx.many
  refine sv_exprX (evx_call C hr ((a_cons e_str (a_cons (e_v 0 rfl) (a_cons (e_gint hM) a_nil))).to ⟨rfl, [], [], .refl _, _, _, _, rfl, by decide, rfl, fun h => ⟨[], .refl _, qx h⟩, fun h => ⟨[], .refl _, ?_⟩⟩))
  refine sv_ifd (t_cmp (e_v 0 rfl) e_int (by walk_at "Lt")) (fun hc => ?_) (fun hc => ?_)
  · exact sv_raise T rfl (hr.mono (by decide)) (a_cons e_str a_nil) rfl (by decide) (by decide) (qy (of_decide_eq_true hc))
  · exact sv_nil (sv_nil (qn (by simpa using hc) h))
theorem sc_ch : FnScope ["many", "size", "found", "k"] ["many", "size"] (defScope (top 9)) := ⟨rfl, rfl, rfl, by decide +kernel, rfl, by decide +kernel, by decide +kernel⟩
theorem ok_ch (T : Tx K mg) (F : Fun K "choices" "choices" (top 9) f fd) (hb : Binds K fd ["many", "size"] []) : FnA P w K mg base 1 f 2 (Pu R_ch) := by
  refine fna_mk F sc_ch hb (by decide) fun cdv A outer s H E hr ds M Qa Ea hl hS => ?_
  obtain ⟨d, ⟨m, z, rfl, h1, h2, h3, h4, rfl⟩, rfl, q⟩ := hS
  have nd := sc_ch.nd
  refine sv_set 2 nd (e_int.to ?_)
  refine sv_for (fun i G' M' => G' = [some (.int m), some (.int z), some (.int (ch m i)), none] ∧ M' = []) (passes_of rfl) rfl (it_rng1 T.range (e_v 1 rfl) (by omega) (by omega)) ⟨rfl, rfl⟩ (fun i d G' M' hi inv => ?_) (fun G' M' inv => ?_)
  · obtain ⟨rfl, rfl⟩ := inv
    obtain ⟨hi, rfl⟩ := rng_at hi
    refine av_name 3 nd ?_
    refine sv_set 2 nd ((e_bin (e_bin (e_v 2 rfl) (e_bin (e_v 0 rfl) (e_v 3 rfl) (by walk_at "Sub")) (by walk_at "Mult")) (e_bin (e_v 3 rfl) e_int (by walk_at "Add")) (by walk_at "FloorDiv")).to ?_)
    refine sv_nil ⟨_, Le.cons (.inr rfl) (.cons (.inr rfl) (.cons (.inr rfl) (.cons (.inl rfl) .nil))), ?_, rfl⟩
    simp [ch]
  · obtain ⟨rfl, rfl⟩ := inv
    rw [rng_len]
    exact sv_ret ((e_v 2 rfl).to q)
theorem sc_lt : FnScope ["many", "number"] ["many"] (defScope (top 10)) := ⟨rfl, rfl, rfl, by decide +kernel, rfl, by decide +kernel, by decide +kernel⟩
theorem ok_lt (C : Fn P w K mg base 1 "choices" 2 (Pu R_ch)) (F : Fun K "least_twos" "least_twos" (top 10) f fd) (hb : Binds K fd ["many"] []) : FnA P w K mg base 2 f 1 (Pu R_lt) := by
  refine fna_mk F sc_lt hb (by decide) fun cdv A outer s H E hr ds M Qa Ea hl hS => ?_
  obtain ⟨d, ⟨n, h1, h2, rfl, rfl⟩, rfl, q⟩ := hS
  have nd := sc_lt.nd
  have db := due_b n
  refine sv_set 1 nd (e_int.to ?_)
  refine sv_while (fun m G' M' => ∃ k : Nat, 2 ≤ k ∧ k ≤ due n ∧ m = due n - k ∧ G' = [some (.int n), some (.int k)] ∧ M' = []) (passes_of rfl) ⟨_, 2, by omega, db.1, rfl, rfl, rfl⟩ fun m G' M' inv => ?_
  obtain ⟨k, hk1, hk2, rfl, rfl, rfl⟩ := inv
  refine (t_cmp (e_callP C hr (a_cons (e_bin (e_v 1 rfl) e_int (by walk_at "Sub")) (a_cons (e_bin (e_bin (e_v 1 rfl) e_int (by walk_at "Add")) e_int (by walk_at "FloorDiv")) a_nil)) ⟨_, _, rfl, by omega, by omega, by omega, by omega, rfl⟩) (e_v 0 rfl) (by walk_at "Lt")).to ?_
  have e : decide (ch ((k : Int) - 1) (((k : Int) + 1) / 2).toNat < (n : Int)) = decide (k < due n) := lt_due k (by omega) hk1 n (by omega) h1 hk2
  rw [e]
  refine ite2 (fun hc => ?_) (fun hc => ?_)
  · have hc := of_decide_eq_true hc
    refine sv_augI 1 ip_add nd rfl e_int (sv_nil ⟨_, due n - (k + 1), Le.refl _, by omega, k + 1, by omega, by omega, rfl, ?_, rfl⟩)
    simp
  · have hc : ¬ k < due n := by simpa using hc
    have : k = due n := by omega
    subst this
    exact sv_ret ((e_v 1 rfl).to q)
theorem sc_td : FnScope ["many"] ["many"] (defScope (top 11)) := ⟨rfl, rfl, rfl, by decide +kernel, rfl, by decide +kernel, by decide +kernel⟩
theorem ok_td (C : Fn P w K mg base 4 "check_twos" 1 (S_ct K)) (C2 : Fn P w K mg base 2 "least_twos" 1 (Pu R_lt)) (F : Fun K "twos_due" "twos_due" (top 11) f fd) (hb : Binds K fd ["many"] []) : FnA P w K mg base 5 f 1 (S_td K) := by
  refine fna_mk F sc_td hb (by decide) fun cdv A outer s H E hr ds M Qa Ea hl hS => ?_
  obtain ⟨m, rfl, rfl, qx, qy, qn⟩ := hS
  refine sv_exprX (evx_call C hr ((a_cons (e_v 0 rfl) a_nil).to ⟨rfl, [], [], .refl _, _, rfl, rfl, fun h => ⟨[], .refl _, qx h⟩, fun h => ⟨[], .refl _, qy h⟩, fun h1 h2 => ⟨[], .refl _, ?_⟩⟩))
  have e : ((m.toNat : Nat) : Int) = m := Int.toNat_of_nonneg (by omega)
  exact sv_ret ((e_callP C2 (hr.mono (by decide)) (a_cons (e_v 0 rfl) a_nil) ⟨m.toNat, by omega, by omega, by rw [e], rfl⟩).to (qn h1 h2))
end
end K16

set_option Elab.async false
set_option linter.all false
set_option maxRecDepth 100000
set_option maxHeartbeats 4000000
namespace K16
open PySem PySem.Spec PyProof.Rows L2 ES
local macro_rules | `(tactic| walk_at "ES_SZ") => `(tactic| first | decide | omega | (simp only [List.length_cons, List.length_nil, List.length_append, List.length_map, List.length_replicate, List.length_range]; omega) | (simp; omega))
local macro_rules | `(tactic| walk_at "Add") => `(tactic| first | exact ES.bd_int0 L2.op_add | (refine ES.b_cat ?_ .is; walk_at "ES_SZ") | (refine ES.b_catT ?_; walk_at "ES_SZ"))
local macro_rules | `(tactic| walk_at "Sub") => `(tactic| exact ES.bd_int0 L2.op_sub)
local macro_rules | `(tactic| walk_at "Mult") => `(tactic| first | (refine ES.bd_int (g := fun i j => i * j) L2.op_mul (Or.inl ?_); constructor <;> omega) | (refine ES.bd_int (g := fun i j => i * j) L2.op_mul (Or.inr ?_); constructor <;> omega))
local macro_rules | `(tactic| walk_at "FloorDiv") => `(tactic| (refine ES.bd_int (g := fun i j => i / j) L2.op_fdiv ?_; constructor <;> omega))
local macro_rules | `(tactic| walk_at "Mod") => `(tactic| (refine ES.bd_int (g := fun i j => i % j) L2.op_mod ?_; omega))
local macro_rules | `(tactic| walk_at "Pow") => `(tactic| (refine ES.bd_int (g := fun i j => i ^ j.toNat) L2.op_pow ⟨?_, ?_, ?_⟩ <;> decide))
local macro_rules | `(tactic| walk_at "Lt") => `(tactic| exact ES.c_lt)
local macro_rules | `(tactic| walk_at "LtE") => `(tactic| exact ES.c_le)
local macro_rules | `(tactic| walk_at "Gt") => `(tactic| exact ES.c_gt)
local macro_rules | `(tactic| walk_at "GtE") => `(tactic| exact ES.c_ge)
local macro_rules | `(tactic| walk_at "Eq") => `(tactic| first | exact ES.c_eq | exact ES.c_eqS)
local macro_rules | `(tactic| walk_at "NotEq") => `(tactic| first | exact ES.c_ne | exact ES.c_neS)
section
variable {P : Program} {w : World} {K : PySem.W.Frag} {mg : Str → Option Value} {base : Heap} {f : Addr} {fd : FuncData}
theorem sc_nr : FnScope ["rows", "last", "size", "place", "start", "k"] ["rows", "last"] (defScope (top 12)) := ⟨rfl, rfl, rfl, by decide +kernel, rfl, by decide +kernel, by decide +kernel⟩
theorem cut_pre (ds : List D) (p : Nat) (h : p ≤ ds.length) : cut ds none (some (p : Int)) = ds.take p := by
  unfold cut
  rw [HT.sIx_none, HT.sIx_nat, Nat.min_eq_left h]
  simp
theorem plc_le (rows : List Int) (last : Int) : ∀ p, plc rows last p ≤ p
  | 0 => Nat.le_refl _
  | p + 1 => by unfold plc; split; exact Nat.le_succ_of_le (plc_le rows last p); exact Nat.le_refl _
theorem get_ints {rows : List Int} {p : Nat} (h : p < rows.length) : (rows.map D.int)[p]? = some (.int (rows.getD p 0)) := by simp [h]
theorem ok_nr (T : Tx K mg) (F : Fun K "next_rows" "next_rows" (top 12) f fd) (hb : Binds K fd ["rows", "last"] []) : FnA P w K mg base 1 f 2 (Pu R_nr) := by
  refine fna_mk F sc_nr hb (by decide) fun cdv A outer s H E hr ds M Qa Ea hl hS => ?_
  obtain ⟨d, ⟨rows, last, rfl, hne, hlen, rfl⟩, rfl, q⟩ := hS
  have nd := sc_nr.nd
  have hpos : 0 < rows.length := List.length_pos_iff.mpr hne
  refine sv_set 2 nd ((e_len T.len (e_v 0 rfl)).to ?_)
  refine sv_set 3 nd ((e_bin (e_v 2 rfl) e_int (by walk_at "Sub")).to ?_)
  refine sv_while (fun m G' M' => m < rows.length ∧ plc rows last m = plc rows last (rows.length - 1) ∧ G' = [some (.lst (rows.map D.int)), some (.int last), some (.int (rows.length : Int)), some (.int (m : Int)), none, none] ∧ M' = []) (passes_of rfl) ⟨rows.length - 1, by omega, rfl, ?_, rfl⟩ fun m G' M' inv => ?_
  · have e : ((rows.length - 1 : Nat) : Int) = ((rows.map D.int).length : Int) - 1 := by rw [List.length_map]; omega
    rw [e, List.length_map]
    rfl
  obtain ⟨hm, hpl, rfl, rfl⟩ := inv
  refine (t_w (w_and' (t_cmp (e_v 3 rfl) e_int (by walk_at "Gt")) fun h => (w_one (t_cmp (e_ix (e_v 0 rfl) (e_v 3 rfl) (i_lst (at_nat rfl (get_ints hm)))) (e_bin (e_bin (e_v 1 rfl) (e_v 2 rfl) (by walk_at "Sub")) (e_v 3 rfl) (by walk_at "Add")) (by walk_at "Eq"))))).to ?_
  refine ite2 (fun hc => ?_) (fun hc => ?_)
  · obtain ⟨c1, c2⟩ := Bool.and_eq_true_iff.mp hc
    have c1 := of_decide_eq_true c1
    have c2 := of_decide_eq_true c2
    obtain ⟨k, rfl⟩ : ∃ k, m = k + 1 := ⟨m - 1, by omega⟩
    refine sv_augI 3 ip_sub nd rfl e_int (sv_nil ⟨_, k, Le.refl _, by omega, by omega, ?_, ?_, rfl⟩)
    · rw [← hpl]
      show _ = (if rows.getD (k + 1) 0 = last - (rows.length : Int) + ((k + 1 : Nat) : Int) then plc rows last k else k + 1)
      rw [if_pos c2]
    · simp
  · have hp : plc rows last (rows.length - 1) = m := by
      rw [← hpl]
      cases m with
      | zero => rfl
      | succ k =>
        show (if rows.getD (k + 1) 0 = last - (rows.length : Int) + ((k + 1 : Nat) : Int) then plc rows last k else k + 1) = k + 1
        rw [if_neg]
        intro z
        rw [decide_eq_true (by omega : (0 : Int) < ((k + 1 : Nat) : Int)), Bool.true_and, decide_eq_true z] at hc
        exact hc rfl
    refine sv_set 4 nd ((e_bin (e_ix (e_v 0 rfl) (e_v 3 rfl) (i_lst (at_nat rfl (get_ints hm)))) e_int (by walk_at "Add")).to ?_)
    refine sv_ret (EVd.to (e_bin (e_slL (e_v 0 rfl) o_no (o_at (e_v 3 rfl))) (ev_lc rfl nd (blk_ok (by kernel_rfl)) (own := [("k", 5)]) (fun s H C cl fp => pg_name nd rfl (Or.inl rfl) (.inr rfl))
      (lcw_pure (List.range (rows.length - m)) (fun (k : Nat) => D.int (k : Int)) (fun _ => true) (fun (k : Nat) => D.int (rows.getD m 0 + 1 + (k : Int))) (fun k => _) (it_rngN (rows.length - m) T.range (e_bin (e_v 2 rfl) (e_v 3 rfl) (by walk_at "Sub")) (by omega) (by omega)) (by simp; omega)
        (fun v hv => tg_name) (fun v hv => etb_nil ⟨rfl, rfl⟩) (fun v hv _ => fun s H C cl fp => e_bin (e_v 4 rfl) (e_v 5 rfl) (by walk_at "Add")) .is)) (b_cat ?_ .is)) ?_)
    · rw [cut_pre _ _ (by simp; omega), fil_tt]; simp; omega
    · rw [cut_pre _ _ (by simp; omega), fil_tt]
      have e : nextRows rows last = rows.take m ++ (List.range (rows.length - m)).map fun (k : Nat) => rows.getD m 0 + 1 + (k : Int) := by unfold nextRows; rw [hp]
      rw [e, List.map_append, List.map_take, List.map_map] at q
      exact q
end
end K16

set_option Elab.async false
set_option linter.all false
set_option maxRecDepth 100000
set_option maxHeartbeats 4000000
namespace K16
open PySem PySem.Spec PyProof.Rows L2 ES
local macro_rules | `(tactic| walk_at "ES_SZ") => `(tactic| first | decide | omega | (simp only [List.length_cons, List.length_nil, List.length_append, List.length_map, List.length_replicate, List.length_range]; omega) | (simp; omega))
local macro_rules | `(tactic| walk_at "Add") => `(tactic| first | exact ES.bd_int0 L2.op_add | (refine ES.b_cat ?_ .is; walk_at "ES_SZ") | (refine ES.b_catT ?_; walk_at "ES_SZ"))
local macro_rules | `(tactic| walk_at "Sub") => `(tactic| exact ES.bd_int0 L2.op_sub)
local macro_rules | `(tactic| walk_at "Mult") => `(tactic| first | (refine ES.bd_int (g := fun i j => i * j) L2.op_mul (Or.inl ?_); constructor <;> omega) | (refine ES.bd_int (g := fun i j => i * j) L2.op_mul (Or.inr ?_); constructor <;> omega))
local macro_rules | `(tactic| walk_at "FloorDiv") => `(tactic| (refine ES.bd_int (g := fun i j => i / j) L2.op_fdiv ?_; constructor <;> omega))
local macro_rules | `(tactic| walk_at "Mod") => `(tactic| (refine ES.bd_int (g := fun i j => i % j) L2.op_mod ?_; omega))
local macro_rules | `(tactic| walk_at "Pow") => `(tactic| (refine ES.bd_int (g := fun i j => i ^ j.toNat) L2.op_pow ⟨?_, ?_, ?_⟩ <;> decide))
local macro_rules | `(tactic| walk_at "Lt") => `(tactic| exact ES.c_lt)
local macro_rules | `(tactic| walk_at "LtE") => `(tactic| exact ES.c_le)
local macro_rules | `(tactic| walk_at "Gt") => `(tactic| exact ES.c_gt)
local macro_rules | `(tactic| walk_at "GtE") => `(tactic| exact ES.c_ge)
local macro_rules | `(tactic| walk_at "Eq") => `(tactic| first | exact ES.c_eq | exact ES.c_eqS)
local macro_rules | `(tactic| walk_at "NotEq") => `(tactic| first | exact ES.c_ne | exact ES.c_neS)
/-! ### the array -/
def bRows (n : Nat) : Nat → List Int
  | 0 => (List.range ((due n + 1) / 2)).map fun (k : Nat) => (k : Int)
  | i + 1 => nextRows (bRows n i) ((due n : Int) - 1)
def up (y : Nat) (T : List (List Int)) (r : Int) : List (List Int) := T.set r.toNat ((T.getD r.toNat []).set y 1)
def bT (n : Nat) : Nat → List (List Int)
  | 0 => List.replicate (due n) (List.replicate n 0)
  | i + 1 => (bRows n i).foldl (up i) (bT n i)
theorem rows_ok : ∀ n < 41, 1 ≤ n → ∀ i < n, (bRows n i).length ≤ 100 ∧ bRows n i ≠ [] ∧ ∀ r ∈ bRows n i, 0 ≤ r ∧ r < (due n : Int) := by decide +kernel
abbrev rowC (r : List Int) : Cell := .lst (r.map D.int)
def cells (T : List (List Int)) (qs : List Addr) : Mem := qs.zip (T.map rowC)
def tabM (T : List (List Int)) (qs : List Addr) (q0 : Addr) : Mem := cells T qs ++ [(q0, .lst (qs.map D.ref))]
structure Shape (n : Nat) (T : List (List Int)) : Prop where
  len : T.length = due n
  rows : ∀ r ∈ T, r.length = n
theorem shape0 (n : Nat) : Shape n (bT n 0) := ⟨by simp [bT], fun r hr => by simp [bT] at hr; rw [hr.2]; simp⟩
theorem Shape.up {n y : Nat} {T : List (List Int)} {r : Int} (h : Shape n T) (h0 : 0 ≤ r) (h1 : r < (due n : Int)) : Shape n (up y T r) := by
  refine ⟨by simp [K16.up, h.len], fun s hs => ?_⟩
  unfold K16.up at hs
  rcases List.mem_or_eq_of_mem_set hs with e | e
  · exact h.rows s e
  · rw [e, List.length_set]
    have hl : r.toNat < T.length := by rw [h.len]; omega
    have : T.getD r.toNat [] = T[r.toNat] := by simp [hl]
    rw [this]
    exact h.rows _ (List.getElem_mem _)
theorem cells_at {n : Nat} {T : List (List Int)} {qs : List Addr} {j : Nat} (h : Shape n T) (hq : qs.length = due n) (hj : j < due n) : ∃ q, qs[j]? = some q ∧ (cells T qs)[j]? = some (q, rowC (T.getD j [])) := by
  have h1 : j < qs.length := by omega
  have h2 : j < T.length := by rw [h.len]; exact hj
  refine ⟨qs[j], by simp [h1], ?_⟩
  unfold cells
  rw [List.getElem?_eq_getElem (by simp; omega)]
  simp [h1, h2]
theorem cells_up {n y : Nat} {T : List (List Int)} {qs : List Addr} {j : Nat} {q : Addr} (h : Shape n T) (hq : qs.length = due n) (hj : j < due n) (e : qs[j]? = some q) :
    (cells T qs).set j (q, rowC ((T.getD j []).set y 1)) = cells (K16.up y T (j : Int)) qs := by
  unfold cells K16.up
  rw [Int.toNat_natCast]
  apply List.ext_getElem?
  intro i
  rw [List.getElem?_set]
  by_cases hi : j = i
  · subst hi
    have h1 : j < qs.length := by omega
    have h2 : j < T.length := by rw [h.len]; exact hj
    have : qs[j] = q := by rw [List.getElem?_eq_getElem h1] at e; exact Option.some.inj e
    rw [if_pos rfl, if_pos (by simp; omega), List.getElem?_eq_getElem (by simp; omega)]
    simp [h2, this]
  · rw [if_neg hi]
    simp [List.getElem?_zip_eq_some, List.zip, List.getElem?_zipWith, List.getElem?_set_ne hi]
theorem ints_set (r : List Int) (y : Nat) : (r.map D.int).set y (.int 1) = (r.set y 1).map D.int := by rw [List.map_set]
def S_bt : AS := fun ds M Q _ => ∃ n : Nat, 1 ≤ n ∧ n ≤ 40 ∧ ds = [.int n] ∧ M = [] ∧ ∀ q0 qs, qs.length = due n → Q (.ref q0) (tabM (bT n n) qs q0)
def S_tt (K : PySem.W.Frag) : AS := fun ds M Q E => ∃ m : Int, ds = [.int m] ∧ M = [] ∧ (40 < m → E (TM K) (fWhat "many") []) ∧ (m < 1 → E (BM K) (fWhat "many") []) ∧ (1 ≤ m → m ≤ 40 → ∀ q0 qs, qs.length = due m.toNat → Q (.ref q0) (tabM (bT m.toNat m.toNat) qs q0))
section
variable {P : Program} {w : World} {K : PySem.W.Frag} {mg : Str → Option Value} {base : Heap} {f : Addr} {fd : FuncData}
theorem sc_bt : FnScope ["many", "number", "rows", "threads", "y", "row"] ["many"] (defScope (top 13)) := ⟨rfl, rfl, rfl, by decide +kernel, rfl, by decide +kernel, by decide +kernel⟩
theorem ok_bt (T : Tx K mg) (C2 : Fn P w K mg base 2 "least_twos" 1 (Pu R_lt)) (C3 : Fn P w K mg base 1 "next_rows" 2 (Pu R_nr)) (F : Fun K "build_twos" "build_twos" (top 13) f fd) (hb : Binds K fd ["many"] []) : FnA P w K mg base 3 f 1 S_bt := by
  refine fna_mk F sc_bt hb (by decide) fun cdv A outer s H E hr ds M Qa Ea hl hS => ?_
  obtain ⟨n, h1, h2, rfl, rfl, q⟩ := hS
  have nd := sc_bt.nd
  have db := due_b n
  refine sv_set 1 nd ((e_callP C2 hr (a_cons (e_v 0 rfl) a_nil) ⟨n, h1, h2, rfl, rfl⟩).to ?_)
  refine sv_setd 2 (.lst ((bRows n 0).map D.int)) nd (e_listRng rfl T.list T.range (e_bin (e_bin (e_v 1 rfl) e_int (by walk_at "Add")) e_int (by walk_at "FloorDiv")) (by omega)) ?_ ?_
  · have e : (((due n : Nat) : Int) + 1) / 2 = (((due n + 1) / 2 : Nat) : Int) := by omega
    rw [e, Int.toNat_natCast, rng0]
    rfl
  refine sv_setLc 3 rfl nd (blk_ok (by kernel_rfl)) (own := [("row", 5)]) (g := gName 5) (fun s H C cl fp => pg_name nd rfl (Or.inl rfl) (.inr rfl)) rfl
    (I := fun i acc M' => ∃ qs : List Addr, qs.length = i ∧ acc = qs.map D.ref ∧ M' = cells (List.replicate i (List.replicate n 0)) qs)
    { it := it_rngN (due n) T.range (e_v 1 rfl) rfl (by omega), hk := fun _ _ _ _ c hc => absurd hc (by simp), few := by simp; omega, h0 := ⟨[], rfl, rfl, rfl⟩, hs := ?_, hd := ?_ }
  · rintro i d acc M' hi ⟨qs, hq, rfl, rfl⟩
    obtain ⟨hi, rfl⟩ := nats_at hi
    refine ⟨_, tg_name, etb_nil (iteT fun s H C cl fp => ?_)⟩
    refine ev_lc rfl nd (blk_ok (by kernel_rfl)) (own := [("y", 4)]) (g := gName 4) (fun s H C cl fp => pg_name nd rfl (Or.inl rfl) (.inr rfl))
      (lcw_pure (List.range n) (fun (k : Nat) => D.int (k : Int)) (fun _ => true) (fun (k : Nat) => D.int 0) (fun k => _) (it_rngN n T.range (e_v 0 rfl) rfl (by omega)) (by simp; omega)
        (fun v hv => tg_name) (fun v hv => etb_nil ⟨rfl, rfl⟩) (fun v hv _ => fun s H C cl fp => e_int) (.inr fun q2 => ⟨qs ++ [q2], by simp [hq], by simp, ?_⟩))
    rw [fil_tt]
    unfold cells
    rw [List.replicate_succ', List.map_append, List.zip_append (by simp [hq])]
    have e : ((List.range n).map fun (_ : Nat) => D.int 0) = (List.replicate n (0 : Int)).map D.int := by
      apply List.ext_getElem? ; intro k; simp [List.getElem?_replicate]; by_cases hk : k < n <;> simp [hk]
    rw [e]
    rfl
  · rintro acc M' _ ⟨qs, hq, rfl, rfl⟩
    rw [nats_len] at hq
    refine .inr fun q0 => ?_
    -- the loop
    have e0 : cells (List.replicate (nats (due n)).length (List.replicate n 0)) qs ++ [(q0, Cell.lst (qs.map D.ref))] = tabM (bT n 0) qs q0 := by rw [nats_len]; rfl
    rw [e0]
    refine sv_for (fun i G' M' => Shape n (bT n i) ∧ G' = [some (.int n), some (.int (due n)), some (.lst ((bRows n i).map D.int)), some (.ref q0), none, none] ∧ M' = tabM (bT n i) qs q0) (passes_of rfl) rfl (it_rngN n T.range (e_v 0 rfl) rfl (by omega)) ⟨shape0 n, rfl, rfl⟩ (fun i d G' M' hi inv => ?_) (fun G' M' inv => ?_)
    · obtain ⟨sh, rfl, rfl⟩ := inv
      obtain ⟨hin, rfl⟩ := nats_at hi
      obtain ⟨r1, r2, r3⟩ := rows_ok n (by omega) h1 i hin
      refine av_name 4 nd ?_
      refine sv_for (fun j G' M' => Shape n (((bRows n i).take j).foldl (up i) (bT n i)) ∧ G' = [some (.int n), some (.int (due n)), some (.lst ((bRows n i).map D.int)), some (.ref q0), some (.int i), none] ∧ M' = tabM (((bRows n i).take j).foldl (up i) (bT n i)) qs q0) (passes_of rfl) rfl (it_list (e_v 2 rfl)) ⟨sh, rfl, rfl⟩ (fun j d G' M' hj inv => ?_) (fun G' M' inv => ?_)
      · obtain ⟨sh2, rfl, rfl⟩ := inv
        rw [List.getElem?_map] at hj
        cases hr0 : (bRows n i)[j]? with
        | none => rw [hr0] at hj; cases hj
        | some r =>
          rw [hr0] at hj
          have hj : D.int r = d := Option.some.inj hj
          subst hj
          have hmem : r ∈ bRows n i := List.mem_of_getElem? hr0
          obtain ⟨g0, g1⟩ := r3 r hmem
          obtain ⟨k, rfl⟩ : ∃ k : Nat, r = (k : Int) := ⟨r.toNat, by omega⟩
          have hk : k < due n := by omega
          obtain ⟨qk, hq1, hq2⟩ := cells_at sh2 hq hk
          have hlen : k < (cells (((bRows n i).take j).foldl (up i) (bT n i)) qs).length := (List.getElem?_eq_some_iff.mp hq2).1
          have hrow : (((bRows n i).take j).foldl (up i) (bT n i)).getD k [] ∈ ((bRows n i).take j).foldl (up i) (bT n i) := by
            have : k < (((bRows n i).take j).foldl (up i) (bT n i)).length := by rw [sh2.len]; exact hk
            rw [List.getD_eq_getElem?_getD, List.getElem?_eq_getElem this]; exact List.getElem_mem _
          refine av_name 5 nd ?_
          refine sv_setItem k e_int (e_ix (e_v 3 rfl) (e_v 5 rfl) (i_cell (cells (((bRows n i).take j).foldl (up i) (bT n i)) qs).length (by unfold tabM; simp) (at_nat rfl (by simp [hq1] : (qs.map D.ref)[k]? = some (D.ref qk))))) (e_v 4 rfl) (by unfold tabM; rw [List.getElem?_append_left hlen]; exact hq2) (by rw [List.length_map, sh2.rows _ hrow]; exact hin) ?_
          rw [ints_set]
          unfold tabM
          rw [List.set_append_left _ _ hlen, cells_up sh2 hq hk hq1]
          have tk : (bRows n i).take (j + 1) = (bRows n i).take j ++ [(k : Int)] := by rw [List.take_add_one, hr0]; rfl
          refine sv_nil ⟨_, Le.cons (.inr rfl) (.cons (.inr rfl) (.cons (.inr rfl) (.cons (.inr rfl) (.cons (.inr rfl) (.cons (.inl rfl) .nil))))), ?_, rfl, ?_⟩
          · rw [tk, List.foldl_append]; exact sh2.up (by omega) (by omega)
          · rw [tk, List.foldl_append]; rfl
      · obtain ⟨sh2, rfl, rfl⟩ := inv
        rw [List.length_map, List.take_length] at sh2 ⊢
        refine sv_set 2 nd ((e_callP C3 (hr.mono (by decide)) (a_cons (e_v 2 rfl) (a_cons (e_bin (e_v 1 rfl) e_int (by walk_at "Sub")) a_nil)) ⟨bRows n i, (due n : Int) - 1, rfl, r2, r1, rfl⟩).to ?_)
        exact sv_nil ⟨_, Le.cons (.inr rfl) (.cons (.inr rfl) (.cons (.inr rfl) (.cons (.inr rfl) (.cons (.inl rfl) (.cons (.inr rfl) .nil))))), sh2, rfl, rfl⟩
    · obtain ⟨sh, rfl, rfl⟩ := inv
      rw [nats_len]
      exact sv_ret ((e_v 3 rfl).to (q q0 qs hq))
theorem sc_tt : FnScope ["many"] ["many"] (defScope (top 14)) := ⟨rfl, rfl, rfl, by decide +kernel, rfl, by decide +kernel, by decide +kernel⟩
theorem ok_tt (C : Fn P w K mg base 4 "check_twos" 1 (S_ct K)) (C2 : Fn P w K mg base 3 "build_twos" 1 S_bt) (F : Fun K "twos_threads" "twos_threads" (top 14) f fd) (hb : Binds K fd ["many"] []) : FnA P w K mg base 5 f 1 (S_tt K) := by
  refine fna_mk F sc_tt hb (by decide) fun cdv A outer s H E hr ds M Qa Ea hl hS => ?_
  obtain ⟨m, rfl, rfl, qx, qy, qn⟩ := hS
  refine sv_exprX (evx_call C hr ((a_cons (e_v 0 rfl) a_nil).to ⟨rfl, [], [], .refl _, _, rfl, rfl, fun h => ⟨[], .refl _, qx h⟩, fun h => ⟨[], .refl _, qy h⟩, fun h1 h2 => ⟨[], .refl _, ?_⟩⟩))
  have e : ((m.toNat : Nat) : Int) = m := Int.toNat_of_nonneg (by omega)
  exact sv_ret (ev_call C2 (hr.mono (by decide)) ((a_cons (e_v 0 rfl) a_nil).to ⟨rfl, [], [], .refl _, m.toNat, by omega, by omega, by rw [e], rfl, fun q0 qs hq => ⟨_, by rw [List.append_nil], qn h1 h2 q0 qs hq⟩⟩))
end
end K16

set_option Elab.async false
set_option linter.all false
set_option maxRecDepth 100000
set_option maxHeartbeats 4000000
namespace K16
open PySem PySem.Spec PyProof.Rows L2 ES
local macro_rules | `(tactic| walk_at "ES_SZ") => `(tactic| first | decide | omega | (simp only [List.length_cons, List.length_nil, List.length_append, List.length_map, List.length_replicate, List.length_range]; omega) | (simp; omega))
local macro_rules | `(tactic| walk_at "Add") => `(tactic| first | exact ES.bd_int0 L2.op_add | (refine ES.b_cat ?_ .is; walk_at "ES_SZ") | (refine ES.b_catT ?_; walk_at "ES_SZ"))
local macro_rules | `(tactic| walk_at "Sub") => `(tactic| exact ES.bd_int0 L2.op_sub)
local macro_rules | `(tactic| walk_at "Mult") => `(tactic| first | (refine ES.bd_int (g := fun i j => i * j) L2.op_mul (Or.inl ?_); constructor <;> omega) | (refine ES.bd_int (g := fun i j => i * j) L2.op_mul (Or.inr ?_); constructor <;> omega))
local macro_rules | `(tactic| walk_at "FloorDiv") => `(tactic| (refine ES.bd_int (g := fun i j => i / j) L2.op_fdiv ?_; constructor <;> omega))
local macro_rules | `(tactic| walk_at "Mod") => `(tactic| (refine ES.bd_int (g := fun i j => i % j) L2.op_mod ?_; omega))
local macro_rules | `(tactic| walk_at "Pow") => `(tactic| (refine ES.bd_int (g := fun i j => i ^ j.toNat) L2.op_pow ⟨?_, ?_, ?_⟩ <;> decide))
local macro_rules | `(tactic| walk_at "Lt") => `(tactic| exact ES.c_lt)
local macro_rules | `(tactic| walk_at "LtE") => `(tactic| exact ES.c_le)
local macro_rules | `(tactic| walk_at "Gt") => `(tactic| exact ES.c_gt)
local macro_rules | `(tactic| walk_at "GtE") => `(tactic| exact ES.c_ge)
local macro_rules | `(tactic| walk_at "Eq") => `(tactic| first | exact ES.c_eq | exact ES.c_eqS)
local macro_rules | `(tactic| walk_at "NotEq") => `(tactic| first | exact ES.c_ne | exact ES.c_neS)

def pasc : Nat → List Int
  | 0 => [1]
  | i + 1 => [1] ++ (List.range ((pasc i).length - 1)).map (fun (k : Nat) => (pasc i).getD k 0 + (pasc i).getD (k + 1) 0) ++ [1]
theorem pasc_len : ∀ i, (pasc i).length = i + 1
  | 0 => rfl
  | i + 1 => by simp [pasc, pasc_len i]
theorem twos_ok : ∀ n < 41, 1 ≤ n → ∀ i < 10, i + 2 ≤ due n → decide ((n : Int) ≤ (pasc (i + 1)).getD ((i + 3) / 2) 0) = decide (due n ≤ i + 2) := by decide +kernel
def cellV (ns : List Int) (a : Int) : Int := if a < (ns.length : Int) then ns.getD a.toNat 0 else 31 * (ns.take 4).sum
def R_at (ds : List D) (d : D) : Prop := ∃ (T : List (List Int)) (n : Nat), ds = [.lst (T.map fun r => .lst (r.map D.int)), .lst (List.replicate n (.int 2))] ∧ T.length ≤ 1000 ∧ n ≤ 1000 ∧ (∀ r ∈ T, r.length = n ∧ ∀ x ∈ r, 0 ≤ x ∧ x < 2) ∧ d = .bl true
def R_pa (ds : List D) (d : D) : Prop := ∃ m s : Nat, ds = [.int m, .int s] ∧ m ≤ 100 ∧ d = .int ((pasc m).getD s 0)
def R_tw (ds : List D) (d : D) : Prop := ∃ n : Nat, 1 ≤ n ∧ n ≤ 40 ∧ ds = [.int n] ∧ d = .int (due n)
section
variable {P : Program} {w : World} {K : PySem.W.Frag} {mg : Str → Option Value} {base : Heap} {f : Addr} {fd : FuncData}
theorem sc_pu : FnScope ["script", "at", "cell", "size", "one"] ["script", "at"] (defScope (top 16)) := ⟨rfl, rfl, rfl, by decide +kernel, rfl, by decide +kernel, by decide +kernel⟩
theorem ok_pu (T : Tx K mg) (F : Fun K "_law_purse" "_law_purse" (top 16) f fd) (hb : Binds K fd ["script", "at"] []) : FnA P w K mg base 1 f 2 S_purse := by
  refine fna_mk F sc_pu hb (by decide) fun cdv A outer s H E hr ds M Qa Ea hl hS => ?_
  obtain ⟨ns, a, rfl, h1, h2, rfl, q⟩ := hS
  have nd := sc_pu.nd
  refine sv_set 2 nd (EVd.to (d := .int (cellV ns a)) (e_if' (t_cmp (e_v 1 rfl) (e_lenS T.len (e_v 0 rfl)) (by walk_at "Lt")) (fun h => ?_) (fun h => ?_)) ?_)
  · have h := of_decide_eq_true h
    refine EVd.eq (e_toint T.int (e_ix (e_v 0 rfl) (e_v 1 rfl) (i_scr (j := ns.getD a.toNat 0) (at_nat (j := a.toNat) (by omega) ?_)))) ?_
    · have : a.toNat < ns.length := by omega
      simp [this]
    · unfold cellV; rw [if_pos h]
  · have h : ¬ a < (ns.length : Int) := by simpa using h
    refine EVd.eq (e_bin e_int (e_sum (ns := ns.take 4) rfl T.sum (EVd.eq (ev_lc rfl nd (blk_ok (by kernel_rfl)) (own := [("one", 4)]) (g := gName 4) (fun s H C cl fp => pg_name nd rfl (Or.inl rfl) (.inr rfl))
      (lcw_pure (ns.take 4) D.int (fun _ => true) D.int (fun k => _) (it_list (EVd.eq (e_slS (e_v 0 rfl) o_no (o_at e_int)) ?_)) (by simp; omega) (fun v hv => tg_name) (fun v hv => etb_nil ⟨rfl, rfl⟩) (fun v hv _ => fun s H C cl fp => e_toint T.int (e_v 4 rfl)) .is)) ?_)) (by walk_at "Mult")) ?_
    · unfold cut; rw [HT.sIx_none]; simp [HT.sIx, List.map_take]
    · rw [fil_tt]
    · unfold cellV; rw [if_neg h]
  generalize cellV ns a = c
  refine sv_set 3 nd ((e_bin (e_bin e_int (e_abs T.abs (e_v 2 rfl)) (by walk_at "Mult")) (e_if' (d := .int (if c < 0 then 1 else 0)) (t_cmp (e_v 2 rfl) e_int (by walk_at "Lt")) (fun h => EVd.eq e_int (by rw [if_pos (of_decide_eq_true h)])) (fun h => EVd.eq e_int (by rw [if_neg (by simpa using h)]))) (by walk_at "Add")).to ?_)
  have hs : 0 ≤ 2 * (if c < 0 then -c else c) + (if c < 0 then 1 else 0) := by split <;> omega
  generalize 2 * (if c < 0 then -c else c) + (if c < 0 then 1 else 0) = z at hs
  refine sv_ret (ev_lst (a_cons (e_if' (d := .int (if (10 : Int) ^ 18 ≤ z then (if c < 0 then -c else c) else 0)) (t_cmp (e_v 3 rfl) (e_bin e_int e_int (by walk_at "Pow")) (by walk_at "GtE")) (fun h => EVd.eq (e_abs T.abs (e_v 2 rfl)) (by rw [if_pos (show (10 : Int) ^ 18 ≤ z from of_decide_eq_true h)])) (fun h => EVd.eq e_int (by rw [if_neg (show ¬ (10 : Int) ^ 18 ≤ z from of_decide_eq_false h)])))
    (a_cons (e_bin (e_toint T.int (e_bin (e_bin (e_v 3 rfl) (e_bin (e_v 1 rfl) e_int (by walk_at "Mult")) (by walk_at "Add")) e_int (by walk_at "Add"))) e_int (by walk_at "Mod")) (a_cons (e_v 1 rfl) a_nil))) (by walk_at "ES_SZ") (.inr fun p => q p _ ⟨_, _, _, rfl, ?_, ?_, ?_, h1, Int.le_refl _⟩))
  · split
    · split <;> omega
    · omega
  · exact Int.emod_nonneg _ (by decide)
  · exact Int.lt_trans (Int.emod_lt_of_pos _ (by decide)) (by decide)
theorem sc_dr : FnScope ["purse", "many", "found"] ["purse", "many"] (defScope (top 17)) := ⟨rfl, rfl, rfl, by decide +kernel, rfl, by decide +kernel, by decide +kernel⟩
theorem ok_dr (T : Tx K mg) (F : Fun K "_law_draw" "_law_draw" (top 17) f fd) (hb : Binds K fd ["purse", "many"] []) : FnA P w K mg base 1 f 2 S_draw := by
  refine fna_mk F sc_dr hb (by decide) fun cdv A outer s H E hr ds M Qa Ea hl hS => ?_
  obtain ⟨p, m, lim, rfl, h1, h2, h3, ⟨a, b, c, rfl, g1, g2, g3, g4, g5⟩, q⟩ := hS
  have nd := sc_dr.nd
  refine sv_ifd (t_cmp (e_ix (e_v 0 rfl) e_int (i_cell 0 rfl rfl)) e_int (by walk_at "Gt")) (fun hc => ?_) (fun hc => ?_)
  · refine sv_set 2 nd ((e_bin (e_toint T.int (e_ix (e_v 0 rfl) e_int (i_cell 0 rfl rfl))) (e_v 1 rfl) (by walk_at "Mod")).to ?_)
    refine sv_setItem (j := 0) 0 (e_bin (e_ix (e_v 0 rfl) e_int (i_cell 0 rfl rfl)) (e_v 1 rfl) (by walk_at "FloorDiv")) (e_v 0 rfl) e_int rfl (by simp) ?_
    exact sv_ret ((e_v 2 rfl).to (q _ _ (Int.emod_nonneg _ (by omega)) (Int.emod_lt_of_pos _ h1) ⟨_, _, _, rfl, Int.ediv_nonneg g1 (by omega), g2, g3, g4, by omega⟩))
  · refine sv_nil ?_
    refine sv_augItem (j := 2) 0 ip_add (e_v 0 rfl) e_int rfl rfl (by decide) e_int ?_
    refine sv_setItem (j := 1) 0 (e_bin (e_toint T.int (e_bin (e_bin (e_ix (e_v 0 rfl) e_int (i_cell 0 rfl rfl)) e_int (by walk_at "Mult")) (e_bin (e_ix (e_v 0 rfl) e_int (i_cell 0 rfl rfl)) e_int (by walk_at "Mult")) (by walk_at "Add"))) e_int (by walk_at "Mod")) (e_v 0 rfl) e_int rfl (by simp) ?_
    refine sv_ret ((e_bin (e_bin (e_bin (e_toint T.int (e_bin (e_bin (e_ix (e_v 0 rfl) e_int (i_cell 0 rfl rfl)) e_int (by walk_at "Mult")) (e_bin (e_ix (e_v 0 rfl) e_int (i_cell 0 rfl rfl)) e_int (by walk_at "Mult")) (by walk_at "Add"))) e_int (by walk_at "Mod")) e_int (by walk_at "FloorDiv")) (e_v 1 rfl) (by walk_at "Mod")).to (q _ _ (Int.emod_nonneg _ (by omega)) (Int.emod_lt_of_pos _ h1) ⟨_, _, _, rfl, g1, Int.emod_nonneg _ (by decide), Int.lt_trans (Int.emod_lt_of_pos _ (by decide)) (by decide), by omega, by omega⟩))
theorem sc_at : FnScope ["told", "fibres", "one", "y"] ["told", "fibres"] (defScope (top 18)) := ⟨rfl, rfl, rfl, by decide +kernel, rfl, by decide +kernel, by decide +kernel⟩
theorem bb_l : bootBuiltins "list" = some (.type "list") := by decide +kernel
theorem bb_i : bootBuiltins "int" = some (.type "int") := by decide +kernel
theorem bb_b : bootBuiltins "bool" = some (.type "bool") := by decide +kernel
theorem k_ll : kitB "list" "list" = some true := by decide +kernel
theorem k_ii : kitB "int" "int" = some true := by decide +kernel
theorem k_ib : kitB "int" "bool" = some false := by decide +kernel
theorem ok_at (T : Tx K mg) (F : Fun K "_law_are_threads" "_law_are_threads" (top 18) f fd) (hb : Binds K fd ["told", "fibres"] []) : FnA P w K mg base 1 f 2 (Pu R_at) := by
  refine fna_mk F sc_at hb (by decide) fun cdv A outer s H E hr ds M Qa Ea hl hS => ?_
  obtain ⟨d, ⟨tt, n, rfl, h1, h2, h3, rfl⟩, rfl, q⟩ := hS
  have nd := sc_at.nd
  refine sv_ifd (t_not (t_val (e_isi T.isi (e_v 0 rfl) (e_bty T.list bb_l) rfl k_ll))) (fun hc => by cases hc) (fun _ => sv_nil ?_)
  refine sv_for (fun i G' M' => G' = [some (.lst (tt.map fun r => .lst (r.map D.int))), some (.lst (List.replicate n (.int 2))), none, none] ∧ M' = []) (passes_of rfl) rfl (it_list (e_v 0 rfl)) ⟨rfl, rfl⟩ (fun i d G' M' hi inv => ?_) (fun G' M' inv => ?_)
  · obtain ⟨rfl, rfl⟩ := inv
    rw [List.getElem?_map] at hi
    cases hr0 : tt[i]? with
    | none => rw [hr0] at hi; cases hi
    | some r =>
      rw [hr0] at hi
      have hi : D.lst (r.map D.int) = d := Option.some.inj hi
      subst hi
      obtain ⟨g1, g2⟩ := h3 r (List.mem_of_getElem? hr0)
      refine av_name 2 nd ?_
      refine sv_ifd (t_w (w_or' (t_not (t_val (e_isi T.isi (e_v 2 rfl) (e_bty T.list bb_l) rfl k_ll))) fun h => (w_one (t_cmp (e_len T.len (e_v 2 rfl)) (e_len T.len (e_v 1 rfl)) (by walk_at "NotEq"))))) (fun hc => ?_) (fun _ => sv_nil ?_)
      · simp [g1] at hc
      refine sv_for (fun j G' M' => G' = [some (.lst (tt.map fun r => .lst (r.map D.int))), some (.lst (List.replicate n (.int 2))), some (.lst (r.map D.int)), none] ∧ M' = []) (passes_of rfl) rfl (it_rngN n T.range (e_len T.len (e_v 1 rfl)) (by simp) (by omega)) ⟨rfl, rfl⟩ (fun j d G' M' hj inv => ?_) (fun G' M' inv => ?_)
      · obtain ⟨rfl, rfl⟩ := inv
        obtain ⟨hjn, rfl⟩ := nats_at hj
        refine av_name 3 nd ?_
        have hx : r.getD j 0 ∈ r := by
          have : j < r.length := by omega
          rw [List.getD_eq_getElem?_getD, List.getElem?_eq_getElem this]; exact List.getElem_mem _
        obtain ⟨x1, x2⟩ := g2 _ hx
        have hg : (r.map D.int)[j]? = some (.int (r.getD j 0)) := get_ints (by omega)
        have hf : (List.replicate n (D.int 2))[j]? = some (.int 2) := by simp [hjn]
        refine sv_ifd (t_w (w_or' (t_not (t_val (e_isi T.isi (e_ix (e_v 2 rfl) (e_v 3 rfl) (i_lst (at_nat rfl hg))) (e_bty T.int bb_i) rfl k_ii))) fun h => (w_or' (t_val (e_isi T.isi (e_ix (e_v 2 rfl) (e_v 3 rfl) (i_lst (at_nat rfl hg))) (e_bty T.bool bb_b) rfl k_ib)) fun h => (w_or' (t_cmp (e_ix (e_v 2 rfl) (e_v 3 rfl) (i_lst (at_nat rfl hg))) e_int (by walk_at "Lt")) fun h => (w_one (t_cmp (e_ix (e_v 2 rfl) (e_v 3 rfl) (i_lst (at_nat rfl hg))) (e_ix (e_v 1 rfl) (e_v 3 rfl) (i_lst (at_nat rfl hf))) (by walk_at "GtE"))))))) (fun hc => ?_) (fun _ => sv_nil ?_)
        · simp only [Bool.not_true, Bool.false_or, Bool.or_eq_true, decide_eq_true_eq] at hc
          omega
        · exact sv_nil ⟨_, Le.cons (.inr rfl) (.cons (.inr rfl) (.cons (.inr rfl) (.cons (.inl rfl) .nil))), rfl, rfl⟩
      · obtain ⟨rfl, rfl⟩ := inv
        exact sv_nil ⟨_, Le.cons (.inr rfl) (.cons (.inr rfl) (.cons (.inl rfl) (.cons (.inr rfl) .nil))), rfl, rfl⟩
  · obtain ⟨rfl, rfl⟩ := inv
    exact sv_ret (e_bl.to q)
theorem sc_pa : FnScope ["many", "size", "row", "turn", "k"] ["many", "size"] (defScope (top 19)) := ⟨rfl, rfl, rfl, by decide +kernel, rfl, by decide +kernel, by decide +kernel⟩
theorem ok_pa (T : Tx K mg) (F : Fun K "_law_pascal" "_law_pascal" (top 19) f fd) (hb : Binds K fd ["many", "size"] []) : FnA P w K mg base 1 f 2 (Pu R_pa) := by
  refine fna_mk F sc_pa hb (by decide) fun cdv A outer s H E hr ds M Qa Ea hl hS => ?_
  obtain ⟨d, ⟨m, z, rfl, h1, rfl⟩, rfl, q⟩ := hS
  have nd := sc_pa.nd
  refine sv_set 2 nd ((e_lst (a_cons e_int a_nil) (by simp)).to ?_)
  refine sv_for (fun i G' M' => G' = [some (.int m), some (.int z), some (.lst ((pasc i).map D.int)), none, none] ∧ M' = []) (passes_of rfl) rfl (it_rngN m T.range (e_v 0 rfl) rfl (by omega)) ⟨rfl, rfl⟩ (fun i d G' M' hi inv => ?_) (fun G' M' inv => ?_)
  · obtain ⟨rfl, rfl⟩ := inv
    obtain ⟨hin, rfl⟩ := nats_at hi
    have pl := pasc_len i
    refine av_name 3 nd ?_
    refine sv_setd 2 (.lst ((pasc (i + 1)).map D.int)) nd (e_bin (e_bin (e_lst (a_cons e_int a_nil) (by simp)) (ev_lc rfl nd (blk_ok (by kernel_rfl)) (own := [("k", 4)]) (g := gName 4) (fun s H C cl fp => pg_name nd rfl (Or.inl rfl) (.inr rfl))
      (lcw_pure (List.range ((pasc i).length - 1)) (fun (k : Nat) => D.int (k : Int)) (fun _ => true) (fun (k : Nat) => D.int ((pasc i).getD k 0 + (pasc i).getD (k + 1) 0)) (fun k => _) (it_rngN ((pasc i).length - 1) T.range (e_bin (e_len T.len (e_v 2 rfl)) e_int (by walk_at "Sub")) (by simp; omega) (by omega)) (by simp; omega)
        (fun v hv => tg_name) (fun v hv => etb_nil ⟨rfl, rfl⟩) (fun v hv _ => fun s H C cl fp => ?_) .is)) (b_cat (by rw [fil_tt]; simp; omega) .is)) (e_lst (a_cons e_int a_nil) (by simp)) (b_cat (by rw [fil_tt]; simp; omega) .is)) ?_ ?_
    · have hv : v < (pasc i).length - 1 := List.mem_range.mp hv
      exact e_bin (e_ix (e_v 2 rfl) (e_v 4 rfl) (i_lst (at_nat rfl (get_ints (by omega))))) (e_ix (e_v 2 rfl) (e_bin (e_v 4 rfl) e_int (by walk_at "Add")) (i_lst (at_nat (by omega) (get_ints (by omega : v + 1 < (pasc i).length))))) (by walk_at "Add")
    · rw [fil_tt]; simp [pasc]
    · exact sv_nil ⟨_, Le.cons (.inr rfl) (.cons (.inr rfl) (.cons (.inr rfl) (.cons (.inl rfl) (.cons (.inr rfl) .nil)))), rfl, rfl⟩
  · obtain ⟨rfl, rfl⟩ := inv
    rw [nats_len]
    refine sv_ret (EVd.to (d := .int ((pasc m).getD z 0)) (e_if' (t_cmp (e_v 1 rfl) (e_len T.len (e_v 2 rfl)) (by walk_at "Lt")) (fun h => e_ix (e_v 2 rfl) (e_v 1 rfl) (i_lst (at_nat rfl (get_ints ?_)))) (fun h => EVd.eq e_int ?_)) q)
    · have := of_decide_eq_true h
      rw [List.length_map] at this
      omega
    · have := of_decide_eq_false h
      rw [List.length_map] at this
      have e : (pasc m)[z]? = none := List.getElem?_eq_none (by omega)
      rw [List.getD_eq_getElem?_getD, e]; rfl
theorem sc_tw : FnScope ["many", "number"] ["many"] (defScope (top 20)) := ⟨rfl, rfl, rfl, by decide +kernel, rfl, by decide +kernel, by decide +kernel⟩
theorem ok_tw (T : Tx K mg) (C : Fn P w K mg base 1 "_law_pascal" 2 (Pu R_pa)) (F : Fun K "_law_twos" "_law_twos" (top 20) f fd) (hb : Binds K fd ["many"] []) : FnA P w K mg base 2 f 1 (Pu R_tw) := by
  refine fna_mk F sc_tw hb (by decide) fun cdv A outer s H E hr ds M Qa Ea hl hS => ?_
  obtain ⟨d, ⟨n, h1, h2, rfl, rfl⟩, rfl, q⟩ := hS
  have nd := sc_tw.nd
  have db := due_b n
  refine sv_for (fun i G' M' => i + 2 ≤ due n ∧ G' = [some (.int n), none] ∧ M' = []) (passes_of rfl) rfl (it_rng2 T.range e_int e_int (by decide) (by decide) (by decide) (by decide)) ⟨by omega, rfl, rfl⟩ (fun i d G' M' hi inv => ?_) (fun G' M' inv => ?_)
  · obtain ⟨hid, rfl, rfl⟩ := inv
    obtain ⟨hin, rfl⟩ := rng_at hi
    have hin : i < 10 := hin
    refine av_name 1 nd ?_
    have e := twos_ok n (by omega) h1 i hin hid
    refine sv_ifd (t_cmp (e_callP C hr (a_cons (e_bin (e_v 1 rfl) e_int (by walk_at "Sub")) (a_cons (e_bin (e_toint T.int (e_bin (e_v 1 rfl) e_int (by walk_at "Add"))) e_int (by walk_at "FloorDiv")) a_nil)) ⟨i + 1, (i + 3) / 2, ?_, by omega, rfl⟩) (e_v 0 rfl) (by walk_at "GtE")) (fun hc => ?_) (fun hc => ?_)
    · have e1 : (2 : Int) + (i : Int) - 1 = ((i + 1 : Nat) : Int) := by omega
      have e2 : ((2 : Int) + (i : Int) + 1) / 2 = (((i + 3) / 2 : Nat) : Int) := by omega
      rw [e1, e2]
    · rw [e] at hc
      have hc := of_decide_eq_true hc
      have : i + 2 = due n := by omega
      have e1 : (2 : Int) + (i : Int) = (due n : Int) := by omega
      exact sv_ret ((e_v 1 rfl).to (by rw [e1]; exact q))
    · rw [e] at hc
      have hc := of_decide_eq_false hc
      exact sv_nil (sv_nil ⟨_, Le.cons (.inr rfl) (.cons (.inl rfl) .nil), by omega, rfl, rfl⟩)
  · obtain ⟨hid, rfl, rfl⟩ := inv
    rw [rng_len] at hid
    have : (12 - 2 : Int).toNat + 2 ≤ due n := hid
    have e : (12 - 2 : Int).toNat = 10 := rfl
    omega
end
end K16

set_option Elab.async false
set_option linter.all false
set_option maxRecDepth 100000
set_option maxHeartbeats 4000000
namespace K16
open PySem PySem.Spec PyProof.Rows L2 ES
local macro_rules | `(tactic| walk_at "ES_SZ") => `(tactic| first | decide | omega | (simp only [List.length_cons, List.length_nil, List.length_append, List.length_map, List.length_replicate, List.length_range]; omega) | (simp; omega))
local macro_rules | `(tactic| walk_at "Add") => `(tactic| first | exact ES.bd_int0 L2.op_add | (refine ES.b_cat ?_ .is; walk_at "ES_SZ") | (refine ES.b_catT ?_; walk_at "ES_SZ"))
local macro_rules | `(tactic| walk_at "Sub") => `(tactic| exact ES.bd_int0 L2.op_sub)
local macro_rules | `(tactic| walk_at "Mult") => `(tactic| first | (refine ES.bd_int (g := fun i j => i * j) L2.op_mul (Or.inl ?_); constructor <;> omega) | (refine ES.bd_int (g := fun i j => i * j) L2.op_mul (Or.inr ?_); constructor <;> omega))
local macro_rules | `(tactic| walk_at "FloorDiv") => `(tactic| (refine ES.bd_int (g := fun i j => i / j) L2.op_fdiv ?_; constructor <;> omega))
local macro_rules | `(tactic| walk_at "Mod") => `(tactic| (refine ES.bd_int (g := fun i j => i % j) L2.op_mod ?_; omega))
local macro_rules | `(tactic| walk_at "Pow") => `(tactic| (refine ES.bd_int (g := fun i j => i ^ j.toNat) L2.op_pow ⟨?_, ?_, ?_⟩ <;> decide))
local macro_rules | `(tactic| walk_at "Lt") => `(tactic| exact ES.c_lt)
local macro_rules | `(tactic| walk_at "LtE") => `(tactic| exact ES.c_le)
local macro_rules | `(tactic| walk_at "Gt") => `(tactic| exact ES.c_gt)
local macro_rules | `(tactic| walk_at "GtE") => `(tactic| exact ES.c_ge)
local macro_rules | `(tactic| walk_at "Eq") => `(tactic| first | exact ES.c_eq | exact ES.c_eqS)
local macro_rules | `(tactic| walk_at "NotEq") => `(tactic| first | exact ES.c_ne | exact ES.c_neS)

def metF (y z : Nat) (T : List (List Int)) : List Bool := T.foldl (fun m one => m.set (2 * one.getD y 0 + one.getD z 0).toNat true) [false, false, false, false]
def goodB (T : List (List Int)) (n : Nat) : Bool := decide (T.length ≤ 1000) && (T.all (fun r => decide (r.length = n) && r.all fun x => decide (x = 0) || decide (x = 1)) &&
  ((List.range n).all (fun y => (List.range y).all fun z => decide (metF y z T = [true, true, true, true])) && (List.range n).all fun y => !(T.filter fun r => decide (r.getD y 0 = 1)).isEmpty))
theorem good : ∀ n < 41, 1 ≤ n → goodB (bT n n) n = true := by decide +kernel
end K16

set_option Elab.async false
set_option linter.all false
set_option maxRecDepth 100000
set_option maxHeartbeats 4000000
namespace K16
open PySem PySem.Spec PyProof.Rows L2 ES
local macro_rules | `(tactic| walk_at "ES_SZ") => `(tactic| first | decide | omega | (simp only [List.length_cons, List.length_nil, List.length_append, List.length_map, List.length_replicate, List.length_range]; omega) | (simp; omega))
local macro_rules | `(tactic| walk_at "Add") => `(tactic| first | exact ES.bd_int0 L2.op_add | (refine ES.b_cat ?_ .is; walk_at "ES_SZ") | (refine ES.b_catT ?_; walk_at "ES_SZ"))
local macro_rules | `(tactic| walk_at "Sub") => `(tactic| exact ES.bd_int0 L2.op_sub)
local macro_rules | `(tactic| walk_at "Mult") => `(tactic| first | (refine ES.bd_int (g := fun i j => i * j) L2.op_mul (Or.inl ?_); constructor <;> omega) | (refine ES.bd_int (g := fun i j => i * j) L2.op_mul (Or.inr ?_); constructor <;> omega))
local macro_rules | `(tactic| walk_at "FloorDiv") => `(tactic| (refine ES.bd_int (g := fun i j => i / j) L2.op_fdiv ?_; constructor <;> omega))
local macro_rules | `(tactic| walk_at "Mod") => `(tactic| (refine ES.bd_int (g := fun i j => i % j) L2.op_mod ?_; omega))
local macro_rules | `(tactic| walk_at "Pow") => `(tactic| (refine ES.bd_int (g := fun i j => i ^ j.toNat) L2.op_pow ⟨?_, ?_, ?_⟩ <;> decide))
local macro_rules | `(tactic| walk_at "Lt") => `(tactic| exact ES.c_lt)
local macro_rules | `(tactic| walk_at "LtE") => `(tactic| exact ES.c_le)
local macro_rules | `(tactic| walk_at "Gt") => `(tactic| exact ES.c_gt)
local macro_rules | `(tactic| walk_at "GtE") => `(tactic| exact ES.c_ge)
local macro_rules | `(tactic| walk_at "Eq") => `(tactic| first | exact ES.c_eq | exact ES.c_eqS)
local macro_rules | `(tactic| walk_at "NotEq") => `(tactic| first | exact ES.c_ne | exact ES.c_neS)

structure Good (T : List (List Int)) (n : Nat) : Prop where
  len : T.length ≤ 1000
  rows : ∀ r ∈ T, r.length = n ∧ ∀ x ∈ r, x = 0 ∨ x = 1
  met : ∀ y < n, ∀ z < y, metF y z T = [true, true, true, true]
  one : ∀ y < n, (T.filter fun r => decide (r.getD y 0 = 1)).isEmpty = false
theorem good_of {T : List (List Int)} {n : Nat} (h : goodB T n = true) : Good T n := by
  obtain ⟨h1, h⟩ := He.ba h
  obtain ⟨h2, h⟩ := He.ba h
  obtain ⟨h3, h4⟩ := He.ba h
  refine ⟨of_decide_eq_true h1, fun r hr => ?_, fun y hy z hz => ?_, fun y hy => ?_⟩
  · obtain ⟨a, b⟩ := He.ba (List.all_eq_true.mp h2 r hr)
    exact ⟨of_decide_eq_true a, fun x hx => by simpa using List.all_eq_true.mp b x hx⟩
  · exact of_decide_eq_true (List.all_eq_true.mp (List.all_eq_true.mp h3 y (List.mem_range.mpr hy)) z (List.mem_range.mpr hz))
  · simpa using List.all_eq_true.mp h4 y (List.mem_range.mpr hy)
abbrev rowD (r : List Int) : D := .lst (r.map D.int)
def R_am (ds : List D) (d : D) : Prop := ∃ (T : List (List Int)) (n : Nat), ds = [.lst (T.map rowD), .int n] ∧ n ≤ 1000 ∧ Good T n ∧ d = .bl true
section
variable {P : Program} {w : World} {K : PySem.W.Frag} {mg : Str → Option Value} {base : Heap} {f : Addr} {fd : FuncData}
theorem sc_am : FnScope ["threads", "many", "y", "z", "met", "one"] ["threads", "many"] (defScope (top 22)) := ⟨rfl, rfl, rfl, by decide +kernel, rfl, by decide +kernel, by decide +kernel⟩
theorem ok_am (T : Tx K mg) (F : Fun K "_law_all_met" "_law_all_met" (top 22) f fd) (hb : Binds K fd ["threads", "many"] []) : FnA P w K mg base 1 f 2 (Pu R_am) := by
  refine fna_mk F sc_am hb (by decide) fun cdv A outer s H E hr ds M Qa Ea hl hS => ?_
  obtain ⟨d, ⟨tt, n, rfl, h1, g, rfl⟩, rfl, q⟩ := hS
  have nd := sc_am.nd
  have rowAt : ∀ {r : List Int} {k : Nat}, r ∈ tt → k < n → (r.map D.int)[k]? = some (.int (r.getD k 0)) := fun {r k} hr hk => get_ints (by rw [(g.rows r hr).1]; exact hk)
  have rowB : ∀ {r : List Int} {k : Nat}, r ∈ tt → k < n → r.getD k 0 = 0 ∨ r.getD k 0 = 1 := fun {r k} hr hk => by
    have : k < r.length := by rw [(g.rows r hr).1]; exact hk
    rw [List.getD_eq_getElem?_getD, List.getElem?_eq_getElem this]
    exact (g.rows r hr).2 _ (List.getElem_mem _)
  refine sv_for (fun i G' M' => G' = [some (.lst (tt.map rowD)), some (.int n), none, none, none, none] ∧ M' = []) (passes_of rfl) rfl (it_rngN n T.range (e_v 1 rfl) rfl (by omega)) ⟨rfl, rfl⟩ (fun y d G' M' hi inv => ?_) (fun G' M' inv => ?_)
  · obtain ⟨rfl, rfl⟩ := inv
    obtain ⟨hy, rfl⟩ := nats_at hi
    refine av_name 2 nd ?_
    refine sv_for (fun i G' M' => G' = [some (.lst (tt.map rowD)), some (.int n), some (.int y), none, none, none] ∧ M' = []) (passes_of rfl) rfl (it_rngN y T.range (e_v 2 rfl) rfl (by omega)) ⟨rfl, rfl⟩ (fun z d G' M' hi inv => ?_) (fun G' M' inv => ?_)
    · obtain ⟨rfl, rfl⟩ := inv
      obtain ⟨hz, rfl⟩ := nats_at hi
      refine av_name 3 nd ?_
      refine sv_set 4 nd (ev_lst (a_cons e_bl (a_cons e_bl (a_cons e_bl (a_cons e_bl a_nil)))) (by simp) (.inr fun p => ?_))
      refine sv_for (fun i G' M' => G' = [some (.lst (tt.map rowD)), some (.int n), some (.int y), some (.int z), some (.ref p), none] ∧ (metF y z (tt.take i)).length = 4 ∧ M' = [(p, .lst ((metF y z (tt.take i)).map D.bl))]) (passes_of rfl) rfl (it_list (e_v 0 rfl)) ⟨rfl, rfl, rfl⟩ (fun i d G' M' hi inv => ?_) (fun G' M' inv => ?_)
      · obtain ⟨rfl, h4, rfl⟩ := inv
        rw [List.getElem?_map] at hi
        cases hr0 : tt[i]? with
        | none => rw [hr0] at hi; cases hi
        | some r =>
          rw [hr0] at hi
          have hi : rowD r = d := Option.some.inj hi
          subst hi
          have hm : r ∈ tt := List.mem_of_getElem? hr0
          have b1 := rowB hm hy
          have b2 := rowB hm (by omega : z < n)
          have tk : metF y z (tt.take (i + 1)) = (metF y z (tt.take i)).set (2 * r.getD y 0 + r.getD z 0).toNat true := by
            unfold metF
            rw [List.take_add_one, hr0, Option.toList_some, List.foldl_append]
            rfl
          refine av_name 5 nd ?_
          refine sv_setItem (j := (2 * r.getD y 0 + r.getD z 0).toNat) 0 e_bl (e_v 4 rfl) (EVd.eq (e_bin (e_bin e_int (e_ix (e_v 5 rfl) (e_v 2 rfl) (i_lst (at_nat rfl (rowAt hm hy)))) (by walk_at "Mult")) (e_ix (e_v 5 rfl) (e_v 3 rfl) (i_lst (at_nat rfl (rowAt hm (by omega : z < n))))) (by walk_at "Add")) ?_) rfl (by rw [List.length_map, h4]; omega) ?_
          · congr 1; omega
          · refine sv_nil ⟨_, Le.cons (.inr rfl) (.cons (.inr rfl) (.cons (.inr rfl) (.cons (.inr rfl) (.cons (.inr rfl) (.cons (.inl rfl) .nil))))), rfl, ?_, ?_⟩
            · rw [tk, List.length_set, h4]
            · rw [tk, List.map_set]; rfl
      · obtain ⟨rfl, h4, rfl⟩ := inv
        rw [List.length_map, List.take_length, g.met y hy z hz]
        refine sv_ifd (t_cmp e_bl (e_v 4 rfl) (c_inC 0 rfl rfl rfl)) (fun hc => absurd hc (by decide)) (fun _ => sv_nil ?_)
        refine SV.none ?_
        exact sv_nil ⟨_, Le.cons (.inr rfl) (.cons (.inr rfl) (.cons (.inr rfl) (.cons (.inl rfl) (.cons (.inl rfl) (.cons (.inr rfl) .nil))))), rfl, rfl⟩
    · obtain ⟨rfl, rfl⟩ := inv
      exact sv_nil ⟨_, Le.cons (.inr rfl) (.cons (.inr rfl) (.cons (.inl rfl) (.cons (.inr rfl) (.cons (.inr rfl) (.cons (.inr rfl) .nil))))), rfl, rfl⟩
  · obtain ⟨rfl, rfl⟩ := inv
    have none_ : (List.range n).filter (fun y => (tt.filter fun r => decide (r.getD y 0 = 1)).isEmpty) = [] := by
      rw [List.filter_eq_nil_iff]
      intro y hy
      rw [g.one y (List.mem_range.mp hy)]
      decide
    refine sv_ret (EVd.to (EVd.eq (e_cmp (ev_lc rfl nd (blk_ok (by kernel_rfl)) (own := [("y", 2)]) (g := gName 2) (fun s H C cl fp => pg_name nd rfl (Or.inr rfl) (.inl rfl))
      (lcw_pure (List.range n) (fun (k : Nat) => D.int (k : Int)) (fun y => (tt.filter fun r => decide (r.getD y 0 = 1)).isEmpty) (fun (k : Nat) => D.int (k : Int)) (fun k => _) (it_rngN n T.range (e_v 1 rfl) rfl (by omega)) (by simp; omega)
        (fun v hv => tg_name) (fun v hv => etb_one fun s H C cl fp => ?_) (fun v hv _ => fun s H C cl fp => e_v 2 rfl) .is)) (e_lst a_nil (by simp)) (c_eqNil (ps := []) hr.units ?_ (by decide))) ?_) q)
    · have hv := List.mem_range.mp hv
      refine ETd.eq (t_cmp (ev_lc rfl nd (blk_ok (by kernel_rfl)) (own := [("one", 5)]) (g := gName 5) (fun s H C cl fp => pg_name nd rfl (Or.inl rfl) (.inr rfl))
        (lcw_pure tt rowD (fun r => decide (r.getD v 0 = 1)) (fun r : List Int => Enc.en r) (fun k => _) (it_list (e_v 0 rfl)) (by have := g.len; omega) (fun v hv => tg_name) (fun r hr2 => etb_one fun s H C cl fp => t_cmp (e_ix (e_v 5 rfl) (e_v 2 rfl) (i_lst (at_nat rfl (rowAt hr2 hv)))) e_int (by walk_at "Eq"))
          (fun r hr2 _ => fun s H C cl fp => e_v 5 rfl) .is)) (e_lst a_nil (by simp)) (c_eqNil hr.units (pys_map _) (enc_shaped (α := List (List Int)) _ (by decide)))) ?_
      rw [List.isEmpty_map]
    · rw [none_]; exact .nil
    · rw [none_]; rfl
end
end K16

set_option Elab.async false
set_option linter.all false
set_option maxRecDepth 100000
set_option maxHeartbeats 4000000
namespace K16
open PySem PySem.Spec PyProof.Rows L2 ES
local macro_rules | `(tactic| walk_at "ES_SZ") => `(tactic| first | decide | omega | (simp only [List.length_cons, List.length_nil, List.length_append, List.length_map, List.length_replicate, List.length_range]; omega) | (simp; omega))
local macro_rules | `(tactic| walk_at "Add") => `(tactic| first | exact ES.bd_int0 L2.op_add | (refine ES.b_cat ?_ .is; walk_at "ES_SZ") | (refine ES.b_catT ?_; walk_at "ES_SZ"))
local macro_rules | `(tactic| walk_at "Sub") => `(tactic| exact ES.bd_int0 L2.op_sub)
local macro_rules | `(tactic| walk_at "Mult") => `(tactic| first | (refine ES.bd_int (g := fun i j => i * j) L2.op_mul (Or.inl ?_); constructor <;> omega) | (refine ES.bd_int (g := fun i j => i * j) L2.op_mul (Or.inr ?_); constructor <;> omega))
local macro_rules | `(tactic| walk_at "FloorDiv") => `(tactic| (refine ES.bd_int (g := fun i j => i / j) L2.op_fdiv ?_; constructor <;> omega))
local macro_rules | `(tactic| walk_at "Mod") => `(tactic| (refine ES.bd_int (g := fun i j => i % j) L2.op_mod ?_; omega))
local macro_rules | `(tactic| walk_at "Pow") => `(tactic| (refine ES.bd_int (g := fun i j => i ^ j.toNat) L2.op_pow ⟨?_, ?_, ?_⟩ <;> decide))
local macro_rules | `(tactic| walk_at "Lt") => `(tactic| exact ES.c_lt)
local macro_rules | `(tactic| walk_at "LtE") => `(tactic| exact ES.c_le)
local macro_rules | `(tactic| walk_at "Gt") => `(tactic| exact ES.c_gt)
local macro_rules | `(tactic| walk_at "GtE") => `(tactic| exact ES.c_ge)
local macro_rules | `(tactic| walk_at "Eq") => `(tactic| first | exact ES.c_eq | exact ES.c_eqS)
local macro_rules | `(tactic| walk_at "NotEq") => `(tactic| first | exact ES.c_ne | exact ES.c_neS)

def S_rf (K : PySem.W.Frag) : AS := fun ds M Q E => ∃ m : Int, ds = [.int m] ∧ M = [] ∧ (40 < m → E (TM K) (fWhat "many") []) ∧ (m < 1 → E (BM K) (fWhat "many") []) ∧ (40 < m ∨ m < 1)
def tup3 (x : Str) : D := .tup [.str x, .str "many", .bl false]
def R_al (P : Program) (w : World) (K : PySem.W.Frag) (mg : Str → Option Value) (base : Heap) (ds : List D) (d : D) : Prop := ∃ (f : Addr) (m : Int), ds = [.ref f, .int m] ∧ FnA P w K mg base 5 f 1 (S_rf K) ∧ ((40 < m ∧ d = tup3 "TooMany") ∨ (m < 1 ∧ d = tup3 "BadMoves"))
def R_on (ds : List D) (d : D) : Prop := ∃ n : Nat, 1 ≤ n ∧ n ≤ 40 ∧ ds = [.int n] ∧ d = .bl true
structure Xs (K : PySem.W.Frag) (mg : Str → Option Value) : Prop where
  tm : Exn K mg "TooMany" ["what"]
  bm : Exn K mg "BadMoves" ["what"]
  tt : PySem.W.exmOne K (.ref (TM K)) (.ref (TM K)) = some true
  bt : PySem.W.exmOne K (.ref (BM K)) (.ref (TM K)) = some false
  bb : PySem.W.exmOne K (.ref (BM K)) (.ref (BM K)) = some true
  ktb : PySem.W.kitOne K (.ref (TM K)) (.ref (BM K)) = some false
  kbt : PySem.W.kitOne K (.ref (BM K)) (.ref (TM K)) = some false
theorem tab_rz {T : List (List Int)} {qs : List Addr} {q0 : Addr} (h : qs.length = T.length) : Rz (tabM T qs q0) (.ref q0) (.lst (T.map rowD)) := by
  refine .cell (ds := qs.map D.ref) (by unfold tabM; simp) ?_
  have sub : ∀ p ∈ cells T qs, p ∈ tabM T qs q0 := fun p hp => List.mem_append_left _ hp
  generalize tabM T qs q0 = M at sub
  induction T generalizing qs with
  | nil =>
    cases qs with
    | nil => exact .nil
    | cons q qs => simp at h
  | cons r T ih =>
    cases qs with
    | nil => simp at h
    | cons q qs =>
      refine .cons (.cell (sub _ (by unfold cells; simp)) (rzs_same _)) (ih (by simpa using h) fun p hp => sub p ?_)
      unfold cells at hp ⊢
      exact List.mem_cons_of_mem _ hp
section
variable {P : Program} {w : World} {K : PySem.W.Frag} {mg : Str → Option Value} {base : Heap} {f : Addr} {fd : FuncData}
theorem sc_al : FnScope ["asked", "many", "told", "raised"] ["asked", "many"] (defScope (top 21)) := ⟨rfl, rfl, rfl, by decide +kernel, rfl, by decide +kernel, by decide +kernel⟩
theorem ok_al (T : Tx K mg) (xs : Xs K mg) (F : Fun K "_law_alone" "_law_alone" (top 21) f fd) (hb : Binds K fd ["asked", "many"] []) : FnA P w K mg base 6 f 2 (Pu (R_al P w K mg base)) := by
  refine fna_mk F sc_al hb (by decide) fun cdv A outer s H E hr ds M Qa Ea hl hS => ?_
  obtain ⟨d, ⟨g, m, rfl, C, hm⟩, rfl, q⟩ := hS
  have nd := sc_al.nd
  refine sv_try [(.ref (TM K), some 3, _), (.ref (BM K), some 3, _)] nd (.as_ ⟨rfl, by decide, .inl xs.tm.mgC⟩ rfl rfl (.as_ ⟨rfl, by decide, .inl xs.bm.mgC⟩ rfl rfl .nil)) rfl rfl fun pn xe po => ?_
  refine sv_setX 2 nd (evx_callL 0 rfl C hr ((a_cons (e_v 1 rfl) a_nil).to ⟨rfl, [], [], .refl _, m, rfl, rfl, fun h => ⟨[], .refl _, ?_⟩, fun h => ⟨[], .refl _, ?_⟩, ?_⟩))
  · have e : d = tup3 "TooMany" := by rcases hm with ⟨_, e⟩ | ⟨e, _⟩; exact e; omega
    subst e
    exact ⟨true, xs.tt, fun _ a dd oe pn cg => sv_ret ((e_tup (a_cons e_str (a_cons (e_xfld xs.tm.xf (xs.tm.no "what" (by simp)) cg (e_v 3 rfl) rfl) (a_cons (e_isiX xs.tm.xc cg T.isi (e_v 3 rfl) (e_gref xs.bm.mgC) xs.ktb) a_nil))) (by simp)).to q), fun z => nomatch z⟩
  · have e : d = tup3 "BadMoves" := by rcases hm with ⟨e, _⟩ | ⟨_, e⟩; omega; exact e
    subst e
    exact ⟨false, xs.bt, (fun z => nomatch z), fun _ => ⟨true, xs.bb, fun _ a dd oe pn cg => sv_ret ((e_tup (a_cons e_str (a_cons (e_xfld xs.bm.xf (xs.bm.no "what" (by simp)) cg (e_v 3 rfl) rfl) (a_cons (e_isiX xs.bm.xc cg T.isi (e_v 3 rfl) (e_gref xs.tm.mgC) xs.kbt) a_nil))) (by simp)).to q), fun z => nomatch z⟩⟩
  · rcases hm with ⟨h, _⟩ | ⟨h, _⟩
    · exact .inl h
    · exact .inr h
theorem sc_on : FnScope ["many", "due", "told", "turn", "threads", "first"] ["many"] (defScope (top 23)) := ⟨rfl, rfl, rfl, by decide +kernel, rfl, by decide +kernel, by decide +kernel⟩
theorem ok_on (T : Tx K mg) (C1 : Fn P w K mg base 2 "_law_twos" 1 (Pu R_tw)) (C2 : Fn P w K mg base 5 "twos_due" 1 (S_td K)) (C3 : Fn P w K mg base 5 "twos_threads" 1 (S_tt K)) (C4 : Fn P w K mg base 1 "_law_are_threads" 2 (Pu R_at)) (C5 : Fn P w K mg base 1 "_law_all_met" 2 (Pu R_am))
    (F : Fun K "_law_one_number" "_law_one_number" (top 23) f fd) (hb : Binds K fd ["many"] []) : FnA P w K mg base 6 f 1 (Pu R_on) := by
  refine fna_mk F sc_on hb (by decide) fun cdv A outer s H E hr ds M Qa Ea hl hS => ?_
  obtain ⟨d, ⟨n, h1, h2, rfl, rfl⟩, rfl, q⟩ := hS
  have nd := sc_on.nd
  have db := due_b n
  have gd := good_of (good n (by omega) h1)
  refine sv_set 1 nd ((e_callP C1 (hr.mono (by decide)) (a_cons (e_v 0 rfl) a_nil) ⟨n, h1, h2, rfl, rfl⟩).to ?_)
  refine sv_set 2 nd (ev_call C2 hr ((a_cons (e_v 0 rfl) a_nil).to ⟨rfl, [], [], .refl _, n, rfl, rfl, fun h => absurd h (by omega), fun h => absurd h (by omega), fun _ _ => ⟨[], .refl _, ?_⟩⟩))
  rw [Int.toNat_natCast]
  refine sv_ifd (t_w (w_or' (t_not (t_val (e_isi T.isi (e_v 2 rfl) (e_bty T.int bb_i) rfl k_ii))) fun h => (w_or' (t_val (e_isi T.isi (e_v 2 rfl) (e_bty T.bool bb_b) rfl k_ib)) fun h => (w_one (t_cmp (e_v 2 rfl) (e_v 1 rfl) (by walk_at "NotEq")))))) (fun hc => by simp at hc) (fun _ => sv_nil ?_)
  refine sv_for (fun i G' M' => G' = [some (.int n), some (.int (due n)), some (.int (due n)), none, none, none] ∧ M' = []) (passes_of rfl) rfl (it_rngN 2 T.range e_int rfl (by omega)) ⟨rfl, rfl⟩ (fun i d G' M' hi inv => ?_) (fun G' M' inv => ?_)
  · obtain ⟨rfl, rfl⟩ := inv
    obtain ⟨hin, rfl⟩ := nats_at hi
    refine av_name 3 nd ?_
    refine sv_set 4 nd (ev_call C3 hr ((a_cons (e_v 0 rfl) a_nil).to ⟨rfl, [], [], .refl _, n, rfl, rfl, fun h => absurd h (by omega), fun h => absurd h (by omega), fun _ _ q0 qs hq => ⟨tabM (bT n n) qs q0, by rw [List.append_nil, Int.toNat_natCast], ?_⟩⟩))
    rw [Int.toNat_natCast] at hq
    have tl : (bT n n).length = due n := by
      have sh : ∀ i ≤ n, Shape n (bT n i) := fun i => by
        induction i with
        | zero => exact fun _ => shape0 n
        | succ i ih =>
          intro hi
          have := ih (by omega)
          obtain ⟨_, _, r3⟩ := rows_ok n (by omega) h1 i (by omega)
          show Shape n ((bRows n i).foldl (up i) (bT n i))
          generalize bRows n i = rs at r3
          generalize bT n i = tt at this
          induction rs generalizing tt with
          | nil => exact this
          | cons r rs ihr => exact ihr (fun x hx => r3 x (List.mem_cons_of_mem _ hx)) _ (this.up (r3 r (List.mem_cons_self ..)).1 (r3 r (List.mem_cons_self ..)).2)
      exact (sh n (Nat.le_refl _)).len
    have hM : (tabM (bT n n) qs q0)[(cells (bT n n) qs).length]? = some (q0, .lst (qs.map D.ref)) := by unfold tabM; simp
    have rz := tab_rz (q0 := q0) (hq.trans tl.symm)
    refine sv_ifd (t_w (w_or' (t_not (t_val (e_callL [.lst ((bT n n).map rowD), .lst (List.replicate n (.int 2))] C4 (hr.mono (by decide)) (a_cons (e_v 4 rfl) (a_cons (e_rep1 (e_lst (a_cons e_int a_nil) (by simp)) (e_v 0 rfl) (by omega)) a_nil)) (.cons rz (.cons (by rw [Int.toNat_natCast]; exact .same _) .nil)) ⟨bT n n, n, rfl, gd.len, by omega, fun r hr => ⟨(gd.rows r hr).1, fun x hx => by rcases (gd.rows r hr).2 x hx with e | e <;> rw [e] <;> decide⟩, rfl⟩))) fun h =>
      (w_or' (t_cmp (e_lenC _ hM T.len (e_v 4 rfl)) (e_v 1 rfl) (by walk_at "NotEq")) fun h =>
      (w_one (t_not (t_val (e_callL [.lst ((bT n n).map rowD), .int n] C5 (hr.mono (by decide)) (a_cons (e_v 4 rfl) (a_cons (e_v 0 rfl) a_nil)) (.cons rz (.cons (.same _) .nil)) ⟨bT n n, n, rfl, by omega, gd, rfl⟩))))))) (fun hc => ?_) (fun _ => sv_nil ?_)
    · simp [hq] at hc
    have q1 : 0 < qs.length := by omega
    have c1 : 0 < (bT n n).length := by omega
    have hC : (tabM (bT n n) qs q0)[0]? = some (qs[0], rowC ((bT n n)[0])) := by
      unfold tabM cells
      rw [List.getElem?_append_left (by simp; omega), List.getElem?_eq_getElem (by simp; omega)]
      simp
    have r1 : ((bT n n)[0]).length = n := (gd.rows _ (List.getElem_mem _)).1
    refine sv_set 5 nd ((e_ix (e_v 4 rfl) e_int (i_cell _ hM (at_nat (j := 0) rfl (by simp [q1] : (qs.map D.ref)[0]? = some (D.ref qs[0]))))).to ?_)
    refine sv_setItem (j := 0) 0 e_int (e_v 5 rfl) e_int hC (by rw [List.length_map, r1]; omega) ?_
    refine sv_expr (ev_pop (d := .ref (qs[qs.length - 1])) (cells (bT n n) qs).length (e_v 4 rfl) (by rw [List.getElem?_set_ne (by unfold cells; simp; omega)]; exact hM) (by simp [q1]) ?_)
    refine SV.none ?_
    exact sv_nil ⟨_, Le.cons (.inr rfl) (.cons (.inr rfl) (.cons (.inr rfl) (.cons (.inl rfl) (.cons (.inl rfl) (.cons (.inl rfl) .nil))))), rfl, rfl⟩
  · obtain ⟨rfl, rfl⟩ := inv
    exact sv_ret (e_bl.to q)
end
end K16

set_option Elab.async false
set_option linter.all false
set_option maxRecDepth 100000
set_option maxHeartbeats 4000000
namespace K16
open PySem PySem.Spec PyProof.Rows L2 ES
local macro_rules | `(tactic| walk_at "ES_SZ") => `(tactic| first | decide | omega | (simp only [List.length_cons, List.length_nil, List.length_append, List.length_map, List.length_replicate, List.length_range]; omega) | (simp; omega))
local macro_rules | `(tactic| walk_at "Add") => `(tactic| first | exact ES.bd_int0 L2.op_add | (refine ES.b_cat ?_ .is; walk_at "ES_SZ") | (refine ES.b_catT ?_; walk_at "ES_SZ"))
local macro_rules | `(tactic| walk_at "Sub") => `(tactic| exact ES.bd_int0 L2.op_sub)
local macro_rules | `(tactic| walk_at "Mult") => `(tactic| first | (refine ES.bd_int (g := fun i j => i * j) L2.op_mul (Or.inl ?_); constructor <;> omega) | (refine ES.bd_int (g := fun i j => i * j) L2.op_mul (Or.inr ?_); constructor <;> omega))
local macro_rules | `(tactic| walk_at "FloorDiv") => `(tactic| (refine ES.bd_int (g := fun i j => i / j) L2.op_fdiv ?_; constructor <;> omega))
local macro_rules | `(tactic| walk_at "Mod") => `(tactic| (refine ES.bd_int (g := fun i j => i % j) L2.op_mod ?_; omega))
local macro_rules | `(tactic| walk_at "Pow") => `(tactic| (refine ES.bd_int (g := fun i j => i ^ j.toNat) L2.op_pow ⟨?_, ?_, ?_⟩ <;> decide))
local macro_rules | `(tactic| walk_at "Lt") => `(tactic| exact ES.c_lt)
local macro_rules | `(tactic| walk_at "LtE") => `(tactic| exact ES.c_le)
local macro_rules | `(tactic| walk_at "Gt") => `(tactic| exact ES.c_gt)
local macro_rules | `(tactic| walk_at "GtE") => `(tactic| exact ES.c_ge)
local macro_rules | `(tactic| walk_at "Eq") => `(tactic| first | exact ES.c_eq | exact ES.c_eqS)
local macro_rules | `(tactic| walk_at "NotEq") => `(tactic| first | exact ES.c_ne | exact ES.c_neS)

def edgesL : List Int := [1, 2, 3, 4, 5, 10, 11, 15, 16, 35, 36, 40]
theorem edges_ok : ∀ i < 12, 1 ≤ edgesL.getD i 0 ∧ edgesL.getD i 0 ≤ 40 := by decide
theorem py3 (x : Str) : Py (tup3 x) (.tuple [.str x, .str "many", .bool false]) := .tup (.cons (.str _) (.cons (.str _) (.cons (.bl _) .nil)))
section
variable {P : Program} {w : World} {K : PySem.W.Frag} {mg : Str → Option Value} {base : Heap} {f : Addr} {fd : FuncData}
theorem sc_law : FnScope ["script", "purse", "edges", "numbers", "many", "great", "small", "asked"] ["script"] (defScope (top 24)) := ⟨rfl, rfl, rfl, by decide +kernel, rfl, by decide +kernel, by decide +kernel⟩
theorem ok_law {g1 g2 : Addr} (T : Tx K mg) (Cpu : Fn P w K mg base 1 "_law_purse" 2 S_purse) (Cdr : Fn P w K mg base 1 "_law_draw" 2 S_draw) (Con : Fn P w K mg base 6 "_law_one_number" 1 (Pu R_on)) (Cal : Fn P w K mg base 6 "_law_alone" 2 (Pu (R_al P w K mg base)))
    (m1 : mg "twos_due" = some (.ref g1)) (m2 : mg "twos_threads" = some (.ref g2)) (F1 : FnA P w K mg base 5 g1 1 (S_rf K)) (F2 : FnA P w K mg base 5 g2 1 (S_rf K)) (F : Fun K "law" "law" (top 24) f fd) : FnOk P w K mg base (L2.CX P w) 7 f fd ["script"] (spOf K 1 S_law) := by
  refine fnok_mk F sc_law (by decide) fun cdv A outer s H E hr ds M Qa Ea hl hS => ?_
  obtain ⟨ns, rfl, hlen, rfl, q⟩ := hS
  have nd := sc_law.nd
  have hr1 := hr.mono (show 1 ≤ 6 by decide)
  refine sv_set 1 nd (ev_call Cpu hr1 ((a_cons (e_v 0 rfl) (a_cons e_int a_nil)).to ⟨rfl, [], [], .refl _, ns, 0, rfl, by decide, by decide, rfl, fun p M0 pu0 => ⟨M0, by rw [List.append_nil], ?_⟩⟩))
  refine sv_setd 2 (.lst (edgesL.map D.int)) nd (e_lst (a_cons e_int (a_cons e_int (a_cons e_int (a_cons e_int (a_cons e_int (a_cons e_int (a_cons e_int (a_cons e_int (a_cons e_int (a_cons e_int (a_cons e_int (a_cons e_int a_nil)))))))))))) (by simp)) rfl ?_
  refine sv_set 3 nd (ev_lstE (ea_cons (ev_bin (e_int.to (ev_draw Cdr hr1 (a_cons (e_v 1 rfl) (a_cons e_int a_nil)) pu0 (by decide) (by decide) fun r1 M1 a1 b1 pu1 => (bd_int0 op_add).to
    (ea_cons (ev_bin (e_int.to (ev_draw Cdr hr1 (a_cons (e_v 1 rfl) (a_cons e_int a_nil)) pu1 (by decide) (by decide) fun r2 M2 a2 b2 pu2 => (bd_int0 op_add).to
    (ea_cons (ev_ix ((e_v 2 rfl).to (ev_draw Cdr hr1 (a_cons (e_v 1 rfl) (a_cons e_int a_nil)) pu2 (by decide) (by decide) fun r3 M3 a3 b3 pu3 => ⟨r3, .int (edgesL.getD r3.toNat 0), rfl, i_lst (at_nat (j := r3.toNat) (by omega) (get_ints (by show r3.toNat < 12; omega))), ea_nil ⟨by simp, .inl ?_⟩⟩)))))))))))))
  have eo := edges_ok r3.toNat (by omega)
  have hv : ∀ v ∈ [1 + r1, 1 + r2, edgesL.getD r3.toNat 0], 1 ≤ v ∧ v ≤ (40 : Int) := by
    intro v hv
    simp only [List.mem_cons, List.not_mem_nil, or_false] at hv
    rcases hv with e | e | e <;> rw [e] <;> first | exact eo | omega
  generalize hvs : [1 + r1, 1 + r2, edgesL.getD r3.toNat 0] = vs at hv
  have e3 : ([.int (1 + r1), .int (1 + r2), .int (edgesL.getD r3.toNat 0)] : List D) = vs.map D.int := by rw [← hvs]; rfl
  rw [e3]
  refine sv_for (fun i G' M' => G' = [some (.scr ns), some (.ref p), some (.lst (edgesL.map D.int)), some (.lst (vs.map D.int)), none, none, none, none] ∧ M' = M3) (passes_of rfl) rfl (it_list (e_v 3 rfl)) ⟨rfl, rfl⟩ (fun i d G' M' hi inv => ?_) (fun G' M' inv => ?_)
  · obtain ⟨rfl, eM⟩ := inv; rw [eM]
    rw [List.getElem?_map] at hi
    cases hv0 : vs[i]? with
    | none => rw [hv0] at hi; cases hi
    | some v =>
      rw [hv0] at hi
      have hi : D.int v = d := Option.some.inj hi
      subst hi
      obtain ⟨v1, v2⟩ := hv v (List.mem_of_getElem? hv0)
      refine av_name 4 nd ?_
      refine sv_ifd (t_not (t_val (e_callP Con hr (a_cons (e_v 4 rfl) a_nil) ⟨v.toNat, by omega, by omega, by rw [Int.toNat_of_nonneg (by omega)], rfl⟩))) (fun hc => by cases hc) (fun _ => sv_nil ?_)
      exact sv_nil ⟨_, Le.cons (.inr rfl) (.cons (.inr rfl) (.cons (.inr rfl) (.cons (.inr rfl) (.cons (.inl rfl) (.cons (.inr rfl) (.cons (.inr rfl) (.cons (.inr rfl) .nil))))))), rfl, rfl⟩
  obtain ⟨rfl, eM⟩ := inv; rw [eM]
  refine sv_set 5 nd (ev_bin (e_int.to (ev_draw Cdr hr1 (a_cons (e_v 1 rfl) (a_cons (e_bin e_int e_int (by walk_at "Pow")) a_nil)) pu3 (by decide +kernel) (by decide +kernel) fun r4 M4 a4 b4 pu4 => (bd_int0 op_add).to ?_)))
  refine sv_set 6 nd (ev_bin (e_int.to (ev_draw Cdr hr1 (a_cons (e_v 1 rfl) (a_cons (e_bin e_int e_int (by walk_at "Pow")) a_nil)) pu4 (by decide +kernel) (by decide +kernel) fun r5 M5 a5 b5 pu5 => (bd_int0 op_sub).to ?_)))
  clear b4 b5
  generalize hg : (41 : Int) + r4 = great
  generalize hs : (0 : Int) - r5 = small
  have hg : 40 < great := by omega
  have hs : small < 1 := by omega
  refine sv_for (fun i G' M' => G' = [some (.scr ns), some (.ref p), some (.lst (edgesL.map D.int)), some (.lst (vs.map D.int)), none, some (.int great), some (.int small), none] ∧ M' = M5) (passes_of rfl) rfl (it_tup (e_tup (a_cons (e_gref m1) (a_cons (e_gref m2) a_nil)) (by simp))) ⟨rfl, rfl⟩ (fun i d G' M' hi inv => ?_) (fun G' M' inv => ?_)
  · obtain ⟨rfl, eM⟩ := inv; rw [eM]
    have hd : ∃ fa, d = .ref fa ∧ FnA P w K mg base 5 fa 1 (S_rf K) := by
      rcases i with _ | _ | i
      · exact ⟨g1, (Option.some.inj hi).symm, F1⟩
      · exact ⟨g2, (Option.some.inj hi).symm, F2⟩
      · simp at hi
    obtain ⟨fa, rfl, hF⟩ := hd
    refine av_name 7 nd ?_
    refine sv_for (fun i G' M' => G' = [some (.scr ns), some (.ref p), some (.lst (edgesL.map D.int)), some (.lst (vs.map D.int)), none, some (.int great), some (.int small), some (.ref fa)] ∧ M' = M5) (passes_of rfl) rfl (it_tup (e_tup (a_cons e_int (a_cons (e_v 5 rfl) a_nil)) (by simp))) ⟨rfl, rfl⟩ (fun i d G' M' hi inv => ?_) (fun G' M' inv => ?_)
    · obtain ⟨rfl, eM⟩ := inv; rw [eM]
      have hd : ∃ v : Int, d = .int v ∧ 40 < v := by
        rcases i with _ | _ | i
        · exact ⟨41, (Option.some.inj hi).symm, by decide⟩
        · exact ⟨great, (Option.some.inj hi).symm, hg⟩
        · simp at hi
      obtain ⟨v, rfl, hv4⟩ := hd
      refine av_name 4 nd ?_
      refine sv_ifd (t_cmp (e_callP Cal hr (a_cons (e_v 7 rfl) (a_cons (e_v 4 rfl) a_nil)) ⟨fa, v, rfl, hF, .inl ⟨hv4, rfl⟩⟩) (e_tup (a_cons e_str (a_cons e_str (a_cons e_bl a_nil))) (by simp)) (c_neD hr.units (py3 "TooMany") (py3 "TooMany") (by decide +kernel) (by decide +kernel))) (fun hc => absurd hc (by decide +kernel)) (fun _ => sv_nil ?_)
      exact sv_nil ⟨_, Le.cons (.inr rfl) (.cons (.inr rfl) (.cons (.inr rfl) (.cons (.inr rfl) (.cons (.inl rfl) (.cons (.inr rfl) (.cons (.inr rfl) (.cons (.inr rfl) .nil))))))), rfl, rfl⟩
    obtain ⟨rfl, eM⟩ := inv; rw [eM]
    refine sv_for (fun i G' M' => G' = [some (.scr ns), some (.ref p), some (.lst (edgesL.map D.int)), some (.lst (vs.map D.int)), none, some (.int great), some (.int small), some (.ref fa)] ∧ M' = M5) (passes_of rfl) rfl (it_tup (e_tup (a_cons e_int (a_cons (e_v 6 rfl) a_nil)) (by simp))) ⟨rfl, rfl⟩ (fun i d G' M' hi inv => ?_) (fun G' M' inv => ?_)
    · obtain ⟨rfl, eM⟩ := inv; rw [eM]
      have hd : ∃ v : Int, d = .int v ∧ v < 1 := by
        rcases i with _ | _ | i
        · exact ⟨0, (Option.some.inj hi).symm, by decide⟩
        · exact ⟨small, (Option.some.inj hi).symm, hs⟩
        · simp at hi
      obtain ⟨v, rfl, hv4⟩ := hd
      refine av_name 4 nd ?_
      refine sv_ifd (t_cmp (e_callP Cal hr (a_cons (e_v 7 rfl) (a_cons (e_v 4 rfl) a_nil)) ⟨fa, v, rfl, hF, .inr ⟨hv4, rfl⟩⟩) (e_tup (a_cons e_str (a_cons e_str (a_cons e_bl a_nil))) (by simp)) (c_neD hr.units (py3 "BadMoves") (py3 "BadMoves") (by decide +kernel) (by decide +kernel))) (fun hc => absurd hc (by decide +kernel)) (fun _ => sv_nil ?_)
      exact sv_nil ⟨_, Le.cons (.inr rfl) (.cons (.inr rfl) (.cons (.inr rfl) (.cons (.inr rfl) (.cons (.inl rfl) (.cons (.inr rfl) (.cons (.inr rfl) (.cons (.inr rfl) .nil))))))), rfl, rfl⟩
    · obtain ⟨rfl, eM⟩ := inv; rw [eM]
      exact sv_nil ⟨_, Le.cons (.inr rfl) (.cons (.inr rfl) (.cons (.inr rfl) (.cons (.inr rfl) (.cons (.inr rfl) (.cons (.inr rfl) (.cons (.inr rfl) (.cons (.inl rfl) .nil))))))), rfl, rfl⟩
  · obtain ⟨rfl, eM⟩ := inv; rw [eM]
    exact sv_ret (e_bl.to (q _))
end
end K16

set_option Elab.async false
set_option linter.all false
set_option maxRecDepth 100000
set_option maxHeartbeats 4000000
namespace K16
open PySem PySem.Spec PyProof.Rows L2 ES
local macro_rules | `(tactic| walk_at "ES_SZ") => `(tactic| first | decide | omega | (simp only [List.length_cons, List.length_nil, List.length_append, List.length_map, List.length_replicate, List.length_range]; omega) | (simp; omega))
local macro_rules | `(tactic| walk_at "Add") => `(tactic| first | exact ES.bd_int0 L2.op_add | (refine ES.b_cat ?_ .is; walk_at "ES_SZ") | (refine ES.b_catT ?_; walk_at "ES_SZ"))
local macro_rules | `(tactic| walk_at "Sub") => `(tactic| exact ES.bd_int0 L2.op_sub)
local macro_rules | `(tactic| walk_at "Mult") => `(tactic| first | (refine ES.bd_int (g := fun i j => i * j) L2.op_mul (Or.inl ?_); constructor <;> omega) | (refine ES.bd_int (g := fun i j => i * j) L2.op_mul (Or.inr ?_); constructor <;> omega))
local macro_rules | `(tactic| walk_at "FloorDiv") => `(tactic| (refine ES.bd_int (g := fun i j => i / j) L2.op_fdiv ?_; constructor <;> omega))
local macro_rules | `(tactic| walk_at "Mod") => `(tactic| (refine ES.bd_int (g := fun i j => i % j) L2.op_mod ?_; omega))
local macro_rules | `(tactic| walk_at "Pow") => `(tactic| (refine ES.bd_int (g := fun i j => i ^ j.toNat) L2.op_pow ⟨?_, ?_, ?_⟩ <;> decide))
local macro_rules | `(tactic| walk_at "Lt") => `(tactic| exact ES.c_lt)
local macro_rules | `(tactic| walk_at "LtE") => `(tactic| exact ES.c_le)
local macro_rules | `(tactic| walk_at "Gt") => `(tactic| exact ES.c_gt)
local macro_rules | `(tactic| walk_at "GtE") => `(tactic| exact ES.c_ge)
local macro_rules | `(tactic| walk_at "Eq") => `(tactic| first | exact ES.c_eq | exact ES.c_eqS)
local macro_rules | `(tactic| walk_at "NotEq") => `(tactic| first | exact ES.c_ne | exact ES.c_neS)

section
variable {P : Program} {w : World} {K : PySem.W.Frag} {mg : Str → Option Value} {base : Heap} {f : Addr} {fd : FuncData}
theorem sc_i2 : FnScope ["self", "what"] ["self", "what"] (defScope (inClass (top 2) 0)) := ⟨rfl, rfl, rfl, by decide +kernel, rfl, by decide +kernel, by decide +kernel⟩
theorem sc_i3 : FnScope ["self", "what"] ["self", "what"] (defScope (inClass (top 3) 0)) := ⟨rfl, rfl, rfl, by decide +kernel, rfl, by decide +kernel, by decide +kernel⟩
theorem ok_i2 (B : BaseC K mg "WrittenError" (He.ga K "WrittenError")) (e : Exn K mg "TooMany" ["what"]) (F : Fun K "__init__" "TooMany.__init__" (inClass (top 2) 0) f fd) : FnOk P w K mg base CX0 1 f fd ["self", "what"] (spXI (TM K) ["what"]) :=
  xinit F sc_i2 rfl e.ox fun cdv A outer s H0 E => ⟨_, _, pss_cons (ps_expr (pe_winit B (pa_cons (pv 0) (pa_cons (pe_joined (.cons pe_str (.cons (pe_fmt (pv 1)) .nil))) pa_nil)))) (pss_one (ps_ost (pv 0) (pv 1))), by simp, fun a ws H Q D0 hd hl hok ha q => by
    match ws, hl with
    | [v], _ =>
      have hv : okV v = true := by simpa using hok
      refine ⟨rfl, fun t ht => ?_, xs1 e.ox (e.no "what" (by simp)) ha rfl rfl hd q⟩
      simp only [List.mem_cons, List.not_mem_nil, or_false] at ht
      rcases ht with rfl | rfl
      · exact pb_c (by decide)
      · exact pb_v rfl hv⟩
theorem ok_i3 (B : BaseC K mg "WrittenError" (He.ga K "WrittenError")) (e : Exn K mg "BadMoves" ["what"]) (F : Fun K "__init__" "BadMoves.__init__" (inClass (top 3) 0) f fd) : FnOk P w K mg base CX0 1 f fd ["self", "what"] (spXI (BM K) ["what"]) :=
  xinit F sc_i3 rfl e.ox fun cdv A outer s H0 E => ⟨_, _, pss_cons (ps_expr (pe_winit B (pa_cons (pv 0) (pa_cons (pe_joined (.cons pe_str (.cons (pe_fmt (pv 1)) .nil))) pa_nil)))) (pss_one (ps_ost (pv 0) (pv 1))), by simp, fun a ws H Q D0 hd hl hok ha q => by
    match ws, hl with
    | [v], _ =>
      have hv : okV v = true := by simpa using hok
      refine ⟨rfl, fun t ht => ?_, xs1 e.ox (e.no "what" (by simp)) ha rfl rfl hd q⟩
      simp only [List.mem_cons, List.not_mem_nil, or_false] at ht
      rcases ht with rfl | rfl
      · exact pb_c (by decide)
      · exact pb_v rfl hv⟩
end
theorem all_ {P : Program} {w : World} {K : PySem.W.Frag} {h : Heap} {mg : Str → Option Value} {fa : Addr} (X : K.In h) (G : h.Ns mainGlobals mg) (hfa : mg ("law" : Str) = some (.ref fa)) (c : SaysP tests defs K) :
    ∃ fd : FuncData, (∀ (s : Shared) (u : Value), BindsTo s fd ⟨[u], []⟩ [("script", u)]) ∧ ∀ base : Heap, K.In base → base.Ns mainGlobals mg → FnOk P w K mg base (L2.CX P w) 7 fa fd ["script"] (spOf K 1 S_law) := by
  have e := hfa.symm.trans (glo_of X G (c.fact 20 (p := gloB "law") rfl))
  cases e
  obtain ⟨fdL, FL⟩ := c.def_ 18 (d := dD ("law", none) "law" "law" (top 24)) rfl
  have b := FunD.bindsA (ps := ["script"]) FL fun _ _ _ _ _ _ us hl => match us, hl with | [_], _ => rfl
  refine ⟨fdL, fun s u => b s [u] rfl, fun base _ _ => ?_⟩
  have gl : ∀ {i : Nat} {x : Str}, tests[i]? = some (gloB x) → mg x = some (.ref (He.ga K x)) := fun {i x} h => glo_of X G (c.fact i h)
  have fr : ∀ {i : Nat} {x : Str}, tests[i]? = some (freeB x) → mg x = none := fun {i x} h => free_of X G (c.fact i h)
  have T : Tx K mg := ⟨fr (i := 28) rfl, fr (i := 26) rfl, fr (i := 22) rfl, fr (i := 24) rfl, fr (i := 23) rfl, fr (i := 27) rfl, fr (i := 29) rfl, fr (i := 25) rfl, int_of X G (c.fact 3 (p := intB "MANY" 40) rfl)⟩
  have B := base_of X G (c.fact 0 (p := baseB "WrittenError") rfl)
  have tm := exn_of X G (c.fact 1 (p := exnB "TooMany" ["what"]) rfl)
  have bm := exn_of X G (c.fact 2 (p := exnB "BadMoves" ["what"]) rfl)
  have xs : Xs K mg := ⟨tm, bm, exm_of (c.fact 30 (p := exmB "TooMany" "TooMany" true) rfl), exm_of (c.fact 31 (p := exmB "BadMoves" "TooMany" false) rfl), exm_of (c.fact 33 (p := exmB "BadMoves" "BadMoves" true) rfl), kit_of (c.fact 34 (p := kitB2 "TooMany" "BadMoves" false) rfl), kit_of (c.fact 37 (p := kitB2 "BadMoves" "TooMany" false) rfl)⟩
  obtain ⟨fd0, F0⟩ := c.fn_ 0 (p := ("TooMany", some "__init__")) (x := "__init__") (qual := "TooMany.__init__") (st := inClass (top 2) 0) rfl
  obtain ⟨fd1, F1⟩ := c.fn_ 1 (p := ("BadMoves", some "__init__")) (x := "__init__") (qual := "BadMoves.__init__") (st := inClass (top 3) 0) rfl
  have XT : XC P w K mg base 1 "TooMany" ["what"] (TM K) := tm.xc_ (ok_i2 B tm F0) (F0.binds fun _ _ _ _ _ _ us hl => match us, hl with | [_, _], _ => rfl)
  have XB : XC P w K mg base 1 "BadMoves" ["what"] (BM K) := bm.xc_ (ok_i3 B bm F1) (F1.binds fun _ _ _ _ _ _ us hl => match us, hl with | [_, _], _ => rfl)
  obtain ⟨fd2, F2⟩ := c.fn_ 2 (p := ("check_most", none)) (x := "check_most") (qual := "check_most") (st := top 6) rfl
  obtain ⟨fd3, F3⟩ := c.fn_ 3 (p := ("check_twos", none)) (x := "check_twos") (qual := "check_twos") (st := top 8) rfl
  obtain ⟨fd4, F4⟩ := c.fn_ 4 (p := ("choices", none)) (x := "choices") (qual := "choices") (st := top 9) rfl
  obtain ⟨fd5, F5⟩ := c.fn_ 5 (p := ("least_twos", none)) (x := "least_twos") (qual := "least_twos") (st := top 10) rfl
  obtain ⟨fd6, F6⟩ := c.fn_ 6 (p := ("twos_due", none)) (x := "twos_due") (qual := "twos_due") (st := top 11) rfl
  obtain ⟨fd7, F7⟩ := c.fn_ 7 (p := ("next_rows", none)) (x := "next_rows") (qual := "next_rows") (st := top 12) rfl
  obtain ⟨fd8, F8⟩ := c.fn_ 8 (p := ("build_twos", none)) (x := "build_twos") (qual := "build_twos") (st := top 13) rfl
  obtain ⟨fd9, F9⟩ := c.fn_ 9 (p := ("twos_threads", none)) (x := "twos_threads") (qual := "twos_threads") (st := top 14) rfl
  obtain ⟨fd10, F10⟩ := c.fn_ 10 (p := ("_law_purse", none)) (x := "_law_purse") (qual := "_law_purse") (st := top 16) rfl
  obtain ⟨fd11, F11⟩ := c.fn_ 11 (p := ("_law_draw", none)) (x := "_law_draw") (qual := "_law_draw") (st := top 17) rfl
  obtain ⟨fd12, F12⟩ := c.fn_ 12 (p := ("_law_are_threads", none)) (x := "_law_are_threads") (qual := "_law_are_threads") (st := top 18) rfl
  obtain ⟨fd13, F13⟩ := c.fn_ 13 (p := ("_law_pascal", none)) (x := "_law_pascal") (qual := "_law_pascal") (st := top 19) rfl
  obtain ⟨fd14, F14⟩ := c.fn_ 14 (p := ("_law_twos", none)) (x := "_law_twos") (qual := "_law_twos") (st := top 20) rfl
  obtain ⟨fd15, F15⟩ := c.fn_ 15 (p := ("_law_alone", none)) (x := "_law_alone") (qual := "_law_alone") (st := top 21) rfl
  obtain ⟨fd16, F16⟩ := c.fn_ 16 (p := ("_law_all_met", none)) (x := "_law_all_met") (qual := "_law_all_met") (st := top 22) rfl
  obtain ⟨fd17, F17⟩ := c.fn_ 17 (p := ("_law_one_number", none)) (x := "_law_one_number") (qual := "_law_one_number") (st := top 23) rfl
  have C2 : Fn P w K mg base 3 "check_most" 3 (S_cm K) := .mk' (gl (i := 4) rfl) (ok_cm XT F2 (F2.binds fun _ _ _ _ _ _ us hl => match us, hl with | [_, _, _], _ => rfl))
  have C3 : Fn P w K mg base 4 "check_twos" 1 (S_ct K) := .mk' (gl (i := 5) rfl) (ok_ct T XB C2 F3 (F3.binds fun _ _ _ _ _ _ us hl => match us, hl with | [_], _ => rfl))
  have C4 : Fn P w K mg base 1 "choices" 2 (Pu R_ch) := .mk' (gl (i := 6) rfl) (ok_ch T F4 (F4.binds fun _ _ _ _ _ _ us hl => match us, hl with | [_, _], _ => rfl))
  have C5 : Fn P w K mg base 2 "least_twos" 1 (Pu R_lt) := .mk' (gl (i := 7) rfl) (ok_lt C4 F5 (F5.binds fun _ _ _ _ _ _ us hl => match us, hl with | [_], _ => rfl))
  have A6 := ok_td C3 C5 F6 (F6.binds fun _ _ _ _ _ _ us hl => match us, hl with | [_], _ => rfl)
  have C6 : Fn P w K mg base 5 "twos_due" 1 (S_td K) := .mk' (gl (i := 8) rfl) A6
  have C7 : Fn P w K mg base 1 "next_rows" 2 (Pu R_nr) := .mk' (gl (i := 9) rfl) (ok_nr T F7 (F7.binds fun _ _ _ _ _ _ us hl => match us, hl with | [_, _], _ => rfl))
  have C8 : Fn P w K mg base 3 "build_twos" 1 S_bt := .mk' (gl (i := 10) rfl) (ok_bt T C5 C7 F8 (F8.binds fun _ _ _ _ _ _ us hl => match us, hl with | [_], _ => rfl))
  have A9 := ok_tt C3 C8 F9 (F9.binds fun _ _ _ _ _ _ us hl => match us, hl with | [_], _ => rfl)
  have C9 : Fn P w K mg base 5 "twos_threads" 1 (S_tt K) := .mk' (gl (i := 11) rfl) A9
  have C10 : Fn P w K mg base 1 "_law_purse" 2 S_purse := .mk' (gl (i := 12) rfl) (ok_pu T F10 (F10.binds fun _ _ _ _ _ _ us hl => match us, hl with | [_, _], _ => rfl))
  have C11 : Fn P w K mg base 1 "_law_draw" 2 S_draw := .mk' (gl (i := 13) rfl) (ok_dr T F11 (F11.binds fun _ _ _ _ _ _ us hl => match us, hl with | [_, _], _ => rfl))
  have C12 : Fn P w K mg base 1 "_law_are_threads" 2 (Pu R_at) := .mk' (gl (i := 14) rfl) (ok_at T F12 (F12.binds fun _ _ _ _ _ _ us hl => match us, hl with | [_, _], _ => rfl))
  have C13 : Fn P w K mg base 1 "_law_pascal" 2 (Pu R_pa) := .mk' (gl (i := 15) rfl) (ok_pa T F13 (F13.binds fun _ _ _ _ _ _ us hl => match us, hl with | [_, _], _ => rfl))
  have C14 : Fn P w K mg base 2 "_law_twos" 1 (Pu R_tw) := .mk' (gl (i := 16) rfl) (ok_tw T C13 F14 (F14.binds fun _ _ _ _ _ _ us hl => match us, hl with | [_], _ => rfl))
  have C15 : Fn P w K mg base 6 "_law_alone" 2 (Pu (R_al P w K mg base)) := .mk' (gl (i := 17) rfl) (ok_al T xs F15 (F15.binds fun _ _ _ _ _ _ us hl => match us, hl with | [_, _], _ => rfl))
  have C16 : Fn P w K mg base 1 "_law_all_met" 2 (Pu R_am) := .mk' (gl (i := 18) rfl) (ok_am T F16 (F16.binds fun _ _ _ _ _ _ us hl => match us, hl with | [_, _], _ => rfl))
  have C17 : Fn P w K mg base 6 "_law_one_number" 1 (Pu R_on) := .mk' (gl (i := 19) rfl) (ok_on T C14 C6 C9 C12 C16 F17 (F17.binds fun _ _ _ _ _ _ us hl => match us, hl with | [_], _ => rfl))
  refine ok_law T C10 C11 C17 C15 (gl (i := 8) rfl) (gl (i := 11) rfl) (A6.imp fun ds M Q E h => ?_) (A9.imp fun ds M Q E h => ?_) (fun_of FL)
  · obtain ⟨m, e1, e2, h1, h2, h3⟩ := h
    exact ⟨m, e1, e2, h1, h2, fun g1 g2 => absurd h3 (by omega)⟩
  · obtain ⟨m, e1, e2, h1, h2, h3⟩ := h
    exact ⟨m, e1, e2, h1, h2, fun g1 g2 => absurd h3 (by omega)⟩
end K16
open PySem PySem.W PySem.Calls PyProof.Rows
set_option maxRecDepth 100000 in
set_option maxHeartbeats 0 in
theorem PySem.Challenge.cw_stillwritten_k16_arrays_of_twos_holds : PySem.Challenge.rw_stillwritten_k16_arrays_of_twos.Holds := by
  w_on; o_law
  refine HandSHeadRun.head_any (r := K16.R) (q := view K16.R.prog [24]) (H := K16.hk) (ob := K16.ob) (M := 4000) (loose := K16.loose) (d := HandSHeadRun.topDef K16.R.prog 24) (kwd := []) K16.ob_eq
    (by kernel_rfl) (fun s => by kernel_rfl) K16.run (by kernel_rfl) (by kernel_rfl) (by kernel_rfl) (by rfl) (by first | assumption | decide +kernel) (by decide +kernel) ⟨rfl, rfl, rfl, rfl, rfl, by decide +kernel⟩ ?hw ?hc
  case hw => w_witness2
  case hc =>
    refine ES.walk_X (l := PySem.Challenge.rw_stillwritten_k16_arrays_of_twos) (k := 7) rfl (by kernel_rfl) ⟨rfl, by decide, by decide⟩ ?F
    intro w mg fa h Y G hmg0
    obtain ⟨K, KX, c⟩ := Y
    have hmg : mg ("law" : PySem.Str) = some (.ref fa) := by
      have e : (HandSHeadRun.topDef K16.R.prog 24).name = ("law" : PySem.Str) := by kernel_rfl
      rw [← e]
      exact hmg0
    exact ⟨K, KX, K16.all_ KX G hmg c⟩
