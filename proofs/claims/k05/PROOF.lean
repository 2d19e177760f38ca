import PyProof.Rows.All
import Wide.All
import OpenK.AllK
import Wide.FinOn
import HandS.ForMost
import HandS.Wide
import HandS.IsInst
import HandS.TupAny
import HandS.Deep
import HandS.Star
import HandS.Style
import HandS.Zip
import KE.GoesEnum
import PySem.Challenge.RW_worthmaps_k05_whole_tasks
set_option Elab.async false
set_option linter.all false
set_option maxRecDepth 100000
set_option maxHeartbeats 1000000
/-! The abstract machine over the hand layer: frozen data (Rep), mutable lists and instances (Mu), big steps (Ev, Tri). -/
namespace WM
open PySem L2 StX

/-! ### data in a heap -/
mutual
inductive Rep (H : Hp) : V → PyData → Prop
  | non : Rep H .non .none
  | bl (b : Bool) : Rep H (.bl b) (.bool b)
  | int (i : Int) : Rep H (.int i) (.int i)
  | str (x : Str) : Rep H (.str x) (.str x)
  | lst {a : Addr} {vs : List V} {ds : List PyData} : H a = some (.lst vs) → Reps H vs ds → Rep H (.ref a) (.list ds)
  | tup {a : Addr} {vs : List V} {ds : List PyData} : H a = some (.tup vs) → Reps H vs ds → Rep H (.ref a) (.tuple ds)
inductive Reps (H : Hp) : List V → List PyData → Prop
  | nil : Reps H [] []
  | cons {v : V} {vs : List V} {d : PyData} {ds : List PyData} : Rep H v d → Reps H vs ds → Reps H (v :: vs) (d :: ds)
end

def Sub (F H : Hp) : Prop := ∀ a o, F a = some o → H a = some o
theorem Sub.refl (H : Hp) : Sub H H := fun _ _ h => h
theorem Sub.trans {A B C : Hp} (x : Sub A B) (y : Sub B C) : Sub A C := fun a o h => y a o (x a o h)

mutual
theorem Rep.mono {F F' : Hp} (e : Sub F F') : ∀ {v : V} {d : PyData}, Rep F v d → Rep F' v d
  | _, _, .non => .non
  | _, _, .bl b => .bl b
  | _, _, .int i => .int i
  | _, _, .str x => .str x
  | _, _, .lst h r => .lst (e _ _ h) (Reps.mono e r)
  | _, _, .tup h r => .tup (e _ _ h) (Reps.mono e r)
theorem Reps.mono {F F' : Hp} (e : Sub F F') : ∀ {vs : List V} {ds : List PyData}, Reps F vs ds → Reps F' vs ds
  | _, _, .nil => .nil
  | _, _, .cons h r => .cons (Rep.mono e h) (Reps.mono e r)
end
theorem Reps.length {F : Hp} : ∀ {vs : List V} {ds : List PyData}, Reps F vs ds → vs.length = ds.length
  | _, _, .nil => rfl
  | _, _, .cons _ r => by rw [List.length_cons, List.length_cons, Reps.length r]
theorem Reps.get {F : Hp} : ∀ {vs : List V} {ds : List PyData} {i : Nat} {d : PyData}, Reps F vs ds → ds[i]? = some d → ∃ v, vs[i]? = some v ∧ Rep F v d
  | _, _, _, _, .nil, h => by simp at h
  | _, _, 0, _, .cons h _, e => by
    rw [List.getElem?_cons_zero] at e
    cases e
    exact ⟨_, rfl, h⟩
  | _, _, i + 1, d, .cons _ r, e => by
    rw [List.getElem?_cons_succ] at e
    obtain ⟨v, h1, h2⟩ := Reps.get (i := i) (d := d) r e
    exact ⟨v, by rw [List.getElem?_cons_succ]; exact h1, h2⟩
theorem Reps.append {F : Hp} : ∀ {vs ws : List V} {ds es : List PyData}, Reps F vs ds → Reps F ws es → Reps F (vs ++ ws) (ds ++ es)
  | _, _, _, _, .nil, r => r
  | _, _, _, _, .cons h t, r => .cons h (Reps.append t r)
theorem Reps.drop {F : Hp} : ∀ {vs : List V} {ds : List PyData} (n : Nat), Reps F vs ds → Reps F (vs.drop n) (ds.drop n)
  | _, _, 0, r => r
  | _, _, _ + 1, .nil => .nil
  | _, _, n + 1, .cons _ t => Reps.drop n t
theorem Reps.take {F : Hp} : ∀ {vs : List V} {ds : List PyData} (n : Nat), Reps F vs ds → Reps F (vs.take n) (ds.take n)
  | _, _, 0, _ => .nil
  | _, _, _ + 1, .nil => .nil
  | _, _, n + 1, .cons h t => .cons h (Reps.take n t)
theorem Reps.rep {F : Hp} {vs : List V} {ds : List PyData} (r : Reps F vs ds) : ∀ n : Nat, Reps F (List.replicate n vs).flatten (List.replicate n ds).flatten
  | 0 => .nil
  | n + 1 => by
    rw [List.replicate_succ, List.replicate_succ, List.flatten_cons, List.flatten_cons]
    exact Reps.append r (Reps.rep r n)
mutual
theorem Rep.dp {K : PySem.W.Frag} {F : Hp} : ∀ {v : V} {d : PyData}, Rep F v d → Dp K F v d
  | _, _, .non => .non
  | _, _, .bl b => .bl b
  | _, _, .int i => .int i
  | _, _, .str x => .str x
  | _, _, .lst h r => .lst (.inl (.inl h)) (Reps.dp r)
  | _, _, .tup h r => .tup (.inl (.inl h)) (Reps.dp r)
theorem Reps.dp {K : PySem.W.Frag} {F : Hp} : ∀ {vs : List V} {ds : List PyData}, Reps F vs ds → DpAll K F vs ds
  | _, _, .nil => .nil
  | _, _, .cons h r => .cons (Rep.dp h) (Reps.dp r)
end
theorem Reps.ints {F : Hp} : ∀ {ns : List Int} {vs : List V}, Reps F vs (ns.map PyData.int) → vs = ns.map V.int
  | [], _, .nil => rfl
  | n :: ns, _, .cons h r => by
    cases h
    rw [Reps.ints r]
    rfl
theorem Reps.bools {F : Hp} : ∀ {ns : List Bool} {vs : List V}, Reps F vs (ns.map PyData.bool) → vs = ns.map V.bl
  | [], _, .nil => rfl
  | n :: ns, _, .cons h r => by
    cases h
    rw [Reps.bools r]
    rfl
theorem Rep.at_lst {F : Hp} {v : V} {ds : List PyData} (h : Rep F v (.list ds)) : ∃ a vs, v = .ref a ∧ F a = some (.lst vs) ∧ Reps F vs ds := by
  cases h with
  | lst h r => exact ⟨_, _, rfl, h, r⟩
theorem Rep.at_tup {F : Hp} {v : V} {ds : List PyData} (h : Rep F v (.tuple ds)) : ∃ a vs, v = .ref a ∧ F a = some (.tup vs) ∧ Reps F vs ds := by
  cases h with
  | tup h r => exact ⟨_, _, rfl, h, r⟩

/-! ### slots, mutable objects -/
inductive Slot where
  | un | im (d : PyData) | mr (a : Addr) | sc (ns : List Int)
inductive MO where
  | lst (xs : List Slot) | ins (C : Addr) (fs : List (Str × Slot))
abbrev Mu := List (Addr × MO)
abbrev keys (μ : Mu) : List Addr := μ.map (·.1)
abbrev DEnv := List Slot

def SlotOk (K : PySem.W.Frag) (F : Hp) (v : V) : Slot → Prop
  | .un => True
  | .im d => Rep F v d
  | .mr a => v = .ref a
  | .sc ns => ∃ a, v = .ref a ∧ SqL K F a (ns.map V.int)
theorem rd_mono {F F' : Hp} {a : Addr} {u : HO} (e : Sub F F') (h : Rd F a u) : Rd F' a u := by
  rcases h with h | ⟨o, h⟩
  · exact .inl (e _ _ h)
  · exact .inr ⟨o, e _ _ h⟩
theorem sql_mono {K : PySem.W.Frag} {F F' : Hp} {a : Addr} {xs : List V} (e : Sub F F') (h : SqL K F a xs) : SqL K F' a xs := by
  rcases h with h | h
  · exact .inl (rd_mono e h)
  · exact .inr h
theorem SlotOk.mono {K : PySem.W.Frag} {F F' : Hp} (e : Sub F F') {v : V} : ∀ {s : Slot}, SlotOk K F v s → SlotOk K F' v s
  | .un, _ => trivial
  | .im _, h => Rep.mono e h
  | .mr _, h => h
  | .sc _, ⟨a, h1, h2⟩ => ⟨a, h1, sql_mono e h2⟩
def SlotsOk (K : PySem.W.Frag) (F : Hp) : List V → List Slot → Prop
  | [], [] => True
  | v :: vs, s :: ss => SlotOk K F v s ∧ SlotsOk K F vs ss
  | _, _ => False
theorem SlotsOk.mono {K : PySem.W.Frag} {F F' : Hp} (e : Sub F F') : ∀ {vs : List V} {ss : List Slot}, SlotsOk K F vs ss → SlotsOk K F' vs ss
  | [], [], _ => trivial
  | _ :: _, _ :: _, ⟨h, t⟩ => ⟨h.mono e, SlotsOk.mono e t⟩
  | [], _ :: _, h => h
  | _ :: _, [], h => h
theorem SlotsOk.length {K : PySem.W.Frag} {F : Hp} : ∀ {vs : List V} {ss : List Slot}, SlotsOk K F vs ss → vs.length = ss.length
  | [], [], _ => rfl
  | _ :: _, _ :: _, ⟨_, t⟩ => by rw [List.length_cons, List.length_cons, SlotsOk.length t]
  | [], _ :: _, h => h.elim
  | _ :: _, [], h => h.elim
theorem SlotsOk.get {K : PySem.W.Frag} {F : Hp} : ∀ {vs : List V} {ss : List Slot} {i : Nat} {s : Slot}, SlotsOk K F vs ss → ss[i]? = some s → ∃ v, vs[i]? = some v ∧ SlotOk K F v s
  | [], [], _, _, _, h => by simp at h
  | v :: vs, s' :: ss, 0, s, ⟨h, _⟩, e => by
    rw [List.getElem?_cons_zero] at e
    cases e
    exact ⟨_, rfl, h⟩
  | v :: vs, s' :: ss, i + 1, s, ⟨_, t⟩, e => by
    rw [List.getElem?_cons_succ] at e
    obtain ⟨u, h1, h2⟩ := SlotsOk.get (i := i) (s := s) t e
    exact ⟨u, by rw [List.getElem?_cons_succ]; exact h1, h2⟩
  | [], _ :: _, _, _, h, _ => h.elim
  | _ :: _, [], _, _, h, _ => h.elim
theorem SlotsOk.set {K : PySem.W.Frag} {F : Hp} {v : V} {s : Slot} (h : SlotOk K F v s) : ∀ {vs : List V} {ss : List Slot} (i : Nat), SlotsOk K F vs ss → SlotsOk K F (vs.set i v) (ss.set i s)
  | [], [], _, _ => trivial
  | _ :: _, _ :: _, 0, ⟨_, t⟩ => ⟨h, t⟩
  | _ :: _, _ :: _, i + 1, ⟨g, t⟩ => ⟨g, SlotsOk.set h i t⟩
  | [], _ :: _, _, h => h.elim
  | _ :: _, [], _, h => h.elim
theorem SlotsOk.append {K : PySem.W.Frag} {F : Hp} : ∀ {vs ws : List V} {ss ts : List Slot}, SlotsOk K F vs ss → SlotsOk K F ws ts → SlotsOk K F (vs ++ ws) (ss ++ ts)
  | [], _, [], _, _, r => r
  | _ :: _, _, _ :: _, _, ⟨h, t⟩, r => ⟨h, SlotsOk.append t r⟩
  | [], _, _ :: _, _, h, _ => h.elim
  | _ :: _, _, [], _, h, _ => h.elim
abbrev ims (ds : List PyData) : List Slot := ds.map Slot.im
theorem slots_ims {K : PySem.W.Frag} {F : Hp} : ∀ {vs : List V} {ds : List PyData}, SlotsOk K F vs (ims ds) → Reps F vs ds
  | [], [], _ => .nil
  | _ :: _, _ :: _, ⟨h, t⟩ => .cons h (slots_ims t)
  | [], _ :: _, h => h.elim
  | _ :: _, [], h => h.elim
theorem ims_slots {K : PySem.W.Frag} {F : Hp} : ∀ {vs : List V} {ds : List PyData}, Reps F vs ds → SlotsOk K F vs (ims ds)
  | _, _, .nil => trivial
  | _, _, .cons h t => ⟨h, ims_slots t⟩

def MOk (K : PySem.W.Frag) (F H : Hp) (a : Addr) : MO → Prop
  | .lst xs => ∃ vs, H a = some (.lst vs) ∧ SlotsOk K F vs xs
  | .ins C fs => ∃ dx gs, H a = some (.ins C dx gs) ∧ gs.map (·.1) = fs.map (·.1) ∧ SlotsOk K F (gs.map (·.2)) (fs.map (·.2))
theorem MOk.has {K : PySem.W.Frag} {F H : Hp} {a : Addr} : ∀ {o : MO}, MOk K F H a o → H a ≠ none
  | .lst _, ⟨_, h, _⟩ => by rw [h]; intro z; cases z
  | .ins _ _, ⟨_, _, h, _⟩ => by rw [h]; intro z; cases z
theorem MOk.mono {K : PySem.W.Frag} {F F' H H' : Hp} {a : Addr} (e : Sub F F') (h : ∀ o, H a = some o → H' a = some o) : ∀ {o : MO}, MOk K F H a o → MOk K F' H' a o
  | .lst _, ⟨vs, q, r⟩ => ⟨vs, h _ q, r.mono e⟩
  | .ins _ _, ⟨dx, gs, q, n, r⟩ => ⟨dx, gs, h _ q, n, r.mono e⟩
structure MutOk (K : PySem.W.Frag) (F H : Hp) (μ : Mu) : Prop where
  nd : (keys μ).Nodup
  ok : ∀ p ∈ μ, F p.1 = none ∧ MOk K F H p.1 p.2

/-! ### how states grow -/
structure Gr (W : List Addr) (F H F' H' : Hp) : Prop where
  f : Sub F F'
  h : ∀ a o, a ∉ W → H a = some o → H' a = some o
  l : ∀ a, H a ≠ none → H' a ≠ none
  n : ∀ a, a ∉ W → H a ≠ none → F a = none → F' a = none
theorem Gr.refl {W : List Addr} {F H : Hp} : Gr W F H F H := ⟨Sub.refl F, fun _ _ _ h => h, fun _ h => h, fun _ _ _ h => h⟩
structure Post (K : PySem.W.Frag) (μ : Mu) (F H : Hp) (μ' : Mu) (F' H' : Hp) : Prop where
  gr : Gr (keys μ) F H F' H'
  sub : Sub F' H'
  mu : MutOk K F' H' μ'
  new : ∀ a, a ∈ keys μ' → a ∈ keys μ ∨ H a = none
theorem Post.refl {K : PySem.W.Frag} {μ : Mu} {F H : Hp} (s : Sub F H) (m : MutOk K F H μ) : Post K μ F H μ F H := ⟨Gr.refl, s, m, fun _ h => .inl h⟩
theorem Post.trans {K : PySem.W.Frag} {μ μ1 μ2 : Mu} {F H F1 H1 F2 H2 : Hp} (p : Post K μ F H μ1 F1 H1) (q : Post K μ1 F1 H1 μ2 F2 H2) : Post K μ F H μ2 F2 H2 := by
  have nk : ∀ a, a ∉ keys μ → H a ≠ none → a ∉ keys μ1 := fun a ha hn h1 => (p.new a h1).elim ha hn
  refine ⟨⟨p.gr.f.trans q.gr.f, fun a o ha e => ?_, fun a e => q.gr.l a (p.gr.l a e), fun a ha e f => ?_⟩, q.sub, q.mu, fun a ha => ?_⟩
  · exact q.gr.h a o (nk a ha (by rw [e]; intro z; cases z)) (p.gr.h a o ha e)
  · exact q.gr.n a (nk a ha e) (p.gr.l a e) (p.gr.n a ha e f)
  · rcases q.new a ha with h | h
    · exact p.new a h
    · exact .inr (Classical.byContradiction fun z => p.gr.l a z h)
/-- more mutable objects beside -/
theorem MutOk.left {K : PySem.W.Frag} {F H : Hp} {μ ρ : Mu} (m : MutOk K F H (μ ++ ρ)) : MutOk K F H μ :=
  ⟨by have := m.nd; unfold keys at this; rw [List.map_append] at this; exact (List.nodup_append.mp this).1, fun p h => m.ok p (List.mem_append_left _ h)⟩
theorem MutOk.right {K : PySem.W.Frag} {F H : Hp} {μ ρ : Mu} (m : MutOk K F H (μ ++ ρ)) : MutOk K F H ρ :=
  ⟨by have := m.nd; unfold keys at this; rw [List.map_append] at this; exact (List.nodup_append.mp this).2.1, fun p h => m.ok p (List.mem_append_right _ h)⟩
theorem keys_app (μ ρ : Mu) : keys (μ ++ ρ) = keys μ ++ keys ρ := List.map_append
theorem MutOk.apart {K : PySem.W.Frag} {F H : Hp} {μ ρ : Mu} (m : MutOk K F H (μ ++ ρ)) {a : Addr} (h1 : a ∈ keys μ) (h2 : a ∈ keys ρ) : False := by
  have h := m.nd
  rw [keys_app] at h
  exact (List.nodup_append.mp h).2.2 a h1 a h2 rfl
theorem MutOk.has {K : PySem.W.Frag} {F H : Hp} {μ : Mu} (m : MutOk K F H μ) {a : Addr} (h : a ∈ keys μ) : H a ≠ none := by
  obtain ⟨p, hp, rfl⟩ := List.mem_map.mp h
  exact (m.ok p hp).2.has
theorem MutOk.fnone {K : PySem.W.Frag} {F H : Hp} {μ : Mu} (m : MutOk K F H μ) {a : Addr} (h : a ∈ keys μ) : F a = none := by
  obtain ⟨p, hp, rfl⟩ := List.mem_map.mp h
  exact (m.ok p hp).1
theorem Post.frame {K : PySem.W.Frag} {μ μ' ρ : Mu} {F H F' H' : Hp} (m : MutOk K F H (μ ++ ρ)) (p : Post K μ F H μ' F' H') : Post K (μ ++ ρ) F H (μ' ++ ρ) F' H' := by
  have nr : ∀ a, a ∈ keys ρ → a ∉ keys μ := fun a h1 h2 => m.apart h2 h1
  refine ⟨⟨p.gr.f, fun a o ha e => p.gr.h a o (fun z => ha (by rw [keys_app]; exact List.mem_append_left _ z)) e, p.gr.l, fun a ha e f => p.gr.n a (fun z => ha (by rw [keys_app]; exact List.mem_append_left _ z)) e f⟩, p.sub, ⟨?_, fun q hq => ?_⟩, fun a ha => ?_⟩
  · rw [keys_app]
    refine List.nodup_append.mpr ⟨p.mu.nd, m.right.nd, fun a h1 b h2 e => ?_⟩
    subst e
    rcases p.new a h1 with z | z
    · exact nr a h2 z
    · exact m.right.has h2 z
  · rcases List.mem_append.mp hq with hq | hq
    · exact p.mu.ok q hq
    · have hk : q.1 ∈ keys ρ := List.mem_map.mpr ⟨q, hq, rfl⟩
      obtain ⟨h1, h2⟩ := m.right.ok q hq
      exact ⟨p.gr.n _ (nr _ hk) h2.has h1, MOk.mono p.gr.f (fun o e => p.gr.h _ o (nr _ hk) e) h2⟩
  · rw [keys_app] at ha ⊢
    rcases List.mem_append.mp ha with ha | ha
    · exact (p.new a ha).imp (List.mem_append_left _) id
    · exact .inl (List.mem_append_right _ ha)
theorem Post.drop {K : PySem.W.Frag} {μ μ' ν : Mu} {F H F' H' : Hp} (p : Post K μ F H μ' F' H') (s : List.Sublist ν μ') : Post K μ F H ν F' H' :=
  ⟨p.gr, p.sub, ⟨(s.map _).nodup p.mu.nd, fun q hq => p.mu.ok q (s.subset hq)⟩, fun a ha => p.new a ((s.map _).subset ha)⟩
/-- a new frozen object -/
theorem Post.lay {K : PySem.W.Frag} {μ : Mu} {F H : Hp} {p : Addr} {o : HO} (s : Sub F H) (m : MutOk K F H μ) (hp : H p = none) : Post K μ F H μ (upd F p o) (upd H p o) := by
  have fp : F p = none := by
    cases e : F p with
    | none => rfl
    | some u => rw [s p u e] at hp; cases hp
  have nk : ∀ a, H a ≠ none → a ≠ p := fun a ha e => ha (by rw [e]; exact hp)
  have sf : Sub F (upd F p o) := fun a u e => by rw [upd_ne (fun z => by rw [z, fp] at e; cases e)]; exact e
  refine ⟨⟨sf, fun a u _ e => by rw [upd_ne (ne_of_none e hp)]; exact e, fun a ha => by rw [upd_ne (nk a ha)]; exact ha, fun a _ ha f => by rw [upd_ne (nk a ha)]; exact f⟩, fun a u e => ?_, ⟨m.nd, fun q hq => ?_⟩, fun _ h => .inl h⟩
  · by_cases h : a = p
    · subst h; rw [upd_same] at e ⊢; exact e
    · rw [upd_ne h] at e ⊢; exact s a u e
  · obtain ⟨h1, h2⟩ := m.ok q hq
    have hn := nk q.1 h2.has
    exact ⟨by rw [upd_ne hn]; exact h1, MOk.mono sf (fun u e => by rw [upd_ne hn]; exact e) h2⟩

/-! ### environments -/
structure Ok (K : PySem.W.Frag) (F H : Hp) (σ : St) (δ : DEnv) (μ : Mu) : Prop where
  sub : Sub F H
  len : σ.length = δ.length
  sl : ∀ (i : Nat) (s : Slot), δ[i]? = some s → s = .un ∨ ∃ v, σ[i]? = some (some v) ∧ SlotOk K F v s
  mu : MutOk K F H μ
theorem Ok.post {K : PySem.W.Frag} {F H F' H' : Hp} {σ : St} {δ : DEnv} {μ μ' : Mu} (o : Ok K F H σ δ μ) (p : Post K μ F H μ' F' H') : Ok K F' H' σ δ μ' :=
  ⟨p.sub, o.len, fun i s e => (o.sl i s e).imp id fun ⟨v, h1, h2⟩ => ⟨v, h1, h2.mono p.gr.f⟩, p.mu⟩
theorem Ok.set {K : PySem.W.Frag} {F H : Hp} {σ : St} {δ : DEnv} {μ : Mu} {v : V} {s : Slot} (o : Ok K F H σ δ μ) (i : Nat) (h : SlotOk K F v s) : Ok K F H (σ.set i (some v)) (δ.set i s) μ := by
  refine ⟨o.sub, by rw [List.length_set, List.length_set]; exact o.len, fun j t e => ?_, o.mu⟩
  by_cases hj : i = j
  · subst hj
    by_cases hl : i < δ.length
    · rw [List.getElem?_set_self hl] at e
      cases e
      exact .inr ⟨v, List.getElem?_set_self (by rw [o.len]; exact hl), h⟩
    · rw [List.getElem?_eq_none (by rw [List.length_set]; omega)] at e
      cases e
  · rw [List.getElem?_set_ne hj] at e ⊢
    exact o.sl j t e
def wipeD (δ : DEnv) : List Nat → DEnv
  | [] => δ
  | v :: vs => (wipeD δ vs).set v .un
theorem wipeD_len (δ : DEnv) : ∀ vs, (wipeD δ vs).length = δ.length
  | [] => rfl
  | v :: vs => by unfold wipeD; rw [List.length_set, wipeD_len δ vs]
theorem Ok.wipe {K : PySem.W.Frag} {F H : Hp} {σ : St} {δ : DEnv} {μ : Mu} (o : Ok K F H σ δ μ) : ∀ vs, Ok K F H (L2.wipe σ vs) (wipeD δ vs) μ
  | [] => o
  | v :: vs => by
    have q := o.wipe vs
    unfold L2.wipe wipeD
    refine ⟨q.sub, by rw [List.length_set, List.length_set]; exact q.len, fun j t e => ?_, q.mu⟩
    by_cases hj : v = j
    · subst hj
      by_cases hl : v < (wipeD δ vs).length
      · rw [List.getElem?_set_self hl] at e
        cases e
        exact .inl rfl
      · rw [List.getElem?_eq_none (by rw [List.length_set]; omega)] at e
        cases e
    · rw [List.getElem?_set_ne hj] at e ⊢
      exact q.sl j t e
theorem Ok.left {K : PySem.W.Frag} {F H : Hp} {σ : St} {δ : DEnv} {μ ρ : Mu} (o : Ok K F H σ δ (μ ++ ρ)) : Ok K F H σ δ μ := ⟨o.sub, o.len, o.sl, o.mu.left⟩

/-! ### big steps -/
def Ev (K : PySem.W.Frag) (te : TE) (δ : DEnv) (μ : Mu) (s : Slot) (μ' : Mu) : Prop :=
  ∀ F H σ, Ok K F H σ δ μ → ∀ Q : VK, (∀ v F' H', Post K μ F H μ' F' H' → SlotOk K F' v s → Q v H') → te σ H Q
def EvT (K : PySem.W.Frag) (tt : TT) (δ : DEnv) (μ : Mu) (b : Bool) (μ' : Mu) : Prop :=
  ∀ F H σ, Ok K F H σ δ μ → ∀ Q : Bool → Hp → Prop, (∀ F' H', Post K μ F H μ' F' H' → Q b H') → tt σ H Q
def EvA (K : PySem.W.Frag) (ta : TA) (δ : DEnv) (μ : Mu) (ss : List Slot) (μ' : Mu) : Prop :=
  ∀ F H σ, Ok K F H σ δ μ → ∀ Q : List V → Hp → Prop, (∀ vs F' H', Post K μ F H μ' F' H' → SlotsOk K F' vs ss → Q vs H') → ta σ H Q
/-- a statement: N of the environments behind it, R of what it hands back -/
def Tri (K : PySem.W.Frag) (ts : TS) (δ : DEnv) (μ : Mu) (N : DEnv → Mu → Prop) (R : Slot → Mu → Prop) : Prop :=
  ∀ F H σ, Ok K F H σ δ μ → ∀ D : Ends, (∀ δ' μ' σ' F' H', N δ' μ' → Post K μ F H μ' F' H' → Ok K F' H' σ' δ' μ' → D.nx σ' H') →
    (∀ s μ' v F' H', R s μ' → Post K μ F H μ' F' H' → SlotOk K F' v s → D.rt v H') → ts D σ H
abbrev At (δ : DEnv) (μ : Mu) : DEnv → Mu → Prop := fun δ' μ' => δ' = δ ∧ μ' = μ
abbrev Is (s : Slot) (μ : Mu) : Slot → Mu → Prop := fun s' μ' => s' = s ∧ List.Sublist μ μ'
abbrev NoN : DEnv → Mu → Prop := fun _ _ => False
abbrev NoR : Slot → Mu → Prop := fun _ _ => False

section
variable {K : PySem.W.Frag} {δ : DEnv} {μ μ1 μ2 μ3 : Mu} {ta tb te tc : TE} {t u : TT} {x y z s : Slot} {b : Bool}

theorem Ev.frame (h : Ev K te δ μ s μ1) (ρ : Mu) : Ev K te δ (μ ++ ρ) s (μ1 ++ ρ) := fun F H σ o Q q =>
  h F H σ o.left Q fun v F' H' p r => q v F' H' (p.frame o.mu) r
theorem EvT.frame (h : EvT K t δ μ b μ1) (ρ : Mu) : EvT K t δ (μ ++ ρ) b (μ1 ++ ρ) := fun F H σ o Q q =>
  h F H σ o.left Q fun F' H' p => q F' H' (p.frame o.mu)

theorem ev_var {i : Nat} (h : δ[i]? = some s) (hu : s ≠ .un) : Ev K (tVar i) δ μ s μ := fun F H σ o Q q => by
  rcases o.sl i s h with e | ⟨v, e, r⟩
  · exact absurd e hu
  · exact ⟨v, e, q v F H (.refl o.sub o.mu) r⟩
theorem ev_varI {i : Nat} {d : PyData} (h : δ[i]? = some (.im d)) : Ev K (tVar i) δ μ (.im d) μ := ev_var h (fun z => nomatch z)
theorem ev_varM {i : Nat} {a : Addr} (h : δ[i]? = some (.mr a)) : Ev K (tVar i) δ μ (.mr a) μ := ev_var h (fun z => nomatch z)
theorem ev_c {v : V} (h : ∀ F, SlotOk K F v s) : Ev K (tC v) δ μ s μ := fun F H σ o Q q => q v F H (.refl o.sub o.mu) (h F)
theorem ev_int {i : Int} : Ev K (tC (.int i)) δ μ (.im (.int i)) μ := ev_c fun _ => .int i
theorem ev_bl {i : Bool} : Ev K (tC (.bl i)) δ μ (.im (.bool i)) μ := ev_c fun _ => .bl i
theorem ev_non : Ev K (tC .non) δ μ (.im .none) μ := ev_c fun _ => .non
theorem ev_str {i : Str} : Ev K (tC (.str i)) δ μ (.im (.str i)) μ := ev_c fun _ => .str i

/-- a two-place operation by values -/
def RV (K : PySem.W.Frag) (r : R2) (μ : Mu) (x y z : Slot) : Prop :=
  ∀ F H v w, Sub F H → MutOk K F H μ → SlotOk K F v x → SlotOk K F w y → ∀ Q : VK, (∀ u F' H', Post K μ F H μ F' H' → SlotOk K F' u z → Q u H') → r v w H Q
theorem ev_op {r : R2} (ha : Ev K ta δ μ x μ1) (hb : Ev K tb δ μ1 y μ2) (hr : RV K r μ2 x y z) : Ev K (tOp r ta tb) δ μ z μ2 := fun F H σ o Q q =>
  ha F H σ o _ fun v F1 H1 p1 r1 => hb F1 H1 σ (o.post p1) _ fun w F2 H2 p2 r2 => hr F2 H2 v w p2.sub p2.mu (r1.mono p2.gr.f) r2 Q fun u F3 H3 p3 r3 => q u F3 H3 ((p1.trans p2).trans p3) r3
theorem et_op {r : R2} {c : Bool} (ha : Ev K ta δ μ x μ1) (hb : Ev K tb δ μ1 y μ2) (hr : RV K r μ2 x y (.im (.bool c))) : EvT K (tTest (tOp r ta tb)) δ μ c μ2 := fun F H σ o Q q =>
  ev_op ha hb hr F H σ o _ fun v F1 H1 p1 r1 => by
    cases r1
    exact ⟨c, rfl, q F1 H1 p1⟩
theorem et_val {c : Bool} (ha : Ev K ta δ μ (.im (.bool c)) μ1) : EvT K (tB ta) δ μ c μ1 := fun F H σ o Q q =>
  ha F H σ o _ fun v F1 H1 p1 r1 => by
    cases r1
    exact ⟨c, rfl, q F1 H1 p1⟩
theorem et_test {c : Bool} (ha : Ev K ta δ μ (.im (.bool c)) μ1) : EvT K (tTest ta) δ μ c μ1 := fun F H σ o Q q =>
  ha F H σ o _ fun v F1 H1 p1 r1 => by
    cases r1
    exact ⟨c, rfl, q F1 H1 p1⟩
theorem et_not {c : Bool} (h : EvT K t δ μ c μ1) : EvT K (tNot t) δ μ (!c) μ1 := fun F H σ o Q q => h F H σ o _ fun F1 H1 p1 => q F1 H1 p1
theorem et_and {c d : Bool} (h1 : EvT K t δ μ c μ1) (h2 : c = true → EvT K u δ μ1 d μ1) : EvT K (tAnd t u) δ μ (c && d) μ1 := fun F H σ o Q q =>
  h1 F H σ o _ fun F1 H1 p1 => by
    cases c with
    | true => exact h2 rfl F1 H1 σ (o.post p1) Q fun F2 H2 p2 => q F2 H2 (p1.trans p2)
    | false => exact q F1 H1 p1
theorem et_or {c d : Bool} (h1 : EvT K t δ μ c μ1) (h2 : c = false → EvT K u δ μ1 d μ1) : EvT K (tOr t u) δ μ (c || d) μ1 := fun F H σ o Q q =>
  h1 F H σ o _ fun F1 H1 p1 => by
    cases c with
    | true => exact q F1 H1 p1
    | false => exact h2 rfl F1 H1 σ (o.post p1) Q fun F2 H2 p2 => q F2 H2 (p1.trans p2)
theorem ev_notV {c : Bool} (h : Ev K ta δ μ (.im (.bool c)) μ1) : Ev K (tNotV ta) δ μ (.im (.bool (!c))) μ1 := fun F H σ o Q q =>
  h F H σ o _ fun v F1 H1 p1 r1 => by
    cases r1
    exact ⟨c, rfl, q _ F1 H1 p1 (.bl _)⟩
theorem ev_andV {c d : Bool} (h1 : Ev K ta δ μ (.im (.bool c)) μ1) (h2 : c = true → Ev K tb δ μ1 (.im (.bool d)) μ1) : Ev K (tAndV ta tb) δ μ (.im (.bool (c && d))) μ1 := fun F H σ o Q q =>
  h1 F H σ o _ fun v F1 H1 p1 r1 => by
    cases r1
    refine ⟨c, rfl, ?_⟩
    cases c with
    | true => exact h2 rfl F1 H1 σ (o.post p1) Q fun v F2 H2 p2 r2 => q v F2 H2 (p1.trans p2) r2
    | false => exact q _ F1 H1 p1 (.bl _)
theorem ev_orV {c d : Bool} (h1 : Ev K ta δ μ (.im (.bool c)) μ1) (h2 : c = false → Ev K tb δ μ1 (.im (.bool d)) μ1) : Ev K (tOrV ta tb) δ μ (.im (.bool (c || d))) μ1 := fun F H σ o Q q =>
  h1 F H σ o _ fun v F1 H1 p1 r1 => by
    cases r1
    refine ⟨c, rfl, ?_⟩
    cases c with
    | true => exact q _ F1 H1 p1 (.bl _)
    | false => exact h2 rfl F1 H1 σ (o.post p1) Q fun v F2 H2 p2 r2 => q v F2 H2 (p1.trans p2) r2
theorem ev_if {c : Bool} (h : EvT K t δ μ c μ1) (h1 : c = true → Ev K ta δ μ1 s μ2) (h2 : c = false → Ev K tb δ μ1 s μ2) : Ev K (tIf t ta tb) δ μ s μ2 := fun F H σ o Q q =>
  h F H σ o _ fun F1 H1 p1 => by
    cases c with
    | true => exact h1 rfl F1 H1 σ (o.post p1) Q fun v F2 H2 p2 r2 => q v F2 H2 (p1.trans p2) r2
    | false => exact h2 rfl F1 H1 σ (o.post p1) Q fun v F2 H2 p2 r2 => q v F2 H2 (p1.trans p2) r2
theorem ea_nil : EvA K tNil δ μ [] μ := fun F H σ o Q q => q [] F H (.refl o.sub o.mu) trivial
theorem ea_cons {ss : List Slot} {tr : TA} (h : Ev K ta δ μ s μ1) (hr : EvA K tr δ μ1 ss μ2) : EvA K (tCons ta tr) δ μ (s :: ss) μ2 := fun F H σ o Q q =>
  h F H σ o _ fun v F1 H1 p1 r1 => hr F1 H1 σ (o.post p1) _ fun vs F2 H2 p2 r2 => q (v :: vs) F2 H2 (p1.trans p2) ⟨r1.mono p2.gr.f, r2⟩
theorem ea_starT {ds : List PyData} {ss : List Slot} {tr : TA} (h : Ev K ta δ μ (.im (.tuple ds)) μ1) (hr : EvA K tr δ μ1 ss μ2) : EvA K (tStar K ta tr) δ μ (ims ds ++ ss) μ2 := fun F H σ o Q q =>
  h F H σ o _ fun v F1 H1 p1 r1 => by
    obtain ⟨a, vs, rfl, ha, r⟩ := Rep.at_tup r1
    exact ⟨a, vs, rfl, .inl (.inl (.inl (p1.sub _ _ ha))), hr F1 H1 σ (o.post p1) _ fun ws F2 H2 p2 r2 => q _ F2 H2 (p1.trans p2) (SlotsOk.append (ims_slots (r.mono p2.gr.f)) r2)⟩
theorem ea_starL {ds : List PyData} {ss : List Slot} {tr : TA} (h : Ev K ta δ μ (.im (.list ds)) μ1) (hr : EvA K tr δ μ1 ss μ2) : EvA K (tStar K ta tr) δ μ (ims ds ++ ss) μ2 := fun F H σ o Q q =>
  h F H σ o _ fun v F1 H1 p1 r1 => by
    obtain ⟨a, vs, rfl, ha, r⟩ := Rep.at_lst r1
    exact ⟨a, vs, rfl, .inr (.inl (.inl (p1.sub _ _ ha))), hr F1 H1 σ (o.post p1) _ fun ws F2 H2 p2 r2 => q _ F2 H2 (p1.trans p2) (SlotsOk.append (ims_slots (r.mono p2.gr.f)) r2)⟩
theorem sz_le {n : Nat} (h : n ≤ 100000) : n ≤ sizeLine := Nat.le_trans h (by decide)
theorem sz_lt {n : Nat} (h : n < 100000) : n < sizeLine := Nat.lt_of_lt_of_le h (by decide)
theorem ev_tup {ds : List PyData} {t : TA} (h : EvA K t δ μ (ims ds) μ1) (hl : ds.length ≤ 100000) : Ev K (tTup t) δ μ (.im (.tuple ds)) μ1 := fun F H σ o Q q =>
  h F H σ o _ fun vs F1 H1 p1 r1 => by
    have r := slots_ims r1
    refine ⟨sz_le (by rw [r.length]; exact hl), fun p hp => ?_⟩
    have L := Post.lay (o := .tup vs) p1.sub p1.mu hp
    exact q _ _ _ (p1.trans L) (Rep.tup upd_same (r.mono L.gr.f))
theorem ev_lst {ds : List PyData} {t : TA} (h : EvA K t δ μ (ims ds) μ1) (hl : ds.length ≤ 100000) : Ev K (tLst t) δ μ (.im (.list ds)) μ1 := fun F H σ o Q q =>
  h F H σ o _ fun vs F1 H1 p1 r1 => by
    have r := slots_ims r1
    refine ⟨sz_le (by rw [r.length]; exact hl), fun p hp => ?_⟩
    have L := Post.lay (o := .lst vs) p1.sub p1.mu hp
    exact q _ _ _ (p1.trans L) (Rep.lst upd_same (r.mono L.gr.f))
end
end WM

set_option Elab.async false
set_option linter.all false
set_option maxRecDepth 100000
set_option maxHeartbeats 1000000
namespace WM
open PySem L2 StX

/-! ### writing, making, freezing -/
theorem set_keys {μ : Mu} {k : Nat} {a : Addr} {o o' : MO} (h : μ[k]? = some (a, o)) : keys (μ.set k (a, o')) = keys μ := by
  unfold keys
  rw [List.map_set]
  have hk : (μ.map (·.1))[k]? = some a := by rw [List.getElem?_map, h]; rfl
  obtain ⟨hl, e⟩ := List.getElem?_eq_some_iff.mp hk
  rw [← e]
  exact List.set_getElem_self hl
theorem mem_key {μ : Mu} {k : Nat} {a : Addr} {o : MO} (h : μ[k]? = some (a, o)) : a ∈ keys μ := List.mem_map.mpr ⟨_, List.mem_of_getElem? h, rfl⟩
theorem key_ix {μ : Mu} (nd : (keys μ).Nodup) {j k : Nat} {a : Addr} {o o' : MO} (h : μ[k]? = some (a, o)) (h' : μ[j]? = some (a, o')) : j = k := by
  have h1 : (keys μ)[k]? = some a := by unfold keys; rw [List.getElem?_map, h]; rfl
  have h2 : (keys μ)[j]? = some a := by unfold keys; rw [List.getElem?_map, h']; rfl
  exact nd_ix nd h2 h1
theorem Post.write {K : PySem.W.Frag} {μ : Mu} {F H : Hp} {k : Nat} {a : Addr} {o o' : MO} {ho : HO} (s : Sub F H) (m : MutOk K F H μ) (h : μ[k]? = some (a, o)) (w : MOk K F (upd H a ho) a o') :
    Post K μ F H (μ.set k (a, o')) F (upd H a ho) := by
  have hk := mem_key h
  have fn : F a = none := m.fnone hk
  refine ⟨⟨Sub.refl F, fun b u hb e => by rw [upd_ne (fun z => hb (by rw [z]; exact hk))]; exact e, fun b hb => ?_, fun b _ _ f => f⟩, fun b u e => ?_, ⟨?_, fun p hp => ?_⟩, fun b hb => ?_⟩
  · by_cases z : b = a
    · rw [z, upd_same]; intro q; cases q
    · rw [upd_ne z]; exact hb
  · rw [upd_ne (fun z => by rw [z, fn] at e; cases e)]; exact s b u e
  · rw [set_keys h]; exact m.nd
  · obtain ⟨j, hj⟩ := List.mem_iff_getElem?.mp hp
    by_cases z : j = k
    · subst z
      have hl : j < μ.length := (List.getElem?_eq_some_iff.mp h).1
      rw [List.getElem?_set_self hl] at hj
      cases hj
      exact ⟨fn, w⟩
    · rw [List.getElem?_set_ne (Ne.symm z)] at hj
      obtain ⟨h1, h2⟩ := m.ok p (List.mem_of_getElem? hj)
      have hn : p.1 ≠ a := fun e => z (key_ix m.nd h (show μ[j]? = some (a, p.2) by rw [hj, ← e]))
      exact ⟨h1, MOk.mono (Sub.refl F) (fun u e => by rw [upd_ne hn]; exact e) h2⟩
  · rw [set_keys h] at hb
    exact .inl hb
theorem sub_none {F H : Hp} (s : Sub F H) {p : Addr} (h : H p = none) : F p = none := by
  cases e : F p with
  | none => rfl
  | some u => rw [s p u e] at h; cases h
theorem Post.make {K : PySem.W.Frag} {μ : Mu} {F H : Hp} {p : Addr} {ho : HO} {o : MO} (s : Sub F H) (m : MutOk K F H μ) (hp : H p = none) (w : MOk K F (upd H p ho) p o) :
    Post K μ F H (μ ++ [(p, o)]) F (upd H p ho) := by
  have nk : ∀ a, H a ≠ none → a ≠ p := fun a ha e => ha (by rw [e]; exact hp)
  refine ⟨⟨Sub.refl F, fun b u _ e => by rw [upd_ne (ne_of_none e hp)]; exact e, fun b hb => by rw [upd_ne (nk b hb)]; exact hb, fun b _ _ f => f⟩, fun b u e => ?_, ⟨?_, fun q hq => ?_⟩, fun b hb => ?_⟩
  · rw [upd_ne (fun z => by rw [z, sub_none s hp] at e; cases e)]; exact s b u e
  · rw [keys_app]
    refine List.nodup_append.mpr ⟨m.nd, by simp [keys], fun a h1 b h2 e => ?_⟩
    have e2 : b = p := by simpa [keys] using h2
    exact nk a (m.has h1) (e.trans e2)
  · rcases List.mem_append.mp hq with hq | hq
    · obtain ⟨h1, h2⟩ := m.ok q hq
      exact ⟨h1, MOk.mono (Sub.refl F) (fun u e => by rw [upd_ne (nk _ h2.has)]; exact e) h2⟩
    · have e : q = (p, o) := by simpa using hq
      subst e
      exact ⟨sub_none s hp, w⟩
  · rw [keys_app] at hb
    rcases List.mem_append.mp hb with hb | hb
    · exact .inl hb
    · have e : b = p := by simpa [keys] using hb
      subst e
      exact .inr hp
/-- a mutable list is frozen from here on -/
theorem Post.freeze {K : PySem.W.Frag} {μ ν : Mu} {F H : Hp} {a : Addr} {ds : List PyData} {k : Nat} (s : Sub F H) (m : MutOk K F H μ) (h : μ[k]? = some (a, .lst (ims ds))) (hn : ν = μ.eraseIdx k) :
    ∃ vs, H a = some (.lst vs) ∧ Reps F vs ds ∧ Post K μ F H ν (upd F a (.lst vs)) H := by
  subst hn
  have hk := mem_key h
  have fn : F a = none := m.fnone hk
  obtain ⟨vs, e, r⟩ := (m.ok _ (List.mem_of_getElem? h)).2
  have sf : Sub F (upd F a (.lst vs)) := fun b u q => by rw [upd_ne (fun z => by rw [z, fn] at q; cases q)]; exact q
  refine ⟨vs, e, slots_ims r, ⟨sf, fun _ _ _ q => q, fun _ q => q, fun b hb hH f => by rw [upd_ne (fun z => hb (by rw [z]; exact hk))]; exact f⟩, fun b u q => ?_, ⟨?_, fun p hp => ?_⟩, fun b hb => .inl ?_⟩
  · by_cases z : b = a
    · subst z; rw [upd_same] at q; cases q; exact e
    · rw [upd_ne z] at q; exact s b u q
  · exact ((List.eraseIdx_sublist μ k).map _).nodup m.nd
  · have hp2 := (List.eraseIdx_sublist μ k).subset hp
    obtain ⟨h1, h2⟩ := m.ok p hp2
    have hn : p.1 ≠ a := fun z => by
      obtain ⟨j, hj⟩ := List.mem_iff_getElem?.mp hp2
      have ej : j = k := key_ix m.nd h (show μ[j]? = some (a, p.2) by rw [hj, ← z])
      subst ej
      obtain ⟨i, hi⟩ := List.mem_iff_getElem?.mp hp
      rw [List.getElem?_eraseIdx] at hi
      have nd := m.nd
      by_cases hij : i < j
      · rw [if_pos hij] at hi
        have := key_ix nd h (show μ[i]? = some (a, p.2) by rw [hi, ← z])
        omega
      · rw [if_neg hij] at hi
        have := key_ix nd h (show μ[i + 1]? = some (a, p.2) by rw [hi, ← z])
        omega
    exact ⟨by rw [upd_ne hn]; exact h1, MOk.mono sf (fun _ q => q) h2⟩
  · exact ((List.eraseIdx_sublist μ k).map _).subset hb

/-! ### operators -/
section
variable {X : Cx}
def rAddA (K : PySem.W.Frag) : R2 := fun x y H Q => rI0 (fun i j => .int (i + j)) x y H Q ∨ rCat x y H Q ∨ rCatA K x y H Q
def rMulA : R2 := fun x y H Q => rI CMulW (fun i j => .int (i * j)) x y H Q ∨ rRep x y H Q
def rDivA : R2 := fun x y H Q => rI CDivW (fun i j => .int (i / j)) x y H Q ∨ rI CDivN (fun i j => .int (i.fdiv j)) x y H Q
theorem op_addA : OpR X (binaryOp .Add) (rAddA X.K) := op_add.or (op_cat.or op_catA)
theorem op_mulA : OpR X (binaryOp .Mult) rMulA := op_mulW.or op_rep
theorem op_divA : OpR X (binaryOp .FloorDiv) rDivA := op_fdivW.or op_fdivN
end
section
variable {K : PySem.W.Frag} {μ : Mu}
theorem rv_I0 {g : Int → Int → V} {gd : Int → Int → PyData} (hg : ∀ F i j, Rep F (g i j) (gd i j)) {i j : Int} : RV K (rI0 g) μ (.im (.int i)) (.im (.int j)) (.im (gd i j)) := fun F H v w s m h1 h2 Q q => by
  cases h1
  cases h2
  exact ⟨i, j, rfl, rfl, q _ F H (.refl s m) (hg F i j)⟩
theorem rv_I {C : Int → Int → Prop} {g : Int → Int → V} {gd : Int → Int → PyData} (hg : ∀ F i j, Rep F (g i j) (gd i j)) {i j : Int} (hc : C i j) : RV K (rI C g) μ (.im (.int i)) (.im (.int j)) (.im (gd i j)) := fun F H v w s m h1 h2 Q q => by
  cases h1
  cases h2
  exact ⟨i, j, rfl, rfl, hc, q _ F H (.refl s m) (hg F i j)⟩
theorem rv_lt {i j : Int} : RV K (rI0 fun i j => .bl (decide (i < j))) μ (.im (.int i)) (.im (.int j)) (.im (.bool (decide (i < j)))) := rv_I0 (gd := fun i j => .bool (decide (i < j))) fun _ _ _ => .bl _
theorem rv_le {i j : Int} : RV K (rI0 fun i j => .bl (decide (i ≤ j))) μ (.im (.int i)) (.im (.int j)) (.im (.bool (decide (i ≤ j)))) := rv_I0 (gd := fun i j => .bool (decide (i ≤ j))) fun _ _ _ => .bl _
theorem rv_gt {i j : Int} : RV K (rI0 fun i j => .bl (decide (j < i))) μ (.im (.int i)) (.im (.int j)) (.im (.bool (decide (j < i)))) := rv_I0 (gd := fun i j => .bool (decide (j < i))) fun _ _ _ => .bl _
theorem rv_ge {i j : Int} : RV K (rI0 fun i j => .bl (decide (j ≤ i))) μ (.im (.int i)) (.im (.int j)) (.im (.bool (decide (j ≤ i)))) := rv_I0 (gd := fun i j => .bool (decide (j ≤ i))) fun _ _ _ => .bl _
theorem rv_sub {i j : Int} : RV K (rI0 fun i j => .int (i - j)) μ (.im (.int i)) (.im (.int j)) (.im (.int (i - j))) := rv_I0 (gd := fun i j => .int (i - j)) fun _ _ _ => .int _
theorem rv_add {i j : Int} : RV K (rAddA K) μ (.im (.int i)) (.im (.int j)) (.im (.int (i + j))) := fun F H v w s m h1 h2 Q q => .inl (rv_I0 (gd := fun i j => .int (i + j)) (fun _ _ _ => .int _) F H v w s m h1 h2 Q q)
theorem rv_mul {i j : Int} (h : CMulW i j) : RV K rMulA μ (.im (.int i)) (.im (.int j)) (.im (.int (i * j))) := fun F H v w s m h1 h2 Q q => .inl (rv_I (gd := fun i j => .int (i * j)) (fun _ _ _ => .int _) h F H v w s m h1 h2 Q q)
theorem rv_div {i j : Int} (h : CDivW i j) : RV K rDivA μ (.im (.int i)) (.im (.int j)) (.im (.int (i / j))) := fun F H v w s m h1 h2 Q q => .inl (rv_I (gd := fun i j => .int (i / j)) (fun _ _ _ => .int _) h F H v w s m h1 h2 Q q)
theorem rv_divN {i j : Int} (h : CDivN i j) : RV K rDivA μ (.im (.int i)) (.im (.int j)) (.im (.int (i.fdiv j))) := fun F H v w s m h1 h2 Q q => .inr (rv_I (gd := fun i j => .int (i.fdiv j)) (fun _ _ _ => .int _) h F H v w s m h1 h2 Q q)
theorem rv_mod {i j : Int} (h : 0 < j) : RV K (rI (fun _ j => 0 < j) fun i j => .int (i % j)) μ (.im (.int i)) (.im (.int j)) (.im (.int (i % j))) := rv_I (gd := fun i j => .int (i % j)) (fun _ _ _ => .int _) h
theorem rv_pow {i j : Int} (h : CPow i j) : RV K (rI CPow fun i j => .int (i ^ j.toNat)) μ (.im (.int i)) (.im (.int j)) (.im (.int (i ^ j.toNat))) := rv_I (gd := fun i j => .int (i ^ j.toNat)) (fun _ _ _ => .int _) h
theorem lay_lst {F H : Hp} {ds : List PyData} {vs : List V} {Q : VK} (s : Sub F H) (m : MutOk K F H μ) (r : Reps F vs ds) (q : ∀ u F' H', Post K μ F H μ F' H' → SlotOk K F' u (.im (.list ds)) → Q u H') : ∀ p, H p = none → Q (.ref p) (upd H p (.lst vs)) := fun p hp => by
  have L := Post.lay (K := K) (μ := μ) (o := .lst vs) s m hp
  exact q _ _ _ L (Rep.lst upd_same (r.mono L.gr.f))
theorem lay_tup {F H : Hp} {ds : List PyData} {vs : List V} {Q : VK} (s : Sub F H) (m : MutOk K F H μ) (r : Reps F vs ds) (q : ∀ u F' H', Post K μ F H μ F' H' → SlotOk K F' u (.im (.tuple ds)) → Q u H') : ∀ p, H p = none → Q (.ref p) (upd H p (.tup vs)) := fun p hp => by
  have L := Post.lay (K := K) (μ := μ) (o := .tup vs) s m hp
  exact q _ _ _ L (Rep.tup upd_same (r.mono L.gr.f))
theorem rv_cat {ds es : List PyData} (hl : ds.length + es.length ≤ 100000) : RV K (rAddA K) μ (.im (.list ds)) (.im (.list es)) (.im (.list (ds ++ es))) := fun F H v w s m h1 h2 Q q => by
  obtain ⟨a, vs, rfl, ha, r1⟩ := Rep.at_lst h1
  obtain ⟨b, ws, rfl, hb, r2⟩ := Rep.at_lst h2
  exact .inr (.inl ⟨a, b, vs, ws, rfl, rfl, s _ _ ha, s _ _ hb, sz_le (by rw [r1.length, r2.length]; exact hl), lay_lst s m (r1.append r2) q⟩)
theorem rv_catT {ds es : List PyData} (hl : ds.length + es.length ≤ 100000) : RV K (rAddA K) μ (.im (.tuple ds)) (.im (.tuple es)) (.im (.tuple (ds ++ es))) := fun F H v w s m h1 h2 Q q => by
  obtain ⟨a, vs, rfl, ha, r1⟩ := Rep.at_tup h1
  obtain ⟨b, ws, rfl, hb, r2⟩ := Rep.at_tup h2
  refine .inr (.inr ⟨a, b, vs, ws, rfl, rfl, .inl (.inl (s _ _ ha)), .inl (.inl (s _ _ hb)), sz_le (by rw [r1.length, r2.length]; exact hl), fun e => ?_, fun _ e => ?_, fun _ _ => lay_tup s m (r1.append r2) q⟩)
  · subst e
    cases r1
    exact q _ F H (.refl s m) h2
  · subst e
    cases r2
    exact q _ F H (.refl s m) (by rw [List.append_nil]; exact h1)
theorem rv_rep {ds : List PyData} {k : Int} (hk : k ≤ 1000) (h0 : -1000 ≤ k) (hl : ds.length ≤ 100) : RV K rMulA μ (.im (.list ds)) (.im (.int k)) (.im (.list (List.replicate k.toNat ds).flatten)) := fun F H v w s m h1 h2 Q q => by
  obtain ⟨a, vs, rfl, ha, r1⟩ := Rep.at_lst h1
  cases h2
  refine .inr ⟨a, k, vs, rfl, rfl, s _ _ ha, by omega, by omega, sz_le ?_, lay_lst s m (r1.rep k.toNat) q⟩
  rw [r1.length]
  exact Nat.le_trans (Nat.mul_le_mul hl (show k.toNat ≤ 1000 by omega)) (by decide)
theorem rv_eq {d e : PyData} (h1 : SeqAt.shaped d = true) (h2 : SeqAt.shaped e = true) : RV K (rEqD K) μ (.im d) (.im e) (.im (.bool (PyData.eqv d e))) := fun F H v w s m r1 r2 Q q =>
  ⟨d, e, (Rep.mono s r1).dp, (Rep.mono s r2).dp, h1, h2, q _ F H (.refl s m) (.bl _)⟩
theorem rv_ne {d e : PyData} (h1 : SeqAt.shaped d = true) (h2 : SeqAt.shaped e = true) : RV K (rNeD K) μ (.im d) (.im e) (.im (.bool (!PyData.eqv d e))) := fun F H v w s m r1 r2 Q q =>
  ⟨d, e, (Rep.mono s r1).dp, (Rep.mono s r2).dp, h1, h2, q _ F H (.refl s m) (.bl _)⟩
theorem rv_in {d : PyData} {ds : List PyData} (h1 : SeqAt.shaped d = true) (h2 : SeqAt.shaped (.list ds) = true) : RV K (rInD K) μ (.im d) (.im (.list ds)) (.im (.bool (ds.any fun z => PyData.eqv z d))) := fun F H v w s m r1 r2 Q q =>
  ⟨d, ds, (Rep.mono s r1).dp, (Rep.mono s r2).dp, h1, h2, q _ F H (.refl s m) (.bl _)⟩
def isNonD : PyData → Bool
  | .none => true
  | _ => false
theorem non_rep {F : Hp} {v : V} {d : PyData} (r : Rep F v d) : decide (v = .non) = isNonD d := by
  cases r <;> simp [isNonD]
def rIsNn : R2 := fun x y H Q => y = .non ∧ Q (.bl (decide (x = .non))) H
def rNotNn : R2 := fun x y H Q => y = .non ∧ Q (.bl (!decide (x = .non))) H
theorem rv_isN {d : PyData} : RV K rIsNn μ (.im d) (.im .none) (.im (.bool (isNonD d))) := fun F H v w s m r1 r2 Q q => by
  cases r2
  refine ⟨rfl, ?_⟩
  rw [non_rep r1]
  exact q _ F H (.refl s m) (.bl _)
theorem rv_notN {d : PyData} : RV K rNotNn μ (.im d) (.im .none) (.im (.bool (!isNonD d))) := fun F H v w s m r1 r2 Q q => by
  cases r2
  refine ⟨rfl, ?_⟩
  rw [non_rep r1]
  exact q _ F H (.refl s m) (.bl _)
theorem rv_notB {a b : Bool} : RV K rNotB μ (.im (.bool a)) (.im (.bool b)) (.im (.bool (!decide (a = b)))) := fun F H v w s m r1 r2 Q q => by
  cases r1
  cases r2
  exact ⟨a, b, rfl, rfl, q _ F H (.refl s m) (.bl _)⟩

/-! ### items -/
theorem reps_at {F : Hp} {vs : List V} {ds : List PyData} {k : Int} {d : PyData} (r : Reps F vs ds) (h : atI ds k = some d) : ∃ v, atI vs k = some v ∧ Rep F v d := by
  unfold atI at h ⊢
  rw [r.length]
  cases e : ixN ds.length k with
  | none => rw [e] at h; cases h
  | some j =>
    rw [e] at h
    exact r.get (i := j) h
theorem slots_at {F : Hp} {vs : List V} {ds : List Slot} {k : Int} {d : Slot} (r : SlotsOk K F vs ds) (h : atI ds k = some d) : ∃ v, atI vs k = some v ∧ SlotOk K F v d := by
  unfold atI at h ⊢
  rw [r.length]
  cases e : ixN ds.length k with
  | none => rw [e] at h; cases h
  | some j =>
    rw [e] at h
    exact r.get (i := j) h
theorem at_nat {α : Type} {xs : List α} {j : Nat} {v : α} (h : xs[j]? = some v) : atI xs (j : Int) = some v := by
  have hl := (List.getElem?_eq_some_iff.mp h).1
  unfold atI ixN
  rw [if_pos (by omega), if_pos (by omega)]
  show xs[((j : Int)).toNat]? = some v
  rw [Int.toNat_natCast]
  exact h
theorem at_last {α : Type} {xs : List α} {v : α} (h : xs[xs.length - 1]? = some v) : atI xs (-1) = some v := by
  have hl := (List.getElem?_eq_some_iff.mp h).1
  unfold atI ixN
  rw [if_neg (by omega), if_pos (by omega)]
  show xs[((-1 : Int) + (xs.length : Int)).toNat]? = some v
  rw [show ((-1 : Int) + (xs.length : Int)).toNat = xs.length - 1 by omega]
  exact h
theorem rv_ixL {ds : List PyData} {k : Int} {d : PyData} (h : atI ds k = some d) : RV K (rIx K) μ (.im (.list ds)) (.im (.int k)) (.im d) := fun F H v w s m r1 r2 Q q => by
  obtain ⟨a, vs, rfl, ha, r⟩ := Rep.at_lst r1
  cases r2
  obtain ⟨u, hu, ru⟩ := reps_at r h
  exact .inl ⟨a, vs, k, u, rfl, rfl, .inl (.inl (s _ _ ha)), hu, q _ F H (.refl s m) ru⟩
theorem rv_ixT {ds : List PyData} {k : Int} {d : PyData} (h : atI ds k = some d) : RV K (rIx K) μ (.im (.tuple ds)) (.im (.int k)) (.im d) := fun F H v w s m r1 r2 Q q => by
  obtain ⟨a, vs, rfl, ha, r⟩ := Rep.at_tup r1
  cases r2
  obtain ⟨u, hu, ru⟩ := reps_at r h
  exact .inr (.inl ⟨a, vs, k, u, rfl, rfl, .inl (.inl (s _ _ ha)), hu, q _ F H (.refl s m) ru⟩)
theorem rv_ixM {a : Addr} {xs : List Slot} {k : Int} {d : Slot} (j : Nat) (hj : μ[j]? = some (a, .lst xs)) (h : atI xs k = some d) : RV K (rIx K) μ (.mr a) (.im (.int k)) d := fun F H v w s m r1 r2 Q q => by
  have e : v = .ref a := r1
  subst e
  cases r2
  obtain ⟨vs, hv, r⟩ := (m.ok _ (List.mem_of_getElem? hj)).2
  obtain ⟨u, hu, ru⟩ := slots_at r h
  exact .inl ⟨a, vs, k, u, rfl, rfl, .inl (.inl hv), hu, q _ F H (.refl s m) ru⟩
theorem rv_ixS {ns : List Int} {k : Int} {n : Int} (h : atI ns k = some n) : RV K (rIx K) μ (.sc ns) (.im (.int k)) (.im (.int n)) := fun F H v w s m r1 r2 Q q => by
  obtain ⟨a, rfl, hs⟩ := r1
  cases r2
  refine .inl ⟨a, ns.map V.int, k, .int n, rfl, rfl, sql_mono s hs, ?_, q _ F H (.refl s m) (.int n)⟩
  unfold atI at h ⊢
  rw [List.length_map]
  cases e : ixN ns.length k with
  | none => rw [e] at h; cases h
  | some j =>
    rw [e] at h
    have h2 : ns[j]? = some n := h
    show (ns.map V.int)[j]? = _
    rw [List.getElem?_map, h2]
    rfl
end

/-! ### unary, fields, calls of built-ins -/
section
variable {K : PySem.W.Frag} {δ : DEnv} {μ μ1 μ2 μ3 : Mu} {ta tb te tc : TE} {t u : TT} {x y z s : Slot} {b : Bool}
theorem ev_neg {i : Int} (h : Ev K ta δ μ (.im (.int i)) μ1) : Ev K (tUn (rU fun i => .int (-i)) ta) δ μ (.im (.int (-i))) μ1 := fun F H σ o Q q =>
  h F H σ o _ fun v F1 H1 p1 r1 => by
    cases r1
    exact ⟨i, rfl, q _ F1 H1 p1 (.int _)⟩
theorem fld_look {F : Hp} : ∀ {gs : List (Str × V)} {fs : List (Str × Slot)} {f : Str} {s : Slot}, gs.map (·.1) = fs.map (·.1) → SlotsOk K F (gs.map (·.2)) (fs.map (·.2)) → fs.lookup f = some s → ∃ v, gs.lookup f = some v ∧ SlotOk K F v s
  | [], [], _, _, _, _, h => by simp at h
  | (g, v) :: gs, (g', s') :: fs, f, s, e, ⟨h1, h2⟩, h => by
    have e1 : g = g' := (List.cons.inj e).1
    have e2 := (List.cons.inj e).2
    subst e1
    rw [List.lookup_cons] at h ⊢
    cases hb : f == g with
    | true =>
      rw [hb] at h
      cases h
      exact ⟨v, rfl, h1⟩
    | false =>
      rw [hb] at h
      exact fld_look e2 h2 h
  | [], _ :: _, _, _, e, _, _ => by cases e
  | _ :: _, [], _, _, e, _, _ => by cases e
theorem fld_none : ∀ {gs : List (Str × V)} {fs : List (Str × Slot)} {f : Str}, gs.map (·.1) = fs.map (·.1) → fs.lookup f = none → gs.lookup f = none
  | [], [], _, _, _ => rfl
  | (g, v) :: gs, (g', s') :: fs, f, e, h => by
    have e1 : g = g' := (List.cons.inj e).1
    have e2 := (List.cons.inj e).2
    subst e1
    rw [List.lookup_cons] at h ⊢
    cases hb : f == g with
    | true => rw [hb] at h; cases h
    | false =>
      rw [hb] at h
      exact fld_none e2 h
  | [], _ :: _, _, e, _ => by cases e
  | _ :: _, [], _, e, _ => by cases e
def putS (f : Str) (s : Slot) : List (Str × Slot) → List (Str × Slot)
  | [] => [(f, s)]
  | (g, x) :: r => if g = f then (g, s) :: r else (g, x) :: putS f s r
theorem fld_put {F : Hp} {f : Str} {v : V} {s : Slot} (r : SlotOk K F v s) : ∀ {gs : List (Str × V)} {fs : List (Str × Slot)}, gs.map (·.1) = fs.map (·.1) → SlotsOk K F (gs.map (·.2)) (fs.map (·.2)) →
    (putF f v gs).map (·.1) = (putS f s fs).map (·.1) ∧ SlotsOk K F ((putF f v gs).map (·.2)) ((putS f s fs).map (·.2))
  | [], [], _, _ => ⟨rfl, r, trivial⟩
  | (g, w) :: gs, (g', s') :: fs, e, ⟨h1, h2⟩ => by
    have e1 : g = g' := (List.cons.inj e).1
    have e2 := (List.cons.inj e).2
    subst e1
    unfold putF putS
    by_cases hb : g = f
    · rw [if_pos hb, if_pos hb]
      exact ⟨e, r, h2⟩
    · rw [if_neg hb, if_neg hb]
      obtain ⟨q1, q2⟩ := fld_put (f := f) r e2 h2
      exact ⟨congrArg (g :: ·) q1, h1, q2⟩
  | [], _ :: _, e, _ => by cases e
  | _ :: _, [], e, _ => by cases e
theorem ev_fld {a C : Addr} {fs : List (Str × Slot)} {f : Str} (j : Nat) (h : Ev K ta δ μ (.mr a) μ1) (hj : μ1[j]? = some (a, .ins C fs)) (hc : Cls K C) (hn : NoAttr K C f) (hl : fs.lookup f = some s) : Ev K (tFld K ta f) δ μ s μ1 := fun F H σ o Q q =>
  h F H σ o _ fun v F1 H1 p1 r1 => by
    have e : v = .ref a := r1
    subst e
    obtain ⟨dx, gs, hg, e1, e2⟩ := (p1.mu.ok _ (List.mem_of_getElem? hj)).2
    obtain ⟨u, h1, h2⟩ := fld_look e1 e2 hl
    exact ⟨a, C, dx, gs, u, rfl, hg, hc, hn, h1, q u F1 H1 p1 h2⟩
/-- a built-in's call by values -/
def RC (K : PySem.W.Frag) (r : List V → Hp → VK → Prop) (μ : Mu) (ss : List Slot) (s : Slot) : Prop :=
  ∀ F H vs, Sub F H → MutOk K F H μ → SlotsOk K F vs ss → ∀ Q : VK, (∀ u F' H', Post K μ F H μ F' H' → SlotOk K F' u s → Q u H') → r vs H Q
theorem ev_cb {r : List V → Hp → VK → Prop} {tr : TA} {ss : List Slot} (h : EvA K tr δ μ ss μ1) (hr : RC K r μ1 ss s) : Ev K (tCB r tr) δ μ s μ1 := fun F H σ o Q q =>
  h F H σ o _ fun vs F1 H1 p1 r1 => hr F1 H1 vs p1.sub p1.mu r1 Q fun u F2 H2 p2 r2 => q u F2 H2 (p1.trans p2) r2
def rAbs : List V → Hp → VK → Prop := fun xs H Q => ∃ i, xs = [.int i] ∧ Q (.int (if i < 0 then -i else i)) H
def rMx2 : List V → Hp → VK → Prop := fun xs H Q => ∃ i j, xs = [.int i, .int j] ∧ Q (.int (if j > i then j else i)) H
def rInt1 : List V → Hp → VK → Prop := fun xs H Q => (∃ i, xs = [.int i] ∧ Q (.int i) H) ∨ ∃ k, xs = [.bl k] ∧ Q (.int (if k then 1 else 0)) H
def rLenQ (K : PySem.W.Frag) : List V → Hp → VK → Prop := fun xs H Q => ∃ p ys, xs = [.ref p] ∧ (SqL K H p ys ∨ SqT K H p ys) ∧ Q (.int ys.length) H
def rListO (K : PySem.W.Frag) : List V → Hp → VK → Prop := fun xs H Q => ∃ p ys, xs = [.ref p] ∧ (SqL K H p ys ∨ SqT K H p ys) ∧ ∀ l, H l = none → Q (.ref l) (upd H l (.lst ys))
def rTupO (K : PySem.W.Frag) : List V → Hp → VK → Prop := fun xs H Q => ∃ p ys, xs = [.ref p] ∧ ((SqL K H p ys ∧ ∀ l, H l = none → Q (.ref l) (upd H l (.tup ys))) ∨ (SqT K H p ys ∧ Q (.ref p) H))
theorem slots1 {F : Hp} {vs : List V} {s : Slot} (h : SlotsOk K F vs [s]) : ∃ v, vs = [v] ∧ SlotOk K F v s := by
  match vs, h with
  | [v], ⟨h, _⟩ => exact ⟨v, rfl, h⟩
theorem slots2 {F : Hp} {vs : List V} {s s' : Slot} (h : SlotsOk K F vs [s, s']) : ∃ v v', vs = [v, v'] ∧ SlotOk K F v s ∧ SlotOk K F v' s' := by
  match vs, h with
  | [v, w], ⟨h, h', _⟩ => exact ⟨v, w, rfl, h, h'⟩
theorem rc_abs {i : Int} : RC K rAbs μ [.im (.int i)] (.im (.int (if i < 0 then -i else i))) := fun F H vs s m r Q q => by
  obtain ⟨v, rfl, r0⟩ := slots1 r
  cases r0
  exact ⟨i, rfl, q _ F H (.refl s m) (.int _)⟩
theorem rc_max {i j : Int} : RC K rMx2 μ [.im (.int i), .im (.int j)] (.im (.int (if j > i then j else i))) := fun F H vs s m r Q q => by
  obtain ⟨v, w, rfl, r0, r1⟩ := slots2 r
  cases r0
  cases r1
  exact ⟨i, j, rfl, q _ F H (.refl s m) (.int _)⟩
theorem rc_int {i : Int} : RC K rInt1 μ [.im (.int i)] (.im (.int i)) := fun F H vs s m r Q q => by
  obtain ⟨v, rfl, r0⟩ := slots1 r
  cases r0
  exact .inl ⟨i, rfl, q _ F H (.refl s m) (.int _)⟩
theorem rc_lenL {ds : List PyData} : RC K (rLenQ K) μ [.im (.list ds)] (.im (.int ds.length)) := fun F H vs s m r Q q => by
  obtain ⟨v, rfl, r0⟩ := slots1 r
  obtain ⟨a, vs, rfl, ha, r⟩ := Rep.at_lst r0
  refine ⟨a, vs, rfl, .inl (.inl (.inl (s _ _ ha))), ?_⟩
  rw [r.length]
  exact q _ F H (.refl s m) (.int _)
theorem rc_lenT {ds : List PyData} : RC K (rLenQ K) μ [.im (.tuple ds)] (.im (.int ds.length)) := fun F H vs s m r Q q => by
  obtain ⟨v, rfl, r0⟩ := slots1 r
  obtain ⟨a, vs, rfl, ha, r⟩ := Rep.at_tup r0
  refine ⟨a, vs, rfl, .inr (.inl (.inl (s _ _ ha))), ?_⟩
  rw [r.length]
  exact q _ F H (.refl s m) (.int _)
theorem rc_lenS {ns : List Int} : RC K (rLenQ K) μ [.sc ns] (.im (.int ns.length)) := fun F H vs s m r Q q => by
  obtain ⟨v, rfl, r0⟩ := slots1 r
  obtain ⟨a, rfl, hs⟩ := r0
  refine ⟨a, ns.map V.int, rfl, .inl (sql_mono s hs), ?_⟩
  rw [List.length_map]
  exact q _ F H (.refl s m) (.int _)
theorem rc_listL {ds : List PyData} : RC K (rListO K) μ [.im (.list ds)] (.im (.list ds)) := fun F H vs s m r Q q => by
  obtain ⟨v, rfl, r0⟩ := slots1 r
  obtain ⟨a, vs, rfl, ha, r⟩ := Rep.at_lst r0
  exact ⟨a, vs, rfl, .inl (.inl (.inl (s _ _ ha))), lay_lst s m r q⟩
theorem rc_listT {ds : List PyData} : RC K (rListO K) μ [.im (.tuple ds)] (.im (.list ds)) := fun F H vs s m r Q q => by
  obtain ⟨v, rfl, r0⟩ := slots1 r
  obtain ⟨a, vs, rfl, ha, r⟩ := Rep.at_tup r0
  exact ⟨a, vs, rfl, .inr (.inl (.inl (s _ _ ha))), lay_lst s m r q⟩
theorem rc_tupL {ds : List PyData} : RC K (rTupO K) μ [.im (.list ds)] (.im (.tuple ds)) := fun F H vs s m r Q q => by
  obtain ⟨v, rfl, r0⟩ := slots1 r
  obtain ⟨a, vs, rfl, ha, r⟩ := Rep.at_lst r0
  exact ⟨a, vs, rfl, .inl ⟨.inl (.inl (s _ _ ha)), lay_tup s m r q⟩⟩
theorem rc_tupT {ds : List PyData} : RC K (rTupO K) μ [.im (.tuple ds)] (.im (.tuple ds)) := fun F H vs s m r Q q => by
  obtain ⟨v, rfl, r0⟩ := slots1 r
  obtain ⟨a, vs, rfl, ha, r⟩ := Rep.at_tup r0
  exact ⟨a, vs, rfl, .inr ⟨.inl (.inl (s _ _ ha)), q _ F H (.refl s m) r0⟩⟩
theorem rc_tupM {ds : List PyData} {a : Addr} (j : Nat) (hj : μ[j]? = some (a, .lst (ims ds))) : RC K (rTupO K) μ [.mr a] (.im (.tuple ds)) := fun F H vs s m r Q q => by
  obtain ⟨v, rfl, r0⟩ := slots1 r
  have e : v = .ref a := r0
  subst e
  obtain ⟨vs, hv, r⟩ := (m.ok _ (List.mem_of_getElem? hj)).2
  exact ⟨a, vs, rfl, .inl ⟨.inl (.inl hv), lay_tup s m (slots_ims r) q⟩⟩
theorem rc_sum {ns : List Int} : RC K (rSum K) μ [.im (.list (ns.map PyData.int))] (.im (.int ns.sum)) := fun F H vs s m r Q q => by
  obtain ⟨v, rfl, r0⟩ := slots1 r
  obtain ⟨a, vs, rfl, ha, r⟩ := Rep.at_lst r0
  have e := r.ints
  subst e
  exact ⟨a, ns, rfl, .inl (.inl (s _ _ ha)), q _ F H (.refl s m) (.int _)⟩
theorem rc_any {ns : List Bool} : RC K (rAny K) μ [.im (.list (ns.map PyData.bool))] (.im (.bool (ns.any id))) := fun F H vs s m r Q q => by
  obtain ⟨v, rfl, r0⟩ := slots1 r
  obtain ⟨a, vs, rfl, ha, r⟩ := Rep.at_lst r0
  have e := r.bools
  subst e
  exact ⟨a, ns, rfl, .inl (.inl (s _ _ ha)), q _ F H (.refl s m) (.bl _)⟩
theorem rc_all {ns : List Bool} : RC K (rAll K) μ [.im (.list (ns.map PyData.bool))] (.im (.bool (ns.all id))) := fun F H vs s m r Q q => by
  obtain ⟨v, rfl, r0⟩ := slots1 r
  obtain ⟨a, vs, rfl, ha, r⟩ := Rep.at_lst r0
  have e := r.bools
  subst e
  exact ⟨a, ns, rfl, .inl (.inl (s _ _ ha)), q _ F H (.refl s m) (.bl _)⟩
/-- the built-in type of data -/
def tyD : PyData → String
  | .none => "NoneType"
  | .bool _ => "bool"
  | .int _ => "int"
  | .str _ => "str"
  | .list _ => "list"
  | .tuple _ => "tuple"
  | .dict _ => "dict"
theorem tyx_of {H : Hp} {v : V} {d : PyData} (r : Rep H v d) : TyX K H v (.type (tyD d)) := by
  cases r with
  | non => exact .base .non
  | bl b => exact .base (.bl b)
  | int b => exact .base (.int b)
  | str b => exact .base (.str b)
  | lst h _ => exact .base (.lst h)
  | tup h _ => exact .base (.tup h)
/-- isinstance(x, T): the class a written one (its value stands as tC (.ty T)) -/
def tIsi (K : PySem.W.Frag) (T : String) (ta : TE) : TE := tCB (rIsi K) (tCons ta (tCons (tC (.ty T)) tNil))
theorem ev_isi {d : PyData} {T : String} (h : Ev K ta δ μ (.im d) μ1) (hk : kitB (tyD d) T = some b) : Ev K (tCB (rIsi K) (tCons ta (tCons (tC (.ty T)) tNil))) δ μ (.im (.bool b)) μ1 := fun F H σ o Q q =>
  h F H σ o _ fun v F1 H1 p1 r1 => ⟨v, .ty T, .type (tyD d), .type T, b, rfl, .ty T, tyx_of (Rep.mono p1.sub r1), kit_ty hk, q _ F1 H1 p1 (.bl _)⟩
theorem ev_isi2 {d : PyData} {T U : String} (h : Ev K ta δ μ (.im d) μ1) (hk : PySem.W.kitAny K (.type (tyD d)) [.type T, .type U] = some b) :
    Ev K (tCB (rIsiT K) (tCons ta (tCons (tTup (tCons (tC (.ty T)) (tCons (tC (.ty U)) tNil))) tNil))) δ μ (.im (.bool b)) μ1 := fun F H σ o Q q =>
  h F H σ o _ fun v F1 H1 p1 r1 => by
    refine ⟨by show 2 ≤ sizeLine; decide, fun p hp => ?_⟩
    have L := Post.lay (o := .tup [.ty T, .ty U]) p1.sub p1.mu hp
    exact ⟨v, p, [.ty T, .ty U], .type (tyD d), [.type T, .type U], b, rfl, upd_same, .cons (.ty T) (.cons (.ty U) .nil), tyx_of (Rep.mono L.sub (Rep.mono L.gr.f r1)), hk, q _ _ _ (p1.trans L) (.bl _)⟩
/-- slices -/
theorem ev_slL {ds : List PyData} {k : Nat} {th : TE} (h : Ev K ta δ μ (.im (.list ds)) μ1) (hk : Ev K th δ μ1 (.im (.int (k : Int))) μ2) : Ev K (tSl (rSlL K) ta tNoPart (tPart th)) δ μ (.im (.list (ds.take k))) μ2 := fun F H σ o Q q =>
  h F H σ o _ fun v F1 H1 p1 r1 => hk F1 H1 σ (o.post p1) _ fun w F2 H2 p2 r2 => by
    cases r2
    obtain ⟨a, vs, rfl, ha, r⟩ := Rep.at_lst r1
    refine ⟨(k : Int), rfl, a, vs, rfl, .inl (.inl (p2.sub _ _ (p2.gr.f _ _ ha))), ?_⟩
    have e : cutV vs none (some (k : Int)) = vs.take k := by
      unfold cutV
      rw [show HT.sIx vs.length vs.length (some (k : Int)) = min k vs.length from HT.sIx_nat vs.length vs.length k, HT.sIx_none]
      rw [List.drop_zero, Nat.sub_zero]
      by_cases hl : k ≤ vs.length
      · rw [Nat.min_eq_left hl]
      · rw [Nat.min_eq_right (by omega), List.take_length, List.take_of_length_le (by omega)]
    rw [e]
    exact lay_lst p2.sub p2.mu ((r.mono p2.gr.f).take k) fun u F' H' p r => q u F' H' ((p1.trans p2).trans p) r
theorem ev_slT {ds : List PyData} {k : Nat} {tl : TE} (h : Ev K ta δ μ (.im (.tuple ds)) μ1) (hk : Ev K tl δ μ1 (.im (.int (k : Int))) μ2) : Ev K (tSl (rSlA K) ta (tPart tl) tNoPart) δ μ (.im (.tuple (ds.drop k))) μ2 := fun F H σ o Q q =>
  h F H σ o _ fun v F1 H1 p1 r1 => hk F1 H1 σ (o.post p1) _ fun w F2 H2 p2 r2 => by
    cases r2
    obtain ⟨a, vs, rfl, ha, r⟩ := Rep.at_tup r1
    have e1 : HT.sIx vs.length 0 (some (k : Int)) = min k vs.length := HT.sIx_nat vs.length 0 k
    have e2 : HT.sIx vs.length vs.length none = vs.length := HT.sIx_none ..
    refine ⟨(k : Int), rfl, a, vs, rfl, .inl (.inl (p2.sub _ _ (p2.gr.f _ _ ha))), fun hw => ?_, fun _ => ?_⟩
    · rw [e1] at hw
      have e : ds.drop k = ds := by
        by_cases hz : k = 0
        · rw [hz, List.drop_zero]
        · have hl := r.length
          have : ds = [] := by
            cases ds with
            | nil => rfl
            | cons d ds => rw [List.length_cons] at hl; omega
          rw [this, List.drop_nil]
      exact q _ F2 H2 (p1.trans p2) (by rw [e]; exact Rep.mono p2.gr.f r1)
    · have e : cutV vs (some (k : Int)) none = vs.drop k := by
        unfold cutV
        rw [e1, e2]
        by_cases hl : k ≤ vs.length
        · rw [Nat.min_eq_left hl, ← List.length_drop, List.take_length]
        · rw [Nat.min_eq_right (by omega), List.drop_length, List.take_nil, List.drop_eq_nil_of_le (by omega)]
      rw [e]
      exact lay_tup p2.sub p2.mu ((r.mono p2.gr.f).drop k) fun u F' H' p r => q u F' H' ((p1.trans p2).trans p) r
/-- a < b < c -/
theorem ev_chain {r r' : R2} {c d : Bool} {w' : Slot} (ha : Ev K ta δ μ x μ) (hb : Ev K tb δ μ y μ) (hr : RV K r μ x y (.im (.bool c))) (hc : c = true → Ev K tc δ μ z μ) (hr' : c = true → RV K r' μ y z (.im (.bool d))) : Ev K (tChain r r' ta tb tc) δ μ (.im (.bool (c && d))) μ := fun F H σ o Q q =>
  ha F H σ o _ fun v F1 H1 p1 r1 => hb F1 H1 σ (o.post p1) _ fun w F2 H2 p2 r2 => hr F2 H2 v w p2.sub p2.mu (r1.mono p2.gr.f) r2 _ fun u F3 H3 p3 r3 => by
    cases r3
    refine ⟨c, rfl, ?_⟩
    have p := (p1.trans p2).trans p3
    cases c with
    | true => exact hc rfl F3 H3 σ (o.post p) _ fun w' F4 H4 p4 r4 => hr' rfl F4 H4 w w' p4.sub p4.mu ((r2.mono p3.gr.f).mono p4.gr.f) r4 Q fun u F5 H5 p5 r5 => q u F5 H5 ((p.trans p4).trans p5) r5
    | false => exact q _ F3 H3 p (.bl _)
end
end WM

set_option Elab.async false
set_option linter.all false
set_option maxRecDepth 100000
set_option maxHeartbeats 1000000
namespace WM
open PySem L2 StX

/-! ### what is walked -/
abbrev GL := List (Addr × List PyData)
def GLok (F H : Hp) (G : GL) : Prop := ∀ p ∈ G, ∃ vs, H p.1 = some (.lst vs) ∧ Reps F vs p.2
def GLin (G : GL) (μ : Mu) : Prop := ∀ p ∈ G, (p.1, MO.lst (ims p.2)) ∈ μ
theorem GLin.ok {K : PySem.W.Frag} {F H : Hp} {G : GL} {μ : Mu} (h : GLin G μ) (m : MutOk K F H μ) : GLok F H G := fun p hp => by
  obtain ⟨vs, h1, h2⟩ := (m.ok _ (h p hp)).2
  exact ⟨vs, h1, slots_ims h2⟩
theorem glin_nil {μ : Mu} : GLin [] μ := fun _ h => nomatch h
structure Walks (K : PySem.W.Frag) (J : It) (G : GL) (F : Hp) (ds : List PyData) : Prop where
  go : ∀ F1 H1 (i : Nat) (d : PyData), Sub F F1 → Sub F1 H1 → GLok F1 H1 G → ds[i]? = some d → J.go i H1 ∧ ∀ x H2, J.yld i H1 x H2 → ∃ F2, Post K [] F1 H1 [] F2 H2 ∧ Rep F2 x d
  stop : ∀ F1 H1, Sub F F1 → Sub F1 H1 → GLok F1 H1 G → J.stop ds.length H1
def EvI (K : PySem.W.Frag) (wi : TI) (δ : DEnv) (μ : Mu) (G : GL) (ds : List PyData) (μ0 : Mu) : Prop :=
  ∀ F H σ, Ok K F H σ δ μ → ∀ R : It → Hp → Prop, (∀ J F' H', Post K μ F H μ0 F' H' → Walks K J G F' ds → R J H') → wi σ H R

theorem post0 {K : PySem.W.Frag} {F H : Hp} (s : Sub F H) : Post K [] F H [] F H := .refl s ⟨List.nodup_nil, fun _ h => nomatch h⟩
theorem mut0 {K : PySem.W.Frag} {F H : Hp} : MutOk K F H [] := ⟨List.nodup_nil, fun _ h => nomatch h⟩
theorem Post.fr0 {K : PySem.W.Frag} {μ : Mu} {F H F' H' : Hp} (m : MutOk K F H μ) (p : Post K [] F H [] F' H') : Post K μ F H μ F' H' := Post.frame (μ := []) (μ' := []) m p

section
variable {K : PySem.W.Frag} {δ : DEnv} {μ μ1 μ2 μ3 : Mu} {ta tb te tc : TE} {t u : TT} {x y z s : Slot} {b : Bool}
theorem sql_of {H : Hp} {a : Addr} {xs : List V} (h : H a = some (.lst xs)) : SqL K H a xs := .inl (.inl h)
theorem sqt_of {H : Hp} {a : Addr} {xs : List V} (h : H a = some (.tup xs)) : SqT K H a xs := .inl (.inl h)
theorem ei_list {ds : List PyData} (h : Ev K ta δ μ (.im (.list ds)) μ1) : EvI K (iList K ta) δ μ [] ds μ1 := fun F H σ o R q =>
  h F H σ o _ fun v F1 H1 p1 r1 => by
    obtain ⟨a, vs, rfl, ha, r⟩ := Rep.at_lst r1
    refine ⟨a, rfl, ⟨vs, sql_of (p1.sub _ _ ha)⟩, q _ F1 H1 p1 ⟨fun F2 H2 i d e1 e2 _ hd => ?_, fun F2 H2 e1 e2 _ => ?_⟩⟩
    · have hq : SqL K H2 a vs := sql_of (e2 _ _ (e1 _ _ ha))
      obtain ⟨w, hw, rw⟩ := r.get hd
      refine ⟨⟨vs, w, hq, hw⟩, fun x H3 ⟨ey, hy⟩ => ⟨F2, ?_, ?_⟩⟩
      · rw [ey]; exact post0 e2
      · have e3 := (hy vs hq).symm.trans hw
        cases e3
        exact Rep.mono e1 rw
    · exact ⟨vs, sql_of (e2 _ _ (e1 _ _ ha)), by rw [r.length]; exact Nat.le_refl _⟩
theorem ei_listM {a : Addr} {ds : List PyData} (j : Nat) (h : Ev K ta δ μ (.mr a) μ1) (hj : μ1[j]? = some (a, .lst (ims ds))) : EvI K (iList K ta) δ μ [(a, ds)] ds μ1 := fun F H σ o R q =>
  h F H σ o _ fun v F1 H1 p1 r1 => by
    have e : v = .ref a := r1
    subst e
    obtain ⟨us, hu, _⟩ := (p1.mu.ok _ (List.mem_of_getElem? hj)).2
    refine ⟨a, rfl, ⟨us, .inl (.inl hu)⟩, q _ F1 H1 p1 ⟨fun F2 H2 i d e1 e2 g hd => ?_, fun F2 H2 e1 e2 g => ?_⟩⟩
    · obtain ⟨vs, hv, r⟩ := g (a, ds) (by simp)
      have hq : SqL K H2 a vs := .inl (.inl hv)
      obtain ⟨w, hw, rw⟩ := r.get hd
      refine ⟨⟨vs, w, hq, hw⟩, fun x H3 ⟨ey, hy⟩ => ⟨F2, ?_, ?_⟩⟩
      · rw [ey]; exact post0 e2
      · have e3 := (hy vs hq).symm.trans hw
        cases e3
        exact rw
    · obtain ⟨vs, hv, r⟩ := g (a, ds) (by simp)
      exact ⟨vs, .inl (.inl hv), by rw [r.length]; exact Nat.le_refl _⟩
theorem glin_one {a : Addr} {ds : List PyData} (j : Nat) (hj : μ[j]? = some (a, .lst (ims ds))) : GLin [(a, ds)] μ := fun p hp => by
  have e : p = (a, ds) := by simpa using hp
  subst e
  exact List.mem_of_getElem? hj
theorem ei_tup {ds : List PyData} (h : Ev K ta δ μ (.im (.tuple ds)) μ1) : EvI K (iTup K ta) δ μ [] ds μ1 := fun F H σ o R q =>
  h F H σ o _ fun v F1 H1 p1 r1 => by
    obtain ⟨a, vs, rfl, ha, r⟩ := Rep.at_tup r1
    refine ⟨a, rfl, ⟨vs, sqt_of (p1.sub _ _ ha)⟩, q _ F1 H1 p1 ⟨fun F2 H2 i d e1 e2 _ hd => ?_, fun F2 H2 e1 e2 _ => ?_⟩⟩
    · have hq : SqT K H2 a vs := sqt_of (e2 _ _ (e1 _ _ ha))
      obtain ⟨w, hw, rw⟩ := r.get hd
      refine ⟨⟨vs, w, hq, hw⟩, fun x H3 ⟨ey, hy⟩ => ⟨F2, ?_, ?_⟩⟩
      · rw [ey]; exact post0 e2
      · have e3 := (hy vs hq).symm.trans hw
        cases e3
        exact Rep.mono e1 rw
    · exact ⟨vs, sqt_of (e2 _ _ (e1 _ _ ha)), by rw [r.length]; exact Nat.le_refl _⟩
def rngD (lo : Int) (n : Nat) : List PyData := (List.range n).map fun i : Nat => .int (lo + ((i : Nat) : Int))
theorem rngD_len (lo : Int) (n : Nat) : (rngD lo n).length = n := by unfold rngD; rw [List.length_map, List.length_range]
theorem rngD_get {lo : Int} {n i : Nat} {d : PyData} (h : (rngD lo n)[i]? = some d) : i < n ∧ d = .int (lo + (i : Int)) := by
  unfold rngD at h
  rw [List.getElem?_map] at h
  cases e : (List.range n)[i]? with
  | none => rw [e] at h; cases h
  | some j =>
    rw [e] at h
    obtain ⟨h1, h2⟩ := List.getElem?_eq_some_iff.mp e
    rw [List.getElem_range] at h2
    rw [List.length_range] at h1
    subst h2
    cases h
    exact ⟨h1, rfl⟩
theorem walks_range {G : GL} {F : Hp} {lo : Int} {n : Nat} : Walks K (Itr lo n) G F (rngD lo n) :=
  ⟨fun F1 H1 i d _ e2 _ hd => by
    obtain ⟨h1, rfl⟩ := rngD_get hd
    refine ⟨h1, fun x H2 ⟨ey, ex⟩ => ⟨F1, ?_, ?_⟩⟩
    · rw [ey]; exact post0 e2
    · rw [ex]; exact .int _, fun F1 H1 _ _ _ => by show n ≤ _; rw [rngD_len]; exact Nat.le_refl _⟩
theorem ei_rng1 {tr : TA} {n : Int} (h : EvA K tr δ μ [.im (.int n)] μ1) (h0 : -1000 ≤ n) (hn : n ≤ 100000) : EvI K (iRng1 tr) δ μ [] (rngD 0 n.toNat) μ1 := fun F H σ o R q =>
  h F H σ o _ fun vs F1 H1 p1 r1 => by
    obtain ⟨v, rfl, r⟩ := slots1 r1
    cases r
    exact ⟨n, rfl, by omega, by omega, q _ F1 H1 p1 walks_range⟩
theorem ei_rng2 {tr : TA} {i n : Int} (h : EvA K tr δ μ [.im (.int i), .im (.int n)] μ1) (h0 : -1000 ≤ n ∧ -1000 ≤ i ∧ i ≤ 100000) (hn : n ≤ 100000) : EvI K (iRng2 tr) δ μ [] (rngD i (n - i).toNat) μ1 := fun F H σ o R q =>
  h F H σ o _ fun vs F1 H1 p1 r1 => by
    obtain ⟨v, w, rfl, r, r'⟩ := slots2 r1
    cases r
    cases r'
    exact ⟨i, n, rfl, ⟨by omega, by omega, by omega, by omega⟩, q _ F1 H1 p1 walks_range⟩
/-- a list, frozen or mutable -/
def LstS (s : Slot) (ds : List PyData) (G : GL) : Prop := (s = .im (.list ds) ∧ G = []) ∨ ∃ a, s = .mr a ∧ G = [(a, ds)]
theorem lst_im {ds : List PyData} : LstS (.im (.list ds)) ds [] := .inl ⟨rfl, rfl⟩
theorem lst_mr {ds : List PyData} {a : Addr} : LstS (.mr a) ds [(a, ds)] := .inr ⟨a, rfl, rfl⟩
theorem LstS.at {F : Hp} {v : V} {ds : List PyData} {G : GL} (h : LstS s ds G) (r : SlotOk K F v s) : ∃ a, v = .ref a ∧ ∀ F1 H1 G', Sub F F1 → Sub F1 H1 → GLok F1 H1 G' → (∀ p ∈ G, p ∈ G') → ∃ vs, H1 a = some (.lst vs) ∧ Reps F1 vs ds := by
  rcases h with ⟨rfl, rfl⟩ | ⟨a, rfl, rfl⟩
  · obtain ⟨a, vs, rfl, ha, r⟩ := Rep.at_lst r
    exact ⟨a, rfl, fun F1 H1 _ e1 e2 _ _ => ⟨vs, e2 _ _ (e1 _ _ ha), r.mono e1⟩⟩
  · exact ⟨a, r, fun F1 H1 _ _ _ g hs => g (a, ds) (hs _ (by simp))⟩
def enumD : Nat → List PyData → List PyData
  | _, [] => []
  | k, d :: ds => .tuple [.int (k : Int), d] :: enumD (k + 1) ds
theorem enumD_len : ∀ (k : Nat) (ds : List PyData), (enumD k ds).length = ds.length
  | _, [] => rfl
  | k, d :: ds => congrArg (· + 1) (enumD_len (k + 1) ds)
theorem enumD_get : ∀ {k : Nat} {ds : List PyData} {i : Nat} {e : PyData}, (enumD k ds)[i]? = some e → ∃ d, ds[i]? = some d ∧ e = .tuple [.int ((k + i : Nat) : Int), d]
  | _, [], _, _, h => by simp [enumD] at h
  | k, d :: ds, 0, e, h => by
    have h2 : some (PyData.tuple [.int (k : Int), d]) = some e := h
    cases h2
    exact ⟨d, rfl, rfl⟩
  | k, d :: ds, i + 1, e, h => by
    obtain ⟨d', h1, h2⟩ := enumD_get (k := k + 1) (ds := ds) (i := i) (e := e) h
    refine ⟨d', h1, ?_⟩
    rw [h2, show k + 1 + i = k + (i + 1) by omega]
theorem rep_pair {F : Hp} {T : Addr} {v w : V} {d e : PyData} (s : Sub F H) (hT : H T = none) (h1 : Rep F v d) (h2 : Rep F w e) : Post K [] F H [] (upd F T (.tup [v, w])) (upd H T (.tup [v, w])) ∧ Rep (upd F T (.tup [v, w])) (.ref T) (.tuple [d, e]) := by
  have L := Post.lay (K := K) (μ := []) (o := .tup [v, w]) s mut0 hT
  exact ⟨L, .tup upd_same (.cons (Rep.mono L.gr.f h1) (.cons (Rep.mono L.gr.f h2) .nil))⟩
theorem ei_enum {tr : TA} {ds : List PyData} {G : GL} (h : EvA K tr δ μ [s] μ1) (hl : LstS s ds G) (hg : GLin G μ1) : EvI K (iEnum K tr) δ μ G (enumD 0 ds) μ1 := fun F H σ o R q =>
  h F H σ o _ fun vs F1 H1 p1 r1 => by
    obtain ⟨v, rfl, r⟩ := slots1 r1
    obtain ⟨a, rfl, at_⟩ := hl.at r
    obtain ⟨ws, hw, rw0⟩ := at_ F1 H1 G (Sub.refl _) p1.sub (hg.ok p1.mu) (fun _ h => h)
    refine ⟨a, ws, rfl, sql_of hw, q _ F1 H1 p1 ⟨fun F2 H2 i d e1 e2 g hd => ?_, fun F2 H2 e1 e2 g => ?_⟩⟩
    · obtain ⟨ws, hw, rw⟩ := at_ F2 H2 G e1 e2 g (fun _ h => h)
      obtain ⟨d', hd', rfl⟩ := enumD_get hd
      obtain ⟨w, hw2, rw2⟩ := rw.get hd'
      refine ⟨⟨ws, w, sql_of hw, hw2⟩, fun x H3 ⟨T, y, ex, hT, eH, hy⟩ => ?_⟩
      have e3 := (hy ws (sql_of hw)).symm.trans hw2
      cases e3
      subst ex eH
      rw [Nat.zero_add]
      exact ⟨_, rep_pair e2 hT (.int (i : Nat)) rw2⟩
    · obtain ⟨ws, hw, rw⟩ := at_ F2 H2 G e1 e2 g (fun _ h => h)
      exact ⟨ws, sql_of hw, by rw [enumD_len, rw.length]; exact Nat.le_refl _⟩
def zipD (ds es : List PyData) : List PyData := List.zipWith (fun d e => .tuple [d, e]) ds es
theorem zipD_get {ds es : List PyData} {i : Nat} {d : PyData} (h : (zipD ds es)[i]? = some d) : ∃ a b, ds[i]? = some a ∧ es[i]? = some b ∧ d = .tuple [a, b] := by
  unfold zipD at h
  rw [List.getElem?_zipWith] at h
  cases e1 : ds[i]? with
  | none => rw [e1] at h; cases h
  | some a =>
    cases e2 : es[i]? with
    | none => rw [e1, e2] at h; cases h
    | some b =>
      rw [e1, e2] at h
      cases h
      exact ⟨a, b, rfl, rfl, rfl⟩
theorem ei_zip {tr : TA} {ds es : List PyData} {s' : Slot} {G G' : GL} (h : EvA K tr δ μ [s, s'] μ1) (hl : LstS s ds G) (hl' : LstS s' es G') (hg : GLin (G ++ G') μ1) : EvI K (iZip K tr) δ μ (G ++ G') (zipD ds es) μ1 := fun F H σ o R q =>
  h F H σ o _ fun vs F1 H1 p1 r1 => by
    obtain ⟨v, v', rfl, r, r'⟩ := slots2 r1
    obtain ⟨a, rfl, at_⟩ := hl.at r
    obtain ⟨a', rfl, at'⟩ := hl'.at r'
    have g0 := hg.ok p1.mu
    obtain ⟨ws, hw, rw0⟩ := at_ F1 H1 _ (Sub.refl _) p1.sub g0 (fun _ h => List.mem_append_left _ h)
    obtain ⟨ws', hw', rw0'⟩ := at' F1 H1 _ (Sub.refl _) p1.sub g0 (fun _ h => List.mem_append_right _ h)
    refine ⟨a, a', ws, ws', rfl, sql_of hw, sql_of hw', q _ F1 H1 p1 ⟨fun F2 H2 i d e1 e2 g hd => ?_, fun F2 H2 e1 e2 g => ?_⟩⟩
    · obtain ⟨ws, hw, rw⟩ := at_ F2 H2 _ e1 e2 g (fun _ h => List.mem_append_left _ h)
      obtain ⟨ws', hw', rw'⟩ := at' F2 H2 _ e1 e2 g (fun _ h => List.mem_append_right _ h)
      obtain ⟨d1, d2, hd1, hd2, rfl⟩ := zipD_get hd
      obtain ⟨w, hw2, rw2⟩ := rw.get hd1
      obtain ⟨w', hw2', rw2'⟩ := rw'.get hd2
      refine ⟨⟨ws, ws', w, w', sql_of hw, sql_of hw', hw2, hw2'⟩, fun x H3 ⟨T, y, y', ex, hT, eH, hy, hy'⟩ => ?_⟩
      have e3 := (hy ws (sql_of hw)).symm.trans hw2
      have e4 := (hy' ws' (sql_of hw')).symm.trans hw2'
      cases e3
      cases e4
      subst ex eH
      exact ⟨_, rep_pair e2 hT rw2 rw2'⟩
    · obtain ⟨ws, hw, rw⟩ := at_ F2 H2 _ e1 e2 g (fun _ h => List.mem_append_left _ h)
      obtain ⟨ws', hw', rw'⟩ := at' F2 H2 _ e1 e2 g (fun _ h => List.mem_append_right _ h)
      refine ⟨ws, ws', sql_of hw, sql_of hw', ?_⟩
      unfold zipD
      rw [List.length_zipWith, rw.length, rw'.length]
      omega

/-! ### targets -/
def Bnd (K : PySem.W.Frag) (g : TG) (ix : List Nat) (δ : DEnv) (d : PyData) (δ' : DEnv) : Prop :=
  ∀ F H σ μ v, Ok K F H σ δ μ → Rep F v d → ∀ Q : St → Hp → Prop, (∀ σ', Ok K F H σ' δ' μ → σ'.length = σ.length → (∀ j, j ∉ ix → σ'[j]? = σ[j]?) → Q σ' H) → g v σ H Q
def BndS (K : PySem.W.Frag) (g : TGs) (ix : List Nat) (δ : DEnv) (ds : List PyData) (δ' : DEnv) : Prop :=
  ∀ F H σ μ vs, Ok K F H σ δ μ → Reps F vs ds → ∀ Q : St → Hp → Prop, (∀ σ', Ok K F H σ' δ' μ → σ'.length = σ.length → (∀ j, j ∉ ix → σ'[j]? = σ[j]?) → Q σ' H) → g vs σ H Q
theorem bnd_name {i : Nat} {d : PyData} : Bnd K (gName i) [i] δ d (δ.set i (.im d)) := fun F H σ μ v o r Q q =>
  q _ (o.set i (s := .im d) r) (List.length_set ..) fun j hj => List.getElem?_set_ne (fun e => hj (by simp [e]))
theorem bnds_nil : BndS K gNil [] δ [] δ := fun F H σ μ vs o r Q q => by
  cases r
  exact ⟨rfl, q σ o rfl fun _ _ => rfl⟩
theorem bnds_cons {g : TG} {gs : TGs} {ix iy : List Nat} {d : PyData} {ds : List PyData} {δ1 δ2 : DEnv} (h : Bnd K g ix δ d δ1) (hs : BndS K gs iy δ1 ds δ2) : BndS K (gCons g gs) (ix ++ iy) δ (d :: ds) δ2 := fun F H σ μ vs o r Q q => by
  cases r with
  | cons r1 r2 =>
    exact ⟨_, _, rfl, h F H σ μ _ o r1 _ fun σ1 o1 l1 k1 => hs F H σ1 μ _ o1 r2 Q fun σ2 o2 l2 k2 => q σ2 o2 (l2.trans l1) fun j hj =>
      (k2 j fun z => hj (List.mem_append_right _ z)).trans (k1 j fun z => hj (List.mem_append_left _ z))⟩
theorem bnd_tup {gs : TGs} {ix : List Nat} {ds : List PyData} {n : Nat} {δ1 : DEnv} (h : BndS K gs ix δ ds δ1) (hn : ds.length = n) : Bnd K (gTup K n gs) ix δ (.tuple ds) δ1 := fun F H σ μ v o r Q q => by
  obtain ⟨a, vs, rfl, ha, r⟩ := Rep.at_tup r
  exact ⟨a, vs, rfl, sqt_of (o.sub _ _ ha), by rw [r.length]; exact hn, h F H σ μ vs o r Q q⟩
theorem bnd_tup2 {i j : Nat} {d e : PyData} : Bnd K (gTup K 2 (gCons (gName i) (gCons (gName j) gNil))) [i, j] δ (.tuple [d, e]) ((δ.set i (.im d)).set j (.im e)) :=
  bnd_tup (bnds_cons bnd_name (bnds_cons bnd_name bnds_nil)) rfl
theorem bnd_tup3 {i j k : Nat} {d e f : PyData} : Bnd K (gTup K 3 (gCons (gName i) (gCons (gName j) (gCons (gName k) gNil)))) [i, j, k] δ (.tuple [d, e, f]) (((δ.set i (.im d)).set j (.im e)).set k (.im f)) :=
  bnd_tup (bnds_cons bnd_name (bnds_cons bnd_name (bnds_cons bnd_name bnds_nil))) rfl
theorem wipe_in {σ : St} {i : Nat} : ∀ {vs : List Nat}, i ∈ vs → i < σ.length → (L2.wipe σ vs)[i]? = some none
  | v :: vs, h, hl => by
    unfold L2.wipe
    by_cases e : v = i
    · subst e
      rw [List.getElem?_set_self (by rw [wipe_length]; exact hl)]
    · rw [List.getElem?_set_ne e]
      rcases List.mem_cons.mp h with z | z
      · exact absurd z.symm e
      · exact wipe_in z hl
theorem wipe_eq {σ σ' : St} {vs : List Nat} (hl : σ'.length = σ.length) (h : ∀ j, j ∉ vs → σ'[j]? = (L2.wipe σ vs)[j]?) : L2.wipe σ' vs = L2.wipe σ vs := by
  apply List.ext_getElem?
  intro i
  by_cases hi : i ∈ vs
  · by_cases hb : i < σ.length
    · rw [wipe_in hi hb, wipe_in hi (by rw [hl]; exact hb)]
    · rw [List.getElem?_eq_none (by rw [wipe_length]; omega), List.getElem?_eq_none (by rw [wipe_length]; omega)]
  · rw [wipe_out hi, h i hi]

/-! ### comprehensions -/
/-- a new list, mutable from here on -/
def EvF (K : PySem.W.Frag) (te : TE) (δ : DEnv) (μ : Mu) (xs : List Slot) (μ' : Mu) : Prop :=
  ∀ F H σ, Ok K F H σ δ μ → ∀ Q : VK, (∀ p F' H', Post K μ F H (μ' ++ [(p, .lst xs)]) F' H' → Q (.ref p) H') → te σ H Q
theorem EvF.ev {xs : List PyData} (h : EvF K te δ μ (ims xs) μ1) : Ev K te δ μ (.im (.list xs)) μ1 := fun F H σ o Q q =>
  h F H σ o Q fun p F1 H1 p1 => by
    have hk : (μ1 ++ [(p, MO.lst (ims xs))])[μ1.length]? = some (p, .lst (ims xs)) := List.getElem?_concat_length
    obtain ⟨ws, hw, rw, pf⟩ := Post.freeze (ν := μ1) p1.sub p1.mu hk (by rw [List.eraseIdx_append_of_length_le (Nat.le_refl _), Nat.sub_self]; simp)
    exact q _ _ _ (p1.trans pf) (Rep.lst upd_same (rw.mono pf.gr.f))
theorem ef_lc {wi : TI} {g : TG} {ix vs : List Nat} {G : GL} {ds : List PyData} {μ0 : Mu} (hi : EvI K wi δ μ G ds μ0) (acc : Nat → List PyData) (M : Nat → Mu) (h0 : M 0 = μ0) (a0 : acc 0 = []) (hl : ds.length ≤ 50000) (hx : ∀ j ∈ ix, j ∈ vs)
    (turn : ∀ (i : Nat) (d : PyData), ds[i]? = some d → GLin G (M i) ∧ ∃ δ' b μ', Bnd K g ix (wipeD δ vs) d δ' ∧ EvT K t δ' (M i) b μ' ∧
      (b = true → ∃ e, Ev K te δ' μ' (.im e) (M (i + 1)) ∧ acc (i + 1) = acc i ++ [e]) ∧ (b = false → M (i + 1) = μ' ∧ acc (i + 1) = acc i)) (hend : GLin G (M ds.length)) :
    EvF K (tLc wi g t te vs) δ μ (ims (acc ds.length)) (M ds.length) := fun F H σ o Q q =>
  hi F H σ o _ fun J F0 H0 p0 w D hD => by
    have al : ∀ i, i ≤ ds.length → (acc i).length ≤ i := by
      intro i
      induction i with
      | zero => intro _; rw [a0]; exact Nat.le_refl _
      | succ i ih =>
        intro hle
        have hd : ds[i]? = some ds[i] := List.getElem?_eq_getElem (by omega)
        obtain ⟨_, δ', b, μ', _, _, h1, h2⟩ := turn i _ hd
        have ih := ih (by omega)
        cases b with
        | true =>
          obtain ⟨e, _, ea⟩ := h1 rfl
          rw [ea, List.length_append, List.length_singleton]
          omega
        | false =>
          rw [(h2 rfl).2]
          omega
    have glr : ∀ {i : Nat}, GLin G (M i) → GLin G (M i ++ [(D, .lst (ims (acc i)))]) := fun h p hp => List.mem_append_left _ (h p hp)
    refine ⟨fun i m H' => m = ds.length - i ∧ i ≤ ds.length ∧ ∃ F', Post K μ0 F0 H0 (M i ++ [(D, .lst (ims (acc i)))]) F' H', ⟨ds.length, rfl, Nat.zero_le _, F0, ?_⟩, ?_⟩
    · rw [h0, a0]
      exact Post.make p0.sub p0.mu hD ⟨[], upd_same, trivial⟩
    · rintro i m H' ⟨rfl, hle, F', p⟩
      by_cases hlt : i < ds.length
      · have hd : ds[i]? = some ds[i] := List.getElem?_eq_getElem hlt
        obtain ⟨gl, δ', b, μ', hb, ht, h1, h2⟩ := turn i _ hd
        obtain ⟨hgo, hy⟩ := w.go F' H' i _ p.gr.f p.sub ((glr gl).ok p.mu) hd
        refine .inr ⟨hgo, fun H2 => ∃ F2, Post K μ0 F0 H0 (M (i + 1) ++ [(D, .lst (ims (acc (i + 1))))]) F2 H2, fun H2 n2 => ⟨ds.length - (i + 1), by omega, rfl, hlt, n2⟩, fun x H2 hyl => ?_⟩
        obtain ⟨F2, p2, rx⟩ := hy x H2 hyl
        have p2' := p.trans (p2.fr0 p.mu)
        have o2 : Ok K F2 H2 σ δ (M i ++ [(D, .lst (ims (acc i)))]) :=
          ⟨p2'.sub, o.len, fun j s e => (o.sl j s e).imp id fun ⟨v, h1, h2⟩ => ⟨v, h1, h2.mono (p0.gr.f.trans p2'.gr.f)⟩, p2'.mu⟩
        refine hb F2 H2 _ _ x (o2.wipe vs) rx _ fun σ2 o3 hl2 hk2 => ⟨wipe_eq (by rw [hl2, wipe_length]) fun j hj => hk2 j fun z => hj (hx j z), ?_⟩
        refine (ht.frame [(D, .lst (ims (acc i)))]) F2 H2 σ2 o3 _ fun F3 H3 p3 => ?_
        cases b with
        | false =>
          obtain ⟨e1, e2⟩ := h2 rfl
          refine ⟨F3, ?_⟩
          rw [e1, e2]
          exact p2'.trans p3
        | true =>
          obtain ⟨e, he, ea⟩ := h1 rfl
          refine (he.frame [(D, .lst (ims (acc i)))]) F3 H3 σ2 (o3.post p3) _ fun y F4 H4 p4 r4 => ?_
          have hk : (M (i + 1) ++ [(D, MO.lst (ims (acc i)))])[(M (i + 1)).length]? = some (D, .lst (ims (acc i))) := List.getElem?_concat_length
          obtain ⟨avs, ha, ra⟩ := (p4.mu.ok _ (List.mem_of_getElem? hk)).2
          have r0 := slots_ims ra
          refine ⟨avs, ha, sz_lt (by have := al i (by omega); rw [r0.length]; omega), F4, ?_⟩
          have ew : (ims (acc i) ++ [Slot.im e]) = ims (acc (i + 1)) := by rw [ea]; unfold ims; rw [List.map_append]; rfl
          have pw := Post.write (K := K) (o' := .lst (ims (acc (i + 1)))) (ho := .lst (avs ++ [y])) p4.sub p4.mu hk ⟨avs ++ [y], upd_same, by rw [← ew]; exact SlotsOk.append ra ⟨r4, trivial⟩⟩
          have es : (M (i + 1) ++ [(D, MO.lst (ims (acc i)))]).set (M (i + 1)).length (D, MO.lst (ims (acc (i + 1)))) = M (i + 1) ++ [(D, .lst (ims (acc (i + 1))))] := by
            rw [List.set_append_right _ _ (Nat.le_refl _), Nat.sub_self]
            rfl
          rw [es] at pw
          exact ((p2'.trans p3).trans p4).trans pw
      · have e : i = ds.length := by omega
        subst e
        exact .inl ⟨w.stop F' H' p.gr.f p.sub ((glr hend).ok p.mu), q D F' H' (p0.trans p)⟩
theorem ev_lc {wi : TI} {g : TG} {ix vs : List Nat} {G : GL} {ds : List PyData} {μ0 : Mu} (hi : EvI K wi δ μ G ds μ0) (acc : Nat → List PyData) (M : Nat → Mu) (h0 : M 0 = μ0) (a0 : acc 0 = []) (hl : ds.length ≤ 50000) (hx : ∀ j ∈ ix, j ∈ vs)
    (turn : ∀ (i : Nat) (d : PyData), ds[i]? = some d → GLin G (M i) ∧ ∃ δ' b μ', Bnd K g ix (wipeD δ vs) d δ' ∧ EvT K t δ' (M i) b μ' ∧
      (b = true → ∃ e, Ev K te δ' μ' (.im e) (M (i + 1)) ∧ acc (i + 1) = acc i ++ [e]) ∧ (b = false → M (i + 1) = μ' ∧ acc (i + 1) = acc i)) (hend : GLin G (M ds.length)) :
    Ev K (tLc wi g t te vs) δ μ (.im (.list (acc ds.length))) (M ds.length) := (ef_lc hi acc M h0 a0 hl hx turn hend).ev
theorem et_yes : EvT K tYes δ μ true μ := fun F H σ o Q q => q F H (.refl o.sub o.mu)
/-- an element for each item, no test, nothing mutable turned -/
theorem ef_map {wi : TI} {g : TG} {ix vs : List Nat} {G : GL} {ds es : List PyData} {μ0 : Mu} (hi : EvI K wi δ μ G ds μ0) (hg : GLin G μ0) (hl : ds.length ≤ 50000) (hx : ∀ j ∈ ix, j ∈ vs) (he : es.length = ds.length)
    (turn : ∀ (i : Nat) (d e : PyData), ds[i]? = some d → es[i]? = some e → ∃ δ', Bnd K g ix (wipeD δ vs) d δ' ∧ Ev K te δ' μ0 (.im e) μ0) : EvF K (tLc wi g tYes te vs) δ μ (ims es) μ0 := by
  have h := ef_lc (te := te) (t := tYes) (g := g) (ix := ix) (vs := vs) hi (fun i => es.take i) (fun _ => μ0) rfl rfl hl hx (fun i d hd => by
    have hlt := (List.getElem?_eq_some_iff.mp hd).1
    have h2 : es[i]? = some es[i] := List.getElem?_eq_getElem (by omega)
    obtain ⟨δ', h3, h4⟩ := turn i d _ hd h2
    exact ⟨hg, δ', true, μ0, h3, et_yes, fun _ => ⟨_, h4, by show es.take (i + 1) = es.take i ++ [es[i]]; rw [List.take_add_one, h2]; rfl⟩, fun z => nomatch z⟩) hg
  have e : es.take ds.length = es := List.take_of_length_le (by omega)
  show EvF K _ δ μ (ims es) μ0
  rw [← e]
  exact h
theorem ev_map {wi : TI} {g : TG} {ix vs : List Nat} {G : GL} {ds es : List PyData} {μ0 : Mu} (hi : EvI K wi δ μ G ds μ0) (hg : GLin G μ0) (hl : ds.length ≤ 50000) (hx : ∀ j ∈ ix, j ∈ vs) (he : es.length = ds.length)
    (turn : ∀ (i : Nat) (d e : PyData), ds[i]? = some d → es[i]? = some e → ∃ δ', Bnd K g ix (wipeD δ vs) d δ' ∧ Ev K te δ' μ0 (.im e) μ0) : Ev K (tLc wi g tYes te vs) δ μ (.im (.list es)) μ0 := (ef_map hi hg hl hx he turn).ev
/-- those items that pass a test, an element for each -/
theorem ev_filt {wi : TI} {g : TG} {ix vs : List Nat} {G : GL} {ds : List PyData} {μ0 : Mu} (p : PyData → Bool) (f : PyData → PyData) (hi : EvI K wi δ μ G ds μ0) (hg : GLin G μ0) (hl : ds.length ≤ 50000) (hx : ∀ j ∈ ix, j ∈ vs)
    (turn : ∀ (i : Nat) (d : PyData), ds[i]? = some d → ∃ δ', Bnd K g ix (wipeD δ vs) d δ' ∧ EvT K t δ' μ0 (p d) μ0 ∧ (p d = true → Ev K te δ' μ0 (.im (f d)) μ0)) : Ev K (tLc wi g t te vs) δ μ (.im (.list ((ds.filter p).map f))) μ0 := by
  have h := ev_lc (te := te) (t := t) (g := g) (ix := ix) (vs := vs) hi (fun i => ((ds.take i).filter p).map f) (fun _ => μ0) rfl rfl hl hx (fun i d hd => by
    obtain ⟨δ', h3, h4, h5⟩ := turn i d hd
    refine ⟨hg, δ', p d, μ0, h3, h4, fun hp => ⟨_, h5 hp, ?_⟩, fun hp => ⟨rfl, ?_⟩⟩
    · show ((ds.take (i + 1)).filter p).map f = ((ds.take i).filter p).map f ++ [f d]
      rw [List.take_add_one, hd, List.filter_append, List.map_append]
      show _ ++ ([d].filter p).map f = _
      rw [List.filter_cons, if_pos hp]
      rfl
    · show ((ds.take (i + 1)).filter p).map f = ((ds.take i).filter p).map f
      rw [List.take_add_one, hd, List.filter_append, List.map_append]
      show _ ++ ([d].filter p).map f = _
      rw [List.filter_cons, if_neg (by rw [hp]; decide)]
      show _ ++ [] = _
      rw [List.append_nil]) hg
  have e : ds.take ds.length = ds := List.take_length
  simp only [e] at h
  exact h
end
end WM

set_option Elab.async false
set_option linter.all false
set_option maxRecDepth 100000
set_option maxHeartbeats 1000000
namespace WM
open PySem L2 StX

/-! ### statements -/
section
variable {K : PySem.W.Frag} {δ δ' : DEnv} {μ μ1 μ2 μ3 : Mu} {ta tb te tc : TE} {t u : TT} {x y z s : Slot} {b : Bool} {N N' : DEnv → Mu → Prop} {R R' : Slot → Mu → Prop} {ts tz tw : TS}
theorem Tri.weak (h : Tri K ts δ μ N R) (hn : ∀ a b, N a b → N' a b) (hr : ∀ a b, R a b → R' a b) : Tri K ts δ μ N' R' := fun F H σ o D hN hR =>
  h F H σ o D (fun a b σ' F' H' n p o' => hN a b σ' F' H' (hn a b n) p o') fun a b v F' H' r p o' => hR a b v F' H' (hr a b r) p o'
theorem Tri.frame {ρ : Mu} (h : Tri K ts δ μ N R) : Tri K ts δ (μ ++ ρ) (fun a b => ∃ b0, b = b0 ++ ρ ∧ N a b0) (fun a b => ∃ b0, b = b0 ++ ρ ∧ R a b0) := fun F H σ o D hN hR =>
  h F H σ o.left D (fun a b σ' F' H' n p o' => by
      have q := p.frame o.mu
      exact hN a (b ++ ρ) σ' F' H' ⟨b, rfl, n⟩ q ⟨o'.sub, o'.len, o'.sl, q.mu⟩) fun a b v F' H' r p o' => hR a (b ++ ρ) v F' H' ⟨b, rfl, r⟩ (p.frame o.mu) o'
theorem t_seq {M : DEnv → Mu → Prop} (h : Tri K ts δ μ M R) (k : ∀ a b, M a b → Tri K tz a b N R) : Tri K (tSeq ts tz) δ μ N R := fun F H σ o D hN hR =>
  h F H σ o { D with nx := tz D } (fun a b σ' F' H' m p o' => k a b m F' H' σ' o' D (fun a2 b2 σ2 F2 H2 n p2 o2 => hN a2 b2 σ2 F2 H2 n (p.trans p2) o2) fun a2 b2 v F2 H2 r p2 o2 => hR a2 b2 v F2 H2 r (p.trans p2) o2) hR
theorem t_set {i : Nat} (h : Ev K te δ μ s μ1) (k : N (δ.set i s) μ1) : Tri K (tAsg te (gName i)) δ μ N R := fun F H σ o D hN hR =>
  h F H σ o _ fun v F1 H1 p1 r1 => hN _ _ _ F1 H1 k p1 ((o.post p1).set i r1)
theorem q_set {i : Nat} (h : Ev K te δ μ s μ1) (k : Tri K tz (δ.set i s) μ1 N R) : Tri K (tSeq (tAsg te (gName i)) tz) δ μ N R := t_seq (t_set (N := At (δ.set i s) μ1) h ⟨rfl, rfl⟩) fun a b ⟨e1, e2⟩ => by subst e1 e2; exact k
/-- a target of any form -/
theorem t_asg {g : TG} {ix : List Nat} {d : PyData} (h : Ev K te δ μ (.im d) μ1) (hb : Bnd K g ix δ d δ') (k : N δ' μ1) : Tri K (tAsg te g) δ μ N R := fun F H σ o D hN hR =>
  h F H σ o _ fun v F1 H1 p1 r1 => hb F1 H1 σ μ1 v (o.post p1) r1 _ fun σ' o' _ _ => hN _ _ _ F1 H1 k p1 o'
theorem q_asg {g : TG} {ix : List Nat} {d : PyData} (h : Ev K te δ μ (.im d) μ1) (hb : Bnd K g ix δ d δ') (k : Tri K tz δ' μ1 N R) : Tri K (tSeq (tAsg te g) tz) δ μ N R := t_seq (t_asg (N := At δ' μ1) h hb ⟨rfl, rfl⟩) fun a b ⟨e1, e2⟩ => by subst e1 e2; exact k
theorem t_par {i j : Nat} {tr : TA} (h : EvA K tr δ μ [x, y] μ1) (k : N ((δ.set i x).set j y) μ1) : Tri K (tPar i j tr) δ μ N R := fun F H σ o D hN hR =>
  h F H σ o _ fun vs F1 H1 p1 r1 => by
    obtain ⟨v, w, rfl, r, r'⟩ := slots2 r1
    exact ⟨v, w, rfl, hN _ _ _ F1 H1 k p1 (((o.post p1).set i r).set j r')⟩
theorem q_par {i j : Nat} {tr : TA} (h : EvA K tr δ μ [x, y] μ1) (k : Tri K tz ((δ.set i x).set j y) μ1 N R) : Tri K (tSeq (tPar i j tr) tz) δ μ N R := t_seq (t_par (N := At ((δ.set i x).set j y) μ1) h ⟨rfl, rfl⟩) fun a b ⟨e1, e2⟩ => by subst e1 e2; exact k
theorem t_drop (h : Ev K te δ μ s μ1) (k : N δ μ1) : Tri K (tDrop te) δ μ N R := fun F H σ o D hN hR => h F H σ o _ fun v F1 H1 p1 r1 => hN _ _ _ F1 H1 k p1 (o.post p1)
theorem q_drop (h : Ev K te δ μ s μ1) (k : Tri K tz δ μ1 N R) : Tri K (tSeq (tDrop te) tz) δ μ N R := t_seq (t_drop (N := At δ μ1) h ⟨rfl, rfl⟩) fun a b ⟨e1, e2⟩ => by subst e1 e2; exact k
theorem t_ret (h : Ev K te δ μ s μ1) (k : R s μ1) : Tri K (tRet te) δ μ N R := fun F H σ o D hN hR => h F H σ o _ fun v F1 H1 p1 r1 => hR s μ1 v F1 H1 k p1 r1
theorem t_next (k : N δ μ) : Tri K tNext δ μ N R := fun F H σ o D hN hR => hN _ _ _ F H k (.refl o.sub o.mu) o
theorem t_if {b : Bool} (h : EvT K t δ μ b μ1) (h1 : b = true → Tri K ts δ μ1 N R) (h2 : b = false → Tri K tw δ μ1 N R) : Tri K (tIfS t ts tw) δ μ N R := fun F H σ o D hN hR =>
  h F H σ o _ fun F1 H1 p1 => by
    cases b with
    | true => exact h1 rfl F1 H1 σ (o.post p1) D (fun a2 b2 σ2 F2 H2 n p2 o2 => hN a2 b2 σ2 F2 H2 n (p1.trans p2) o2) fun a2 b2 v F2 H2 r p2 o2 => hR a2 b2 v F2 H2 r (p1.trans p2) o2
    | false => exact h2 rfl F1 H1 σ (o.post p1) D (fun a2 b2 σ2 F2 H2 n p2 o2 => hN a2 b2 σ2 F2 H2 n (p1.trans p2) o2) fun a2 b2 v F2 H2 r p2 o2 => hR a2 b2 v F2 H2 r (p1.trans p2) o2
theorem q_if {b : Bool} (h : EvT K t δ μ b μ1) (h1 : b = true → Tri K (tSeq ts tz) δ μ1 N R) (h2 : b = false → Tri K (tSeq tw tz) δ μ1 N R) : Tri K (tSeq (tIfS t ts tw) tz) δ μ N R := fun F H σ o D hN hR =>
  h F H σ o _ fun F1 H1 p1 => by
    cases b with
    | true => exact h1 rfl F1 H1 σ (o.post p1) D (fun a2 b2 σ2 F2 H2 n p2 o2 => hN a2 b2 σ2 F2 H2 n (p1.trans p2) o2) fun a2 b2 v F2 H2 r p2 o2 => hR a2 b2 v F2 H2 r (p1.trans p2) o2
    | false => exact h2 rfl F1 H1 σ (o.post p1) D (fun a2 b2 σ2 F2 H2 n p2 o2 => hN a2 b2 σ2 F2 H2 n (p1.trans p2) o2) fun a2 b2 v F2 H2 r p2 o2 => hR a2 b2 v F2 H2 r (p1.trans p2) o2
theorem q_retS (h : Tri K (tRet te) δ μ NoN R) : Tri K (tSeq (tRet te) tz) δ μ N R := t_seq h fun _ _ z => z.elim
theorem q_next (h : Tri K tz δ μ N R) : Tri K (tSeq tNext tz) δ μ N R := h
/-- a branch that cannot be taken -/
theorem t_no (h : EvT K t δ μ false μ1) (k : Tri K tz δ μ1 N R) : Tri K (tSeq (tIfS t ts tNext) tz) δ μ N R := q_if h (fun z => nomatch z) fun _ => k
theorem t_no1 (h : EvT K t δ μ false μ1) (k : N δ μ1) : Tri K (tIfS t ts tNext) δ μ N R := t_if h (fun z => nomatch z) fun _ => t_next k

theorem t_for {wi : TI} {g : TG} {ix : List Nat} {G : GL} {ds : List PyData} {μ0 : Mu} (hi : EvI K wi δ μ G ds μ0) (Iv : Nat → DEnv → Mu → Prop) (h0 : Iv 0 δ μ0) (hg : ∀ i a b, Iv i a b → GLin G b)
    (turn : ∀ (i : Nat) (d : PyData) (a : DEnv) (b : Mu), ds[i]? = some d → Iv i a b → ∃ a', Bnd K g ix a d a' ∧ Tri K ts a' b (Iv (i + 1)) R) (hd : ∀ a b, Iv ds.length a b → N a b) : Tri K (tFor wi g ts) δ μ N R := fun F H σ o D hN hR =>
  hi F H σ o _ fun J F0 H0 p0 w => by
    refine ⟨fun i m σ' H' => m = ds.length - i ∧ i ≤ ds.length ∧ ∃ F' a b, Iv i a b ∧ Post K μ0 F0 H0 b F' H' ∧ Ok K F' H' σ' a b, ⟨ds.length, rfl, Nat.zero_le _, F0, δ, μ0, h0, .refl p0.sub p0.mu, o.post p0⟩, ?_⟩
    rintro i m σ' H' ⟨rfl, hle, F', a, b, iv, p, o'⟩
    by_cases hlt : i < ds.length
    · have hd : ds[i]? = some ds[i] := List.getElem?_eq_getElem hlt
      obtain ⟨a', hb, ht⟩ := turn i _ a b hd iv
      obtain ⟨hgo, hy⟩ := w.go F' H' i _ p.gr.f p.sub ((hg i a b iv).ok p.mu) hd
      refine .inr ⟨hgo, fun σ2 H2 => ∃ F2 a2 b2, Iv (i + 1) a2 b2 ∧ Post K μ0 F0 H0 b2 F2 H2 ∧ Ok K F2 H2 σ2 a2 b2, fun σ2 H2 n2 => ⟨ds.length - (i + 1), by omega, rfl, hlt, n2⟩, fun x H2 hyl => ?_⟩
      obtain ⟨F2, p2, rx⟩ := hy x H2 hyl
      have p2' := p2.fr0 p.mu
      refine hb F2 H2 σ' b x (o'.post p2') rx _ fun σ3 o3 _ _ => ?_
      refine ht F2 H2 σ3 o3 _ (fun a4 b4 σ4 F4 H4 n p4 o4 => ⟨F4, a4, b4, n, (p.trans p2').trans p4, o4⟩) fun a4 b4 v F4 H4 r p4 o4 => hR a4 b4 v F4 H4 r (p0.trans ((p.trans p2').trans p4)) o4
    · have e : i = ds.length := by omega
      subst e
      exact .inl ⟨w.stop F' H' p.gr.f p.sub ((hg _ a b iv).ok p.mu), hN a b σ' F' H' (hd a b iv) (p0.trans p) o'⟩
theorem t_while (Iv : Nat → DEnv → Mu → Prop) (m0 : Nat) (h0 : Iv m0 δ μ)
    (turn : ∀ (m : Nat) (a : DEnv) (c : Mu), Iv m a c → ∃ b, EvT K t a c b c ∧ (b = true → Tri K ts a c (fun a' c' => ∃ m', m' < m ∧ Iv m' a' c') R) ∧ (b = false → N a c)) : Tri K (tWhile t ts) δ μ N R := fun F H σ o D hN hR => by
  refine ⟨fun m σ' H' => ∃ F' a c, Iv m a c ∧ Post K μ F H c F' H' ∧ Ok K F' H' σ' a c, ⟨m0, F, δ, μ, h0, .refl o.sub o.mu, o⟩, ?_⟩
  rintro m σ' H' ⟨F', a, c, iv, p, o'⟩
  obtain ⟨b, ht, h1, h2⟩ := turn m a c iv
  refine ht F' H' σ' o' _ fun F2 H2 p2 => ?_
  cases b with
  | true =>
    refine ⟨fun σ4 H4 => ∃ m', m' < m ∧ ∃ F4 a4 c4, Iv m' a4 c4 ∧ Post K μ F H c4 F4 H4 ∧ Ok K F4 H4 σ4 a4 c4, fun σ4 H4 ⟨m', hm, w⟩ => ⟨m', hm, w⟩, ?_⟩
    exact h1 rfl F2 H2 σ' (o'.post p2) _ (fun a4 c4 σ4 F4 H4 ⟨m', hm, n⟩ p4 o4 => ⟨m', hm, F4, a4, c4, n, (p.trans p2).trans p4, o4⟩) fun a4 b4 v F4 H4 r p4 o4 => hR a4 b4 v F4 H4 r ((p.trans p2).trans p4) o4
  | false => exact hN a c σ' F2 H2 (h2 rfl) (p.trans p2) (o'.post p2)

/-! ### what is mutable -/
/-- a new mutable list -/
theorem ev_newM {xs : List Slot} {tr : TA} (i : Nat) (h : EvA K tr δ μ xs μ1) (hl : xs.length ≤ 100000) (k : ∀ a, Tri K tz (δ.set i (.mr a)) (μ1 ++ [(a, .lst xs)]) N R) : Tri K (tSeq (tAsg (tLst tr) (gName i)) tz) δ μ N R := fun F H σ o D hN hR =>
  h F H σ o _ fun vs F1 H1 p1 r1 => by
    refine ⟨sz_le (by rw [r1.length]; exact hl), fun p hp => ?_⟩
    have L := Post.make (o := .lst xs) (ho := .lst vs) p1.sub p1.mu hp ⟨vs, upd_same, r1⟩
    have P := p1.trans L
    exact k p _ _ _ ((o.post P).set i (s := .mr p) rfl) D (fun a2 b2 σ2 F2 H2 n p2 o2 => hN a2 b2 σ2 F2 H2 n (P.trans p2) o2) fun a2 b2 v F2 H2 r p2 o2 => hR a2 b2 v F2 H2 r (P.trans p2) o2
theorem q_setF {xs : List Slot} (i : Nat) (h : EvF K te δ μ xs μ1) (k : ∀ a, Tri K tz (δ.set i (.mr a)) (μ1 ++ [(a, .lst xs)]) N R) : Tri K (tSeq (tAsg te (gName i)) tz) δ μ N R := fun F H σ o D hN hR =>
  h F H σ o _ fun p F1 H1 P => k p _ _ _ ((o.post P).set i (s := .mr p) rfl) D (fun a2 b2 σ2 F2 H2 n p2 o2 => hN a2 b2 σ2 F2 H2 n (P.trans p2) o2) fun a2 b2 v F2 H2 r p2 o2 => hR a2 b2 v F2 H2 r (P.trans p2) o2
theorem ef_lst {xs : List Slot} {tr : TA} (h : EvA K tr δ μ xs μ1) (hl : xs.length ≤ 100000) : EvF K (tLst tr) δ μ xs μ1 := fun F H σ o Q q =>
  h F H σ o _ fun vs F1 H1 p1 r1 => ⟨sz_le (by rw [r1.length]; exact hl), fun p hp => q p _ _ (p1.trans (Post.make (o := .lst xs) (ho := .lst vs) p1.sub p1.mu hp ⟨vs, upd_same, r1⟩))⟩
theorem ef_rep {ds : List PyData} {k : Int} (ha : Ev K ta δ μ (.im (.list ds)) μ1) (hb : Ev K tb δ μ1 (.im (.int k)) μ2) (hk : k ≤ 1000) (h0 : -1000 ≤ k) (hl : ds.length ≤ 100) : EvF K (tOp rMulA ta tb) δ μ (ims (List.replicate k.toNat ds).flatten) μ2 := fun F H σ o Q q =>
  ha F H σ o _ fun v F1 H1 p1 r1 => hb F1 H1 σ (o.post p1) _ fun w F2 H2 p2 r2 => by
    obtain ⟨a, vs, rfl, ha, r⟩ := Rep.at_lst r1
    cases r2
    have r := r.mono p2.gr.f
    refine .inr ⟨a, k, vs, rfl, rfl, p2.sub _ _ (p2.gr.f _ _ ha), by omega, by omega, sz_le ?_, fun p hp => q p _ _ ((p1.trans p2).trans (Post.make (o := .lst (ims (List.replicate k.toNat ds).flatten)) (ho := .lst (List.replicate k.toNat vs).flatten) p2.sub p2.mu hp ⟨_, upd_same, ims_slots (r.rep k.toNat)⟩))⟩
    rw [r.length]
    exact Nat.le_trans (Nat.mul_le_mul hl (show k.toNat ≤ 1000 by omega)) (by decide)
/-- thawed: a frozen list cannot; a comprehension's list as a mutable one: the frozen list is new -/
theorem ev_freeze {a : Addr} {ds : List PyData} (k : Nat) (h : Ev K te δ μ (.mr a) μ1) (hk : μ1[k]? = some (a, .lst (ims ds))) : Ev K te δ μ (.im (.list ds)) (μ1.eraseIdx k) := fun F H σ o Q q =>
  h F H σ o _ fun v F1 H1 p1 r1 => by
    have e : v = .ref a := r1
    subst e
    obtain ⟨vs, hv, r, p2⟩ := Post.freeze p1.sub p1.mu hk rfl
    refine q _ (upd F1 a (.lst vs)) H1 (p1.trans p2) (Rep.lst upd_same (r.mono p2.gr.f))
/-- o[i] = e, o a mutable list -/
theorem t_setI {a : Addr} {xs : List Slot} {i : Int} {j : Nat} (k : Nat) (he : Ev K te δ μ s μ1) (ho : Ev K ta δ μ1 (.mr a) μ2) (hi : Ev K tb δ μ2 (.im (.int i)) μ3) (hk : μ3[k]? = some (a, .lst xs)) (hj : ixN xs.length i = some j)
    (kk : N δ (μ3.set k (a, .lst (xs.set j s)))) : Tri K (tAsg te (gSub ta tb rSetL)) δ μ N R := fun F H σ o D hN hR =>
  he F H σ o _ fun v F1 H1 p1 r1 => ho F1 H1 σ (o.post p1) _ fun w F2 H2 p2 r2 => hi F2 H2 σ ((o.post p1).post p2) _ fun y F3 H3 p3 r3 => by
    have e : w = .ref a := r2
    subst e
    cases r3
    obtain ⟨vs, hv, rv⟩ := (p3.mu.ok _ (List.mem_of_getElem? hk)).2
    have P := (p1.trans p2).trans p3
    refine ⟨a, vs, i, j, rfl, rfl, hv, by rw [rv.length]; exact hj, ?_⟩
    have W := Post.write (o' := .lst (xs.set j s)) (ho := .lst (vs.set j v)) p3.sub p3.mu hk ⟨_, upd_same, SlotsOk.set ((r1.mono p2.gr.f).mono p3.gr.f) j rv⟩
    exact hN _ _ _ _ _ kk (P.trans W) ((o.post P).post W)
/-- o.append(e) -/
theorem t_app {a : Addr} {xs : List Slot} (k : Nat) (ho : Ev K ta δ μ (.mr a) μ1) (he : Ev K te δ μ1 s μ2) (h1 : ∃ (j : Nat) (ys : List Slot), μ1[j]? = some (a, MO.lst ys)) (hk : μ2[k]? = some (a, .lst xs)) (hl : xs.length ≤ 50000)
    (kk : N δ (μ2.set k (a, .lst (xs ++ [s])))) : Tri K (tDrop (tBM K "list" rAppend ta (tCons te tNil))) δ μ N R := fun F H σ o D hN hR =>
  ho F H σ o _ fun w F1 H1 p1 r1 => by
    have e : w = .ref a := r1
    subst e
    obtain ⟨j, ys, hj⟩ := h1
    obtain ⟨us, hu, _⟩ := (p1.mu.ok _ (List.mem_of_getElem? hj)).2
    refine ⟨.inl ⟨rfl, us, sql_of hu⟩, he F1 H1 σ (o.post p1) _ fun v F2 H2 p2 r2 => ?_⟩
    obtain ⟨vs, hv, rv⟩ := (p2.mu.ok _ (List.mem_of_getElem? hk)).2
    refine ⟨a, vs, v, rfl, rfl, hv, sz_lt (by rw [rv.length]; omega), ?_⟩
    have P := p1.trans p2
    have W := Post.write (o' := .lst (xs ++ [s])) (ho := .lst (vs ++ [v])) p2.sub p2.mu hk ⟨_, upd_same, SlotsOk.append rv ⟨r2, trivial⟩⟩
    exact hN _ _ _ _ _ kk (P.trans W) ((o.post P).post W)
/-- self.f = e -/
theorem t_fld {a C : Addr} {fs : List (Str × Slot)} {f : Str} (k : Nat) (he : Ev K te δ μ s μ1) (ho : Ev K ta δ μ1 (.mr a) μ2) (hk : μ2[k]? = some (a, .ins C fs)) (hc : Cls K C) (hn : NoAttr K C f) (hl : fs.length < 1000)
    (kk : N δ (μ2.set k (a, .ins C (putS f s fs)))) : Tri K (sFld K ta te f) δ μ N R := fun F H σ o D hN hR =>
  he F H σ o _ fun v F1 H1 p1 r1 => ho F1 H1 σ (o.post p1) _ fun w F2 H2 p2 r2 => by
    have e : w = .ref a := r2
    subst e
    obtain ⟨dx, gs, hg, e1, e2⟩ := (p2.mu.ok _ (List.mem_of_getElem? hk)).2
    have P := p1.trans p2
    have hlen : gs.length = fs.length := by rw [← List.length_map (f := (·.1)), e1, List.length_map]
    refine ⟨a, C, dx, gs, rfl, hg, hc, hn, by rw [hlen]; exact hl, ?_⟩
    obtain ⟨q1, q2⟩ := fld_put (f := f) (r1.mono p2.gr.f) e1 e2
    have W := Post.write (o' := .ins C (putS f s fs)) (ho := .ins C dx (putF f v gs)) p2.sub p2.mu hk ⟨dx, _, upd_same, q1, q2⟩
    exact hN _ _ _ _ _ kk (P.trans W) ((o.post P).post W)
theorem q_fld {a C : Addr} {fs : List (Str × Slot)} {f : Str} (k : Nat) (he : Ev K te δ μ s μ1) (ho : Ev K ta δ μ1 (.mr a) μ2) (hk : μ2[k]? = some (a, .ins C fs)) (hc : Cls K C) (hn : NoAttr K C f) (hl : fs.length < 1000)
    (kk : Tri K tz δ (μ2.set k (a, .ins C (putS f s fs))) N R) : Tri K (tSeq (sFld K ta te f) tz) δ μ N R :=
  t_seq (t_fld (N := At δ (μ2.set k (a, .ins C (putS f s fs)))) k he ho hk hc hn hl ⟨rfl, rfl⟩) fun a b ⟨e1, e2⟩ => by subst e1 e2; exact kk
/-- self.f = a new list, mutable from here on -/
theorem q_fldF {a C : Addr} {fs : List (Str × Slot)} {f : Str} {xs : List Slot} (k : Nat) (he : EvF K te δ μ xs μ1) (ho : ∀ l, Ev K ta δ (μ1 ++ [(l, .lst xs)]) (.mr a) (μ1 ++ [(l, .lst xs)])) (hk : μ1[k]? = some (a, .ins C fs)) (hc : Cls K C) (hn : NoAttr K C f) (hl : fs.length < 1000)
    (kk : ∀ l, Tri K tz δ (μ1.set k (a, .ins C (putS f (.mr l) fs)) ++ [(l, .lst xs)]) N R) : Tri K (tSeq (sFld K ta te f) tz) δ μ N R := fun F H σ o D hN hR =>
  he F H σ o _ fun p F1 H1 P => by
    have hkl : k < μ1.length := (List.getElem?_eq_some_iff.mp hk).1
    refine ho p _ _ σ (o.post P) _ fun w F2 H2 p2 r2 => ?_
    have e : w = .ref a := r2
    subst e
    have hk2 : (μ1 ++ [(p, MO.lst xs)])[k]? = some (a, .ins C fs) := by rw [List.getElem?_append_left hkl]; exact hk
    obtain ⟨dx, gs, hg, e1, e2⟩ := (p2.mu.ok _ (List.mem_of_getElem? hk2)).2
    have hlen : gs.length = fs.length := by rw [← List.length_map (f := (·.1)), e1, List.length_map]
    refine ⟨a, C, dx, gs, rfl, hg, hc, hn, by rw [hlen]; exact hl, ?_⟩
    obtain ⟨q1, q2⟩ := fld_put (f := f) (v := .ref p) (s := .mr p) (show SlotOk K F2 (.ref p) (.mr p) from rfl) e1 e2
    have W := Post.write (o' := .ins C (putS f (.mr p) fs)) (ho := .ins C dx (putF f (.ref p) gs)) p2.sub p2.mu hk2 ⟨dx, _, upd_same, q1, q2⟩
    rw [List.set_append_left _ _ hkl] at W
    have PP := (P.trans p2).trans W
    exact kk p _ _ σ (o.post PP) D (fun a2 b2 σ2 F2 H2 n p2 o2 => hN a2 b2 σ2 F2 H2 n (PP.trans p2) o2) fun a2 b2 v F2 H2 r p2 o2 => hR a2 b2 v F2 H2 r (PP.trans p2) o2

/-! ### promises -/
abbrev PreT := List Slot → Mu → (Slot → Mu → Prop) → Prop
def SpW (K : PySem.W.Frag) (Pre : PreT) : Sp := fun vs H Q _ => ∃ F ss μ O, Pre ss μ O ∧ SlotsOk K F vs ss ∧ Sub F H ∧ MutOk K F H μ ∧ ∀ r μ' v F' H', O r μ' → Post K μ F H μ' F' H' → SlotOk K F' v r → Q v H'
theorem sp_len {Pre : PreT} {n : Nat} (h : ∀ ss μ O, Pre ss μ O → ss.length = n) : ∀ vs H Q E, SpW K Pre vs H Q E → vs.length = n := fun vs H Q E ⟨F, ss, μ, O, hp, hs, _⟩ => hs.length.trans (h ss μ O hp)
theorem ev_call {Pre : PreT} {tr : TA} {E : XK} {ss : List Slot} {rel rel' ρ : Mu} (h : EvA K tr δ μ ss (rel ++ ρ)) (hp : Pre ss rel (fun r m => r = s ∧ m = rel')) : Ev K (tCall (SpW K Pre) [] E tr) δ μ s (rel' ++ ρ) := fun F H σ o Q q =>
  h F H σ o _ fun vs F1 H1 p1 r1 => ⟨F1, ss, rel, _, hp, by rw [List.append_nil]; exact r1, p1.sub, p1.mu.left, fun r m v F2 H2 ⟨e1, e2⟩ p2 r2 => by
    subst e1 e2
    exact q v F2 H2 (p1.trans (p2.frame p1.mu)) r2⟩
/-- a call that turns nothing mutable -/
theorem ev_call0 {Pre : PreT} {tr : TA} {E : XK} {ss : List Slot} (h : EvA K tr δ μ ss μ1) (hp : Pre ss [] (Is s [])) : Ev K (tCall (SpW K Pre) [] E tr) δ μ s μ1 := fun F H σ o Q q =>
  h F H σ o _ fun vs F1 H1 p1 r1 => ⟨F1, ss, [], _, hp, by rw [List.append_nil]; exact r1, p1.sub, mut0, fun r m v F2 H2 ⟨e1, e2⟩ p2 r2 => by
    subst e1
    exact q v F2 H2 (p1.trans ((p2.drop e2).fr0 p1.mu)) r2⟩
theorem ev_meth {Pre : PreT} {tr : TA} {E : XK} {C : Addr} {m : Str} {a : Addr} {fs : List (Str × Slot)} {ss : List Slot} {rel rel' ρ : Mu} (k : Nat) (ho : Ev K ta δ μ (.mr a) μ1) (hk : μ1[k]? = some (a, .ins C fs)) (hm : fs.lookup m = none) (h : EvA K tr δ μ1 ss (rel ++ ρ))
    (hp : Pre (.mr a :: ss) rel (fun r m => r = s ∧ m = rel')) : Ev K (tMeth C m (SpW K Pre) [] E ta tr) δ μ s (rel' ++ ρ) := fun F H σ o Q q =>
  ho F H σ o _ fun w F0 H0 p0 r0 => by
    have e : w = .ref a := r0
    subst e
    obtain ⟨dx, gs, hg, e1, e2⟩ := (p0.mu.ok _ (List.mem_of_getElem? hk)).2
    refine ⟨a, dx, gs, rfl, hg, fld_none e1 hm, h F0 H0 σ (o.post p0) _ fun vs F1 H1 p1 r1 => ⟨F1, .mr a :: ss, rel, _, hp, by rw [List.append_nil]; exact ⟨rfl, r1⟩, p1.sub, p1.mu.left, fun r m v F2 H2 ⟨e1, e2⟩ p2 r2 => ?_⟩⟩
    subst e1 e2
    exact q v F2 H2 ((p0.trans p1).trans (p2.frame p1.mu)) r2
/-- x = C(..): a new instance, then __init__ -/
theorem q_make {Pre : PreT} {tr : TA} {E : XK} {C : Addr} {ss : List Slot} {O : Addr → Slot → Mu → Prop} (i : Nat) (h : EvA K tr δ μ ss μ1) (hp : ∀ a, Pre (.mr a :: ss) [(a, .ins C [])] (O a))
    (kk : ∀ a m, O a (.im .none) m → Tri K tz (δ.set i (.mr a)) (m ++ μ1) N R) (hO : ∀ a r m, O a r m → r = .im .none) : Tri K (tSeq (tAsg (tMake C (SpW K Pre) [] E tr) (gName i)) tz) δ μ N R := fun F H σ o D hN hR =>
  h F H σ o _ fun vs F1 H1 p1 r1 x dx hx hd hne => by
    -- the instance's own dict is new, too: it is frozen data
    have L1 := Post.lay (K := K) (μ := μ1) (o := .own x) p1.sub p1.mu hd
    have hx2 : (upd H1 dx (.own x)) x = none := by rw [upd_ne (Ne.symm hne)]; exact hx
    have L2 := Post.make (K := K) (o := .ins C []) (ho := .ins C dx []) L1.sub L1.mu hx2 ⟨dx, [], upd_same, rfl, trivial⟩
    have P := (p1.trans L1).trans L2
    have m2 : MutOk K (upd F1 dx (.own x)) (upd (upd H1 dx (.own x)) x (.ins C dx [])) ([(x, .ins C [])] ++ μ1) := by
      have nd := L2.mu.nd
      rw [keys_app] at nd
      obtain ⟨n1, n2, n3⟩ := List.nodup_append.mp nd
      refine ⟨?_, fun p hp => L2.mu.ok p ?_⟩
      · rw [keys_app]
        exact List.nodup_append.mpr ⟨n2, n1, fun a ha b hb e => n3 b hb a ha e.symm⟩
      · rcases List.mem_append.mp hp with hp | hp
        · exact List.mem_append_right _ hp
        · exact List.mem_append_left _ hp
    refine ⟨upd F1 dx (.own x), .mr x :: ss, [(x, .ins C [])], _, hp x, by rw [List.append_nil]; exact ⟨rfl, r1.mono (L1.gr.f.trans L2.gr.f)⟩, L2.sub, m2.left, fun r m v F2 H2 ho p2 r2 => ?_⟩
    have er := hO x r m ho
    subst er
    cases r2
    refine ⟨rfl, ?_⟩
    have pf := p2.frame m2
    -- seen from the state ahead of the instance
    have P2 : Post K μ F H (m ++ μ1) F2 H2 := by
      have q1 : Post K μ1 F1 H1 (m ++ μ1) F2 H2 := by
        have nk : ∀ a, H1 a ≠ none → a ≠ x ∧ a ≠ dx := fun a ha => ⟨fun e => ha (by rw [e]; exact hx), fun e => ha (by rw [e]; exact hd)⟩
        have up : ∀ a, H1 a ≠ none → (upd (upd H1 dx (.own x)) x (.ins C dx [])) a = H1 a := fun a ha => by rw [upd_ne (nk a ha).1, upd_ne (nk a ha).2]
        have kx : ∀ a, a ∉ keys μ1 → H1 a ≠ none → a ∉ keys ([(x, MO.ins C [])] ++ μ1) := fun a h1 h2 h3 => by
          rw [keys_app] at h3
          rcases List.mem_append.mp h3 with z | z
          · exact (nk a h2).1 (by simpa [keys] using z)
          · exact h1 z
        refine ⟨⟨(L1.gr.f.trans L2.gr.f).trans pf.gr.f, fun a u ha e => pf.gr.h a u (kx a ha (by rw [e]; intro z; cases z)) (by rw [up a (by rw [e]; intro z; cases z)]; exact e), fun a ha => pf.gr.l a (by rw [up a ha]; exact ha), fun a ha e f => pf.gr.n a (kx a ha e) (by rw [up a e]; exact e) ?_⟩, pf.sub, pf.mu, fun a ha => ?_⟩
        · rw [upd_ne (nk a e).2]; exact f
        · rcases pf.new a ha with z | z
          · rw [keys_app] at z
            rcases List.mem_append.mp z with z | z
            · have e : a = x := by simpa [keys] using z
              subst e
              exact .inr hx
            · exact .inl z
          · refine .inr (Classical.byContradiction fun e => ?_)
            rw [up a e] at z
            exact e z
      exact p1.trans q1
    exact kk x m ho F2 H2 _ ((o.post P2).set i (s := .mr x) rfl) D (fun a2 b2 σ2 F2 H2 n p2 o2 => hN a2 b2 σ2 F2 H2 n (P2.trans p2) o2) fun a2 b2 v F2 H2 r p2 o2 => hR a2 b2 v F2 H2 r (P2.trans p2) o2

/-- a def's body keeps its promise -/
theorem start_ok {F H : Hp} {vs : List V} {ss : List Slot} (N : List Str) (hs : SlotsOk K F vs ss) (hsub : Sub F H) (m : MutOk K F H μ) : Ok K F H (L2.start N vs) (ss ++ List.replicate (N.length - ss.length) .un) μ := by
  refine ⟨hsub, ?_, fun i s e => ?_, m⟩
  · unfold L2.start
    rw [List.length_append, List.length_append, List.length_map, List.length_replicate, List.length_replicate, hs.length]
  · by_cases hi : i < ss.length
    · rw [List.getElem?_append_left hi] at e
      obtain ⟨v, h1, h2⟩ := hs.get e
      refine .inr ⟨v, ?_, h2⟩
      unfold L2.start
      rw [List.getElem?_append_left (by rw [List.length_map, hs.length]; exact hi), List.getElem?_map, h1]
      rfl
    · rw [List.getElem?_append_right (by omega)] at e
      have h2 := List.mem_of_getElem? e
      exact .inl (List.eq_of_mem_replicate h2)
theorem fin {Pre : PreT} {N : List Str} {t : TS} {vs : List V} {H : Hp} {Q : VK} {E : XK} (h : SpW K Pre vs H Q E)
    (tri : ∀ ss μ O, Pre ss μ O → Tri K t (ss ++ List.replicate (N.length - ss.length) .un) μ (fun _ m => O (.im .none) m) O) : t { nx := fun _ H' => Q .non H', rt := Q } (L2.start N vs) H := by
  obtain ⟨F, ss, μ, O, hp, hs, hsub, m, q⟩ := h
  exact tri ss μ O hp F H _ (start_ok N hs hsub m) _ (fun a b σ' F' H' n p o => q _ _ _ F' H' n p .non) fun s b v F' H' r p o => q _ _ _ F' H' r p o
end
/-- a def of the text: where it stands, its arguments -/
structure DefAt (K : PySem.W.Frag) (x qual : Str) (st : Stmt) (ps : List Str) where
  f : Addr
  fd : FuncData
  F : Fun K x qual st f fd
  b : Binds K fd ps []
end WM

set_option Elab.async false
set_option linter.all false
set_option maxRecDepth 100000
set_option maxHeartbeats 2000000
namespace WM
open PySem PySem.Spec PyProof.Rows L2 StX

/-! ### enumerate(tuple) -/
theorem meets_enumB {v : Value} {o : Obj} {G : Heap → Prop} (B : Begins v o G) :
    Meets (Builtin.«enumerate.__new__» ⟨[.type "enumerate", v], []⟩) (fun _ R s => G s.heap ∧
      R (.ok (.ret (.ref (s.heap.push o).objs.size))) { s with heap := (s.heap.push o).push { cls := .type "enumerate", data := .fields #[.none, .bool false, .ref s.heap.objs.size, rawInt 0, .none, .none] } }) :=
  .of_wp fun prog w A R s h => by
    obtain ⟨hp, g, d, tk, os⟩ := s
    obtain ⟨h1, h⟩ := h
    have hsub := sub_enumerate
    have q1 : ∀ {A' : Around} {E : Value → Shared → Prop} {Q : Value → Shared → Prop}, Q (.ref hp.objs.size) ⟨hp.push o, g, d, tk, os⟩ → wpAny (model prog w) A' (pyIter v) Q E ⟨hp, g, d, tk, os⟩ :=
      fun q => B.iter prog w _ _ ⟨hp, g, d, tk, os⟩ _ h1 q
    wp_walk using q1
    refine wpAny_stack_any fun st => wpAny_pure ?_
    split
    · rename_i c _ _ _ _ _
      cases (c == Value.type "enumerate")
      · wp_walk using q1
        exact ⟨_, rfl, h⟩
      · wp_walk using q1
        exact ⟨_, rfl, h⟩
    · wp_walk using q1
      exact ⟨_, rfl, h⟩
section
variable {prog : Program} {w : World} {A : Around} {E : Value → Shared → Prop} {s : Shared}
theorem call_enumB {v : Value} {o : Obj} {G : Heap → Prop} {Q : Value → Shared → Prop} (B : Begins v o G) (h1 : G s.heap)
    (h : ∀ h', IsEnum h' (s.heap.objs.size + 1) s.heap.objs.size 0 .none → h'.get? s.heap.objs.size = some o →
      (∀ b o, s.heap.get? b = some o → h'.get? b = some o) → Q (.ref (s.heap.objs.size + 1)) { s with heap := h' }) :
    wpAny (model prog w) A (call (.type "enumerate") [v]) Q E s := by
  refine callType_new F.called_enumerate (by decide) (F.typeCall_enumerate_1 _) (F.newCall_enumerate_1 _) (fun obj => F.args_object_init_2 obj _) F.entry_enumerate_new
    (meets_enumB B) ⟨h1, ?_⟩
  have ez : (s.heap.push o).objs.size = s.heap.objs.size + 1 := Heap.size_push ..
  show _ ∧ _
  rw [ez]
  have ge := Heap.get?_push_size (s.heap.push o) (o := { cls := .type "enumerate", data := .fields #[.none, .bool false, .ref s.heap.objs.size, rawInt 0, .none, .none] }) rfl
  rw [ez] at ge
  exact ⟨⟨_, ge, rfl⟩, h _ ge (Heap.get?_push_of_some _ (Heap.get?_push_size _ B.free)) fun b u x => Heap.get?_push_of_some _ (Heap.get?_push_of_some _ x)⟩
end
/-- the tuple at a, each item in a new pair -/
def ItE (K : PySem.W.Frag) (a : Addr) : It :=
  ⟨fun i H => ∃ (xs : List V) (x : V), SqT K H a xs ∧ xs[i]? = some x, fun i H v H' => ∃ T x, v = .ref T ∧ H T = none ∧ H' = upd H T (.tup [.int (i : Nat), x]) ∧ ∀ xs, SqT K H a xs → xs[i]? = some x, fun i H => ∃ xs : List V, SqT K H a xs ∧ xs.length = i⟩
theorem turn_enumT {P : Program} {w : World} {K : PySem.W.Frag} {elts : List Expr} {kk : Nat} {tpos : Pos} (a e it : Addr) :
    Turn P w K (.Tuple elts kk tpos) (ItE K a) [e, it] e (fun i h => (∃ old, IsEnum h e it (0 + ((i : Nat) : Int)) old) ∧ h.IsTupleIter it a i ∧ e ≠ it ∧ a ≠ it ∧ e ≠ a) where
  mem := by simp
  obj := fun i h st b hb => by
    obtain ⟨⟨old, he⟩, ⟨o, ho, hc, hd⟩, _⟩ := st
    have eb : b = e ∨ b = it := by simpa using hb
    rcases eb with z | z
    · subst z; exact ⟨_, he, fun v q => nomatch q⟩
    · subst z; exact ⟨o, ho, fun v q => by rw [hd] at q; cases q⟩
  keep := fun i h h' st k => by
    obtain ⟨⟨old, he⟩, hi, rest⟩ := st
    exact ⟨⟨old, k e (by simp) _ he⟩, hi.at fun o q => k it (by simp) o q, rest⟩
  item := by
    intro X hP hw hK hc i pins s σ H E I hf st hg
    subst hP hw hK
    obtain ⟨he, hit, hne, hai, hea⟩ := st
    obtain ⟨xs, x, hq, hx⟩ := hg
    obtain ⟨its, rv, p, hz⟩ := I.tuple hq
    obtain ⟨u, hu, ru⟩ := rv.get hx
    have hh : X.A.in1.handled = none := I.ok.hd hc
    have D := Draws.tuple (prog := X.prog) (w := X.w) hh it a hai its.toArray
    have W := WalksT.enumFrom (A := X.A) 0 D e hne (by simp; exact ⟨hne, hea⟩) (by simp)
    have hil : i < its.toArray.size := by
      have := (List.getElem?_eq_some_iff.mp hu).1
      simpa using this
    refine W.item i s _ E hil ⟨he, hit, p⟩ fun T vals h' tk hP hT hTup hm hk => ?_
    obtain ⟨t, y, hy, rfl⟩ := hP
    have ey : y = u := by
      have e1 : its[i]? = some y := by simpa using hy
      exact Option.some.inj (e1.symm.trans hu)
    subst ey
    refine ⟨_, rfl, W.go elts kk tpos i T { s with heap := h', toks := tk } _ E hm fun h'' st'' hk'' => ?_⟩
    have apart : T ∉ [e, it] := W.apart i T h' hm
    have keepA : ∀ b o, b ∉ [e, it] → s.heap.get? b = some o → h''.get? b = some o := fun b o hb q => hk'' b o hb (hk b o hb q)
    obtain ⟨oT, gT, cT, nT, dT⟩ := hTup
    have new : ObjOk X.prog X.w (upd H T (.tup [.int (i : Nat), x])) h'' T (.tup [.int (i : Nat), x]) :=
      ⟨by show 2 ≤ sizeLine; decide, [.int (0 + ((i : Nat) : Int)) t, y], .cons ⟨t, by rw [Int.zero_add]⟩ (.cons ru .nil), ⟨oT, hk'' T oT apart gT, cT, nT, dT⟩⟩
    have I1 := I.turnedNew (t' := tk) (ch := [e, it]) keepA hf hT new
    obtain ⟨⟨old', he'⟩, hit', _⟩ := st''
    refine ⟨.ref T, _, I1, rfl, ⟨T, x, rfl, I.hok.fresh hT, rfl, fun ys hy => by rw [I.tuple_inj hy hq]; exact hx⟩, ⟨⟨old', he'⟩, hit', hne, hai, hea⟩, fun b hb => ?_⟩
    have hbT : b ≠ T := fun z => apart (z ▸ hb)
    rw [upd_ne hbT]
    exact (hf b hb).1
  done := by
    intro X hP hw hK hc i pins s σ H E I hf st hg
    subst hP hw hK
    obtain ⟨he, hit, hne, hai, hea⟩ := st
    obtain ⟨xs, hq, hx⟩ := hg
    obtain ⟨its, rv, p, hz⟩ := I.tuple hq
    have hh : X.A.in1.handled = none := I.ok.hd hc
    have D := Draws.tuple (prog := X.prog) (w := X.w) hh it a hai its.toArray
    have W := WalksT.enumFrom (A := X.A) 0 D e hne (by simp; exact ⟨hne, hea⟩) (by simp)
    have hil : its.toArray.size = i := by rw [List.size_toArray, ← rv.length]; exact hx
    subst hil
    exact W.done s _ E ⟨he, hit, p⟩ fun h' tk hk => ⟨rfl, I.turnedL (t' := tk) (ch := [e, it]) hk hf⟩
  self := fun A i s Q E st h => by
    obtain ⟨⟨_, he⟩, _⟩ := st
    exact wpAny_pyIter_enum he h
def iEnumT (K : PySem.W.Frag) (ta : TA) : TI := fun σ H R => ta σ H fun vs H1 => ∃ a xs, vs = [.ref a] ∧ SqT K H1 a xs ∧ R (ItE K a) H1
theorem pi_enumT {X : Cx} {e : Expr} {ta : TA} {p pos tpos : Pos} {elts : List Expr} {kk : Nat} (hg : Gl X "enumerate") (hm : X.mg "enumerate" = none) (ha : PA X [e] ta) (hs : starEach [e] X.env = [(false, eval e X.env)] := by rfl) :
    PI X (.Tuple elts kk tpos) (.Call (.Name "enumerate" p) [e] [] pos) (iEnumT X.K ta) := by
  refine ⟨fun pins s σ H R I h => ?_⟩
  refine Call_ (ld_blt I hg hm boot_enumerate (PyProof.Rows.callWith_type1 (thn (ha.run pos pins s σ H _ I h) fun us s1 ⟨vs, H1, I1, r1, q1⟩ => ?_) hs rfl))
  obtain ⟨a, xs, ex, hq, q⟩ := q1
  subst ex
  cases r1 with
  | cons r rr =>
    cases rr
    cases r
    obtain ⟨its, rv, pt, hz⟩ := I1.tuple hq
    have al : a < s1.heap.objs.size := pt.lt
    have n1 : a ≠ s1.heap.objs.size := Nat.ne_of_lt al
    have n2 : s1.heap.objs.size + 1 ≠ a := fun z => absurd (Nat.lt_of_le_of_lt (Nat.le_of_eq z) al) (by exact Nat.not_lt.mpr (Nat.le_succ _))
    refine call_enumB (begins_tuple a its.toArray) pt fun h' he hit hk => wpAny_pyIter_enum he ?_
    have I2 : Inv X pins σ H1 { s1 with heap := h' } := I1.kept (t' := s1.toks) hk
    refine ⟨s1.heap.objs.size + 1, [s1.heap.objs.size + 1, s1.heap.objs.size], _, _, H1, rfl, I2, turn_enumT a (s1.heap.objs.size + 1) s1.heap.objs.size, ⟨⟨.none, he⟩, ⟨_, hit, rfl, rfl⟩, Nat.succ_ne_self _, n1, n2⟩, fun b hb => ?_, q⟩
    have eb : b = s1.heap.objs.size + 1 ∨ b = s1.heap.objs.size := by simpa using hb
    have hle : s1.heap.objs.size ≤ b := by
      rcases eb with z | z
      · rw [z]; exact Nat.le_succ _
      · rw [z]; exact Nat.le_refl _
    exact I1.fpOk hle (I1.hok.fresh hle)

/-! ### zip(tuple, list) -/
def ItM (K : PySem.W.Frag) (a b : Addr) : It :=
  ⟨fun i H => ∃ (xs ys : List V) (x y : V), SqT K H a xs ∧ SqL K H b ys ∧ xs[i]? = some x ∧ ys[i]? = some y,
    fun i H v H' => ∃ T x y, v = .ref T ∧ H T = none ∧ H' = upd H T (.tup [x, y]) ∧ (∀ xs, SqT K H a xs → xs[i]? = some x) ∧ ∀ ys, SqL K H b ys → ys[i]? = some y,
    fun i H => ∃ xs ys : List V, SqT K H a xs ∧ SqL K H b ys ∧ min xs.length ys.length = i⟩
theorem turn_zipM {P : Program} {w : World} {K : PySem.W.Frag} {elts : List Expr} {kk : Nat} {tpos : Pos} {a b z TI TO i1 i2 : Addr} (S : ZipSep2 z TI TO i1 i2 [i1, a] [i2, b]) (n1 : a ≠ i1) (n2 : b ≠ i2) :
    Turn P w K (.Tuple elts kk tpos) (ItM K a b) [z, TI, TO, i1, i2] z (fun i h => IsZip h z TI TO .none ∧ IsTupOf2 h TI (.ref i1) (.ref i2) ∧ (∃ x y, IsTupOf2 h TO x y) ∧ h.IsTupleIter i1 a i ∧ h.IsListIter i2 b i) where
  mem := by simp
  obj := fun i h st c hc => by
    obtain ⟨hz, hTI, ⟨x, y, hTO⟩, ⟨o1, e1, _, d1⟩, ⟨o2, e2, _, d2⟩⟩ := st
    have ec : c = z ∨ c = TI ∨ c = TO ∨ c = i1 ∨ c = i2 := by simpa using hc
    rcases ec with q | q | q | q | q
    · subst q; exact ⟨_, hz, fun v q => nomatch q⟩
    · subst q; exact ⟨_, hTI, fun v q => nomatch q⟩
    · subst q; exact ⟨_, hTO, fun v q => nomatch q⟩
    · subst q; exact ⟨o1, e1, fun v q => by rw [d1] at q; cases q⟩
    · subst q; exact ⟨o2, e2, fun v q => by rw [d2] at q; cases q⟩
  keep := fun i h h' st k => by
    obtain ⟨hz, hTI, ⟨x, y, hTO⟩, h1, h2⟩ := st
    exact ⟨k z (by simp) _ hz, k TI (by simp) _ hTI, ⟨x, y, k TO (by simp) _ hTO⟩, h1.at fun o q => k i1 (by simp) o q, h2.at fun o q => k i2 (by simp) o q⟩
  item := by
    intro X hP hw hK hc i pins s σ H E I hf st hg
    subst hP hw hK
    obtain ⟨hz, hTI, hTO, h1, h2⟩ := st
    obtain ⟨xs, ys, x, y, hqx, hqy, hx, hy⟩ := hg
    obtain ⟨its, rv, p, _⟩ := I.tuple hqx
    obtain ⟨its2, rv2, p2, _⟩ := I.list hqy
    obtain ⟨u, hu, ru⟩ := rv.get hx
    obtain ⟨u2, hu2, ru2⟩ := rv2.get hy
    have hh : X.A.in1.handled = none := I.ok.hd hc
    have D1 := Draws.tuple (prog := X.prog) (w := X.w) hh i1 a n1 its.toArray
    have D2 := Draws.list (prog := X.prog) (w := X.w) hh i2 b n2 its2.toArray
    have W := WalksT.zipD2 (A := X.A) S D1 D2
    have hil : i < min its.toArray.size its2.toArray.size := by
      have e1 := (List.getElem?_eq_some_iff.mp hu).1
      have e2 := (List.getElem?_eq_some_iff.mp hu2).1
      rw [List.size_toArray, List.size_toArray]
      omega
    refine W.item i s _ E hil ⟨hz, hTI, hTO, ⟨h1, p⟩, ⟨h2, p2.isList⟩⟩ fun T vals h' tk hP hT hTup hm hk => ?_
    obtain ⟨y1, y2, hy1, hy2, rfl⟩ := hP
    have ey1 : y1 = u := by
      have e1 : its[i]? = some y1 := by simpa using hy1
      exact Option.some.inj (e1.symm.trans hu)
    have ey2 : y2 = u2 := by
      have e1 : its2[i]? = some y2 := by simpa using hy2
      exact Option.some.inj (e1.symm.trans hu2)
    subst ey1 ey2
    refine ⟨_, rfl, W.go elts kk tpos i T { s with heap := h', toks := tk } _ E hm fun h'' st'' hk'' => ?_⟩
    have apart : T ∉ [z, TO, i1, i2] := W.apart i T h' hm
    have keepA : ∀ c o, c ∉ [z, TI, TO, i1, i2] → s.heap.get? c = some o → h''.get? c = some o := fun c o hb q => by
      have hb2 : c ∉ [z, TO, i1, i2] := fun m => hb (by
        have ec : c = z ∨ c = TO ∨ c = i1 ∨ c = i2 := by simpa using m
        rcases ec with q | q | q | q <;> simp [q])
      exact hk'' c o hb2 (hk c o hb2 q)
    obtain ⟨oT, gT, cT, nT, dT⟩ := hTup
    have new : ObjOk X.prog X.w (upd H T (.tup [x, y])) h'' T (.tup [x, y]) :=
      ⟨by show 2 ≤ sizeLine; decide, [y1, y2], .cons ru (.cons ru2 .nil), ⟨oT, hk'' T oT apart gT, cT, nT, dT⟩⟩
    have I1 := I.turnedNew (t' := tk) (ch := [z, TI, TO, i1, i2]) keepA hf hT new
    obtain ⟨hz', hTI', hTO', ⟨h1', _⟩, ⟨h2', _⟩⟩ := st''
    refine ⟨.ref T, _, I1, rfl, ⟨T, x, y, rfl, I.hok.fresh hT, rfl, fun l hl => by rw [I.tuple_inj hl hqx]; exact hx, fun l hl => by rw [I.list_inj hl hqy]; exact hy⟩, ⟨hz', hTI', hTO', h1', h2'⟩, fun c hcm => ?_⟩
    have hcT : c ≠ T := by
      have ec : c = z ∨ c = TI ∨ c = TO ∨ c = i1 ∨ c = i2 := by simpa using hcm
      have lt : c < s.heap.objs.size := by
        rcases ec with q | q | q | q | q
        · subst q; exact Heap.lt_size hz
        · subst q; exact Heap.lt_size hTI
        · subst q; obtain ⟨_, _, e⟩ := hTO; exact Heap.lt_size e
        · subst q; obtain ⟨_, e, _⟩ := h1; exact Heap.lt_size e
        · subst q; obtain ⟨_, e, _⟩ := h2; exact Heap.lt_size e
      exact Nat.ne_of_lt (Nat.lt_of_lt_of_le lt hT)
    rw [upd_ne hcT]
    exact (hf c hcm).1
  done := by
    intro X hP hw hK hc i pins s σ H E I hf st hg
    subst hP hw hK
    obtain ⟨hz, hTI, hTO, h1, h2⟩ := st
    obtain ⟨xs, ys, hqx, hqy, hend⟩ := hg
    obtain ⟨its, rv, p, _⟩ := I.tuple hqx
    obtain ⟨its2, rv2, p2, _⟩ := I.list hqy
    have hh : X.A.in1.handled = none := I.ok.hd hc
    have D1 := Draws.tuple (prog := X.prog) (w := X.w) hh i1 a n1 its.toArray
    have D2 := Draws.list (prog := X.prog) (w := X.w) hh i2 b n2 its2.toArray
    have W := WalksT.zipD2 (A := X.A) S D1 D2
    have hil : min its.toArray.size its2.toArray.size = i := by rw [List.size_toArray, List.size_toArray, ← rv.length, ← rv2.length]; exact hend
    subst hil
    refine W.done s _ E ⟨hz, hTI, hTO, ⟨h1, p⟩, ⟨h2, p2.isList⟩⟩ fun h' tk hk => ⟨rfl, I.turnedL (t' := tk) (ch := [z, TI, TO, i1, i2]) (fun c o hb q => hk c o (fun m => hb ?_) q) hf⟩
    have ec : c = z ∨ c = TO ∨ c = i1 ∨ c = i2 := by simpa using m
    rcases ec with q | q | q | q <;> simp [q]
  self := fun A i s Q E st h => wpAny_pyIter_zip st.1 h
/-- zip(list, list) or zip(tuple, list) -/
def iZipB (K : PySem.W.Frag) (ta : TA) : TI := fun σ H R => ta σ H fun vs H1 => ∃ a b xs ys, vs = [.ref a, .ref b] ∧ ((SqL K H1 a xs ∧ SqL K H1 b ys ∧ R (Itz K a b) H1) ∨ (SqT K H1 a xs ∧ SqL K H1 b ys ∧ R (ItM K a b) H1))
theorem pi_zipB {X : Cx} {e e2 : Expr} {ta : TA} {p pos tpos : Pos} {elts : List Expr} {kk : Nat} (hg : Gl X "zip") (hm : X.mg "zip" = none) (ha : PA X [e, e2] ta)
    (hs : starEach [e, e2] X.env = (false, eval e X.env) :: starEach [e2] X.env := by rfl) (hpl : (backTo pos (starEach [e2] X.env)).any (·.1) = false := by rfl) :
    PI X (.Tuple elts kk tpos) (.Call (.Name "zip" p) [e, e2] [] pos) (iZipB X.K ta) := by
  refine ⟨fun pins s σ H R I h => ?_⟩
  refine Call_ (ld_blt I hg hm PyProof.Rows.boot_zip (PyProof.Rows.callWith_type1 (thn (ha.run pos pins s σ H _ I h) fun us s1 ⟨vs, H1, I1, r1, q1⟩ => ?_) hs hpl))
  obtain ⟨a, b, xs, ys, ex, q1⟩ := q1
  subst ex
  cases r1 with
  | cons r rr =>
    cases rr with
    | cons r' rr =>
      cases rr
      cases r
      cases r'
      have fresh : ∀ c, c ∈ [s1.heap.objs.size + 4, s1.heap.objs.size + 2, s1.heap.objs.size + 3, s1.heap.objs.size, s1.heap.objs.size + 1] → FpOk X pins H1 c := fun c hcm => by
        have hle : s1.heap.objs.size ≤ c := by
          have ec : c = s1.heap.objs.size + 4 ∨ c = s1.heap.objs.size + 2 ∨ c = s1.heap.objs.size + 3 ∨ c = s1.heap.objs.size ∨ c = s1.heap.objs.size + 1 := by simpa using hcm
          rcases ec with q | q | q | q | q <;> rw [q]
          · exact Nat.le_add_right _ _
          · exact Nat.le_add_right _ _
          · exact Nat.le_add_right _ _
          · exact Nat.le_refl _
          · exact Nat.le_add_right _ _
        exact I1.fpOk hle (I1.hok.fresh hle)
      rcases q1 with ⟨hqx, hqy, q⟩ | ⟨hqx, hqy, q⟩
      · obtain ⟨its, rv, p1, _⟩ := I1.list hqx
        obtain ⟨its2, rv2, p2, _⟩ := I1.list hqy
        refine call_zip_2 p1.isList p2.isList fun h' hz hTI hTO h1 h2 hsz hk => wpAny_pyIter_zip hz ?_
        have I2 : Inv X pins σ H1 { s1 with heap := h' } := I1.kept (t' := s1.toks) hk
        exact ⟨s1.heap.objs.size + 4, _, _, _, H1, rfl, I2, turn_zip (PySem.W.ktu_apart s1.heap.objs.size a b p1.lt p2.lt), ⟨hz, hTI, ⟨_, _, hTO⟩, h1, h2⟩, fresh, q⟩
      · obtain ⟨its, rv, p1, _⟩ := I1.tuple hqx
        obtain ⟨its2, rv2, p2, _⟩ := I1.list hqy
        have la : a < s1.heap.objs.size := p1.lt
        have lb : b < s1.heap.objs.size := p2.lt
        refine zip_begins2 (begins_tuple a its.toArray) (begins_list b its2.toArray) p1 p2.isList fun h' hz hTI hTO g1 g2 hsz hk => wpAny_pyIter_zip hz ?_
        have I2 : Inv X pins σ H1 { s1 with heap := h' } := I1.kept (t' := s1.toks) hk
        have S := zip_sep2 (N := s1.heap.objs.size) (fp1 := [a]) (fp2 := [b]) (by simpa using la) (by simpa using lb)
        exact ⟨s1.heap.objs.size + 4, _, _, _, H1, rfl, I2, turn_zipM S (Nat.ne_of_lt la) (Nat.ne_of_lt (Nat.lt_succ_of_lt lb)), ⟨hz, hTI, ⟨_, _, hTO⟩, ⟨_, g1, rfl, rfl⟩, ⟨_, g2, rfl, rfl⟩⟩, fresh, q⟩

section
variable {K : PySem.W.Frag} {δ : DEnv} {μ μ1 : Mu} {s s' : Slot}
theorem ei_enumT {tr : TA} {ds : List PyData} (h : EvA K tr δ μ [.im (.tuple ds)] μ1) : EvI K (iEnumT K tr) δ μ [] (enumD 0 ds) μ1 := fun F H σ o R q =>
  h F H σ o _ fun vs F1 H1 p1 r1 => by
    obtain ⟨v, rfl, r⟩ := slots1 r1
    obtain ⟨a, ws, rfl, ha, rw⟩ := Rep.at_tup r
    have hs : ∀ F2 H2, Sub F1 F2 → Sub F2 H2 → SqT K H2 a ws := fun F2 H2 e1 e2 => sqt_of (e2 _ _ (e1 _ _ ha))
    refine ⟨a, ws, rfl, hs F1 H1 (Sub.refl _) p1.sub, q _ F1 H1 p1 ⟨fun F2 H2 i d e1 e2 _ hd => ?_, fun F2 H2 e1 e2 _ => ?_⟩⟩
    · obtain ⟨d', hd', rfl⟩ := enumD_get hd
      obtain ⟨w, hw2, rw2⟩ := rw.get hd'
      refine ⟨⟨ws, w, hs F2 H2 e1 e2, hw2⟩, fun x H3 ⟨T, y, ex, hT, eH, hy⟩ => ?_⟩
      have e3 := (hy ws (hs F2 H2 e1 e2)).symm.trans hw2
      cases e3
      subst ex eH
      rw [Nat.zero_add]
      exact ⟨_, rep_pair e2 hT (.int (i : Nat)) (Rep.mono e1 rw2)⟩
    · exact ⟨ws, hs F2 H2 e1 e2, by rw [enumD_len, rw.length]⟩
theorem ei_zipL {tr : TA} {ds es : List PyData} {G G' : GL} (h : EvA K tr δ μ [s, s'] μ1) (hl : LstS s ds G) (hl' : LstS s' es G') (hg : GLin (G ++ G') μ1) : EvI K (iZipB K tr) δ μ (G ++ G') (zipD ds es) μ1 := fun F H σ o R q =>
  ei_zip h hl hl' hg F H σ o R q |> fun z => by
    -- the same reading, its left part
    refine h F H σ o _ fun vs F1 H1 p1 r1 => ?_
    obtain ⟨v, v', rfl, r, r'⟩ := slots2 r1
    obtain ⟨a, rfl, at_⟩ := hl.at r
    obtain ⟨a', rfl, at'⟩ := hl'.at r'
    have g0 := hg.ok p1.mu
    obtain ⟨ws, hw, rw0⟩ := at_ F1 H1 _ (Sub.refl _) p1.sub g0 (fun _ h => List.mem_append_left _ h)
    obtain ⟨ws', hw', rw0'⟩ := at' F1 H1 _ (Sub.refl _) p1.sub g0 (fun _ h => List.mem_append_right _ h)
    refine ⟨a, a', ws, ws', rfl, .inl ⟨sql_of hw, sql_of hw', q _ F1 H1 p1 ⟨fun F2 H2 i d e1 e2 g hd => ?_, fun F2 H2 e1 e2 g => ?_⟩⟩⟩
    · obtain ⟨ws, hw, rw⟩ := at_ F2 H2 _ e1 e2 g (fun _ h => List.mem_append_left _ h)
      obtain ⟨ws', hw', rw'⟩ := at' F2 H2 _ e1 e2 g (fun _ h => List.mem_append_right _ h)
      obtain ⟨d1, d2, hd1, hd2, rfl⟩ := zipD_get hd
      obtain ⟨w, hw2, rw2⟩ := rw.get hd1
      obtain ⟨w', hw2', rw2'⟩ := rw'.get hd2
      refine ⟨⟨ws, ws', w, w', sql_of hw, sql_of hw', hw2, hw2'⟩, fun x H3 ⟨T, y, y', ex, hT, eH, hy, hy'⟩ => ?_⟩
      have e3 := (hy ws (sql_of hw)).symm.trans hw2
      have e4 := (hy' ws' (sql_of hw')).symm.trans hw2'
      cases e3
      cases e4
      subst ex eH
      exact ⟨_, rep_pair e2 hT rw2 rw2'⟩
    · obtain ⟨ws, hw, rw⟩ := at_ F2 H2 _ e1 e2 g (fun _ h => List.mem_append_left _ h)
      obtain ⟨ws', hw', rw'⟩ := at' F2 H2 _ e1 e2 g (fun _ h => List.mem_append_right _ h)
      refine ⟨ws, ws', sql_of hw, sql_of hw', ?_⟩
      unfold zipD
      rw [List.length_zipWith, rw.length, rw'.length]
      omega
theorem ei_zipT {tr : TA} {ds es : List PyData} (h : EvA K tr δ μ [.im (.tuple ds), .im (.list es)] μ1) : EvI K (iZipB K tr) δ μ [] (zipD ds es) μ1 := fun F H σ o R q =>
  h F H σ o _ fun vs F1 H1 p1 r1 => by
    obtain ⟨v, v', rfl, r, r'⟩ := slots2 r1
    obtain ⟨a, ws, rfl, ha, rw⟩ := Rep.at_tup r
    obtain ⟨a', ws', rfl, ha', rw'⟩ := Rep.at_lst r'
    have hs : ∀ F2 H2, Sub F1 F2 → Sub F2 H2 → SqT K H2 a ws := fun F2 H2 e1 e2 => sqt_of (e2 _ _ (e1 _ _ ha))
    have hs' : ∀ F2 H2, Sub F1 F2 → Sub F2 H2 → SqL K H2 a' ws' := fun F2 H2 e1 e2 => sql_of (e2 _ _ (e1 _ _ ha'))
    refine ⟨a, a', ws, ws', rfl, .inr ⟨hs F1 H1 (Sub.refl _) p1.sub, hs' F1 H1 (Sub.refl _) p1.sub, q _ F1 H1 p1 ⟨fun F2 H2 i d e1 e2 g hd => ?_, fun F2 H2 e1 e2 g => ?_⟩⟩⟩
    · obtain ⟨d1, d2, hd1, hd2, rfl⟩ := zipD_get hd
      obtain ⟨w, hw2, rw2⟩ := rw.get hd1
      obtain ⟨w', hw2', rw2'⟩ := rw'.get hd2
      refine ⟨⟨ws, ws', w, w', hs F2 H2 e1 e2, hs' F2 H2 e1 e2, hw2, hw2'⟩, fun x H3 ⟨T, y, y', ex, hT, eH, hy, hy'⟩ => ?_⟩
      have e3 := (hy ws (hs F2 H2 e1 e2)).symm.trans hw2
      have e4 := (hy' ws' (hs' F2 H2 e1 e2)).symm.trans hw2'
      cases e3
      cases e4
      subst ex eH
      exact ⟨_, rep_pair e2 hT (Rep.mono e1 rw2) (Rep.mono e1 rw2')⟩
    · refine ⟨ws, ws', hs F2 H2 e1 e2, hs' F2 H2 e1 e2, ?_⟩
      unfold zipD
      rw [List.length_zipWith, rw.length, rw'.length]
end
end WM

set_option Elab.async false
set_option linter.all false
set_option maxRecDepth 100000
set_option maxHeartbeats 1000000
namespace WM
open PySem L2 StX
/-! The text by places: printed by gen.py out of the linked T.py. -/
def topS (i : Nat) : Stmt := PySem.Challenge.pw_worthmaps_k05_whole_tasks.main.body.getD i (.Pass ⟨0, 0, 0, 0⟩)
abbrev s_is_int : Stmt := topS 1
abbrev N_is_int : List Str := ["value"]
abbrev P_is_int : List Str := ["value"]
theorem sc_is_int : FnScope N_is_int P_is_int (defScope s_is_int) := ⟨rfl, rfl, rfl, by decide +kernel, rfl, by decide +kernel, by decide +kernel⟩
abbrev s_greatest_part : Stmt := topS 2
abbrev N_greatest_part : List Str := ["numbers", "found", "one", "a", "b"]
abbrev P_greatest_part : List Str := ["numbers"]
theorem sc_greatest_part : FnScope N_greatest_part P_greatest_part (defScope s_greatest_part) := ⟨rfl, rfl, rfl, by decide +kernel, rfl, by decide +kernel, by decide +kernel⟩
abbrev s_reduced : Stmt := topS 3
abbrev N_reduced : List Str := ["numbers", "part", "one"]
abbrev P_reduced : List Str := ["numbers"]
theorem sc_reduced : FnScope N_reduced P_reduced (defScope s_reduced) := ⟨rfl, rfl, rfl, by decide +kernel, rfl, by decide +kernel, by decide +kernel⟩
abbrev s_fraction : Stmt := topS 4
abbrev N_fraction : List Str := ["top", "low"]
abbrev P_fraction : List Str := ["top", "low"]
theorem sc_fraction : FnScope N_fraction P_fraction (defScope s_fraction) := ⟨rfl, rfl, rfl, by decide +kernel, rfl, by decide +kernel, by decide +kernel⟩
abbrev s_is_fraction : Stmt := topS 5
abbrev N_is_fraction : List Str := ["value"]
abbrev P_is_fraction : List Str := ["value"]
theorem sc_is_fraction : FnScope N_is_fraction P_is_fraction (defScope s_is_fraction) := ⟨rfl, rfl, rfl, by decide +kernel, rfl, by decide +kernel, by decide +kernel⟩
abbrev s_inner : Stmt := topS 6
abbrev N_inner : List Str := ["one", "other", "a", "b"]
abbrev P_inner : List Str := ["one", "other"]
theorem sc_inner : FnScope N_inner P_inner (defScope s_inner) := ⟨rfl, rfl, rfl, by decide +kernel, rfl, by decide +kernel, by decide +kernel⟩
abbrev s_need_place : Stmt := topS 13
abbrev N_need_place : List Str := ["value", "one"]
abbrev P_need_place : List Str := ["value"]
theorem sc_need_place : FnScope N_need_place P_need_place (defScope s_need_place) := ⟨rfl, rfl, rfl, by decide +kernel, rfl, by decide +kernel, by decide +kernel⟩
abbrev s_Table_init : Stmt := inClass (topS 15) 0
abbrev N_Table_init : List Str := ["self", "rows", "rights", "at", "row", "sign", "own", "right", "spot", "one"]
abbrev P_Table_init : List Str := ["self", "rows", "rights"]
theorem sc_Table_init : FnScope N_Table_init P_Table_init (defScope s_Table_init) := ⟨rfl, rfl, rfl, by decide +kernel, rfl, by decide +kernel, by decide +kernel⟩
abbrev s_Table_weigh : Stmt := inClass (topS 15) 1
abbrev N_Table_weigh : List Str := ["self", "costs", "line", "column", "one", "other"]
abbrev P_Table_weigh : List Str := ["self", "costs"]
theorem sc_Table_weigh : FnScope N_Table_weigh P_Table_weigh (defScope s_Table_weigh) := ⟨rfl, rfl, rfl, by decide +kernel, rfl, by decide +kernel, by decide +kernel⟩
abbrev s_Table_change : Stmt := inClass (topS 15) 2
abbrev N_Table_change : List Str := ["self", "at", "column", "lead", "height", "spot", "one"]
abbrev P_Table_change : List Str := ["self", "at", "column"]
theorem sc_Table_change : FnScope N_Table_change P_Table_change (defScope s_Table_change) := ⟨rfl, rfl, rfl, by decide +kernel, rfl, by decide +kernel, by decide +kernel⟩
abbrev s_Table_cleared : Stmt := inClass (topS 15) 3
abbrev N_Table_cleared : List Str := ["self", "line", "lead", "column", "one", "other"]
abbrev P_Table_cleared : List Str := ["self", "line", "lead", "column"]
theorem sc_Table_cleared : FnScope N_Table_cleared P_Table_cleared (defScope s_Table_cleared) := ⟨rfl, rfl, rfl, by decide +kernel, rfl, by decide +kernel, by decide +kernel⟩
abbrev s_Table_going : Stmt := inClass (topS 15) 4
abbrev N_Table_going : List Str := ["self", "column", "best", "at", "line", "ahead"]
abbrev P_Table_going : List Str := ["self", "column"]
theorem sc_Table_going : FnScope N_Table_going P_Table_going (defScope s_Table_going) := ⟨rfl, rfl, rfl, by decide +kernel, rfl, by decide +kernel, by decide +kernel⟩
abbrev s_Table_is_sooner : Stmt := inClass (topS 15) 5
abbrev N_Table_is_sooner : List Str := ["self", "one", "other", "column", "gap", "a", "b"]
abbrev P_Table_is_sooner : List Str := ["self", "one", "other", "column"]
theorem sc_Table_is_sooner : FnScope N_Table_is_sooner P_Table_is_sooner (defScope s_Table_is_sooner) := ⟨rfl, rfl, rfl, by decide +kernel, rfl, by decide +kernel, by decide +kernel⟩
abbrev s_Table_descend : Stmt := inClass (topS 15) 6
abbrev N_Table_descend : List Str := ["self", "many", "some", "at"]
abbrev P_Table_descend : List Str := ["self", "many"]
theorem sc_Table_descend : FnScope N_Table_descend P_Table_descend (defScope s_Table_descend) := ⟨rfl, rfl, rfl, by decide +kernel, rfl, by decide +kernel, by decide +kernel⟩
abbrev s_Table_plan : Stmt := inClass (topS 15) 7
abbrev N_Table_plan : List Str := ["self", "found", "line", "column"]
abbrev P_Table_plan : List Str := ["self"]
theorem sc_Table_plan : FnScope N_Table_plan P_Table_plan (defScope s_Table_plan) := ⟨rfl, rfl, rfl, by decide +kernel, rfl, by decide +kernel, by decide +kernel⟩
abbrev s_Table_paper : Stmt := inClass (topS 15) 8
abbrev N_Table_paper : List Str := ["self", "own", "found", "at", "weight"]
abbrev P_Table_paper : List Str := ["self", "own"]
theorem sc_Table_paper : FnScope N_Table_paper P_Table_paper (defScope s_Table_paper) := ⟨rfl, rfl, rfl, by decide +kernel, rfl, by decide +kernel, by decide +kernel⟩
abbrev s_Table_clear_base : Stmt := inClass (topS 15) 9
abbrev N_Table_clear_base : List Str := ["self", "at", "some", "spot"]
abbrev P_Table_clear_base : List Str := ["self"]
theorem sc_Table_clear_base : FnScope N_Table_clear_base P_Table_clear_base (defScope s_Table_clear_base) := ⟨rfl, rfl, rfl, by decide +kernel, rfl, by decide +kernel, by decide +kernel⟩
abbrev s_solved : Stmt := topS 16
abbrev N_solved : List Str := ["costs", "rows", "rights", "lines", "table", "column", "plan", "many", "high", "numbers", "low", "at", "row", "spot"]
abbrev P_solved : List Str := ["costs", "rows", "rights"]
theorem sc_solved : FnScope N_solved P_solved (defScope s_solved) := ⟨rfl, rfl, rfl, by decide +kernel, rfl, by decide +kernel, by decide +kernel⟩
abbrev s_is_small : Stmt := topS 21
abbrev N_is_small : List Str := ["value"]
abbrev P_is_small : List Str := ["value"]
theorem sc_is_small : FnScope N_is_small P_is_small (defScope s_is_small) := ⟨rfl, rfl, rfl, by decide +kernel, rfl, by decide +kernel, by decide +kernel⟩
abbrev s_need_task : Stmt := topS 22
abbrev N_need_task : List Str := ["value", "costs", "rows", "index", "row", "one"]
abbrev P_need_task : List Str := ["value"]
theorem sc_need_task : FnScope N_need_task P_need_task (defScope s_need_task) := ⟨rfl, rfl, rfl, by decide +kernel, rfl, by decide +kernel, by decide +kernel⟩
abbrev s_is_task_row : Stmt := topS 23
abbrev N_is_task_row : List Str := ["value", "wide", "one"]
abbrev P_is_task_row : List Str := ["value", "wide"]
theorem sc_is_task_row : FnScope N_is_task_row P_is_task_row (defScope s_is_task_row) := ⟨rfl, rfl, rfl, by decide +kernel, rfl, by decide +kernel, by decide +kernel⟩
abbrev s_rights_at : Stmt := topS 24
abbrev N_rights_at : List Str := ["task", "place", "last", "east", "north", "row"]
abbrev P_rights_at : List Str := ["task", "place", "last"]
theorem sc_rights_at : FnScope N_rights_at P_rights_at (defScope s_rights_at) := ⟨rfl, rfl, rfl, by decide +kernel, rfl, by decide +kernel, by decide +kernel⟩
abbrev s_whole_place : Stmt := topS 25
abbrev N_whole_place : List Str := ["place", "low", "east", "north"]
abbrev P_whole_place : List Str := ["place"]
theorem sc_whole_place : FnScope N_whole_place P_whole_place (defScope s_whole_place) := ⟨rfl, rfl, rfl, by decide +kernel, rfl, by decide +kernel, by decide +kernel⟩
abbrev s_solved_at : Stmt := topS 26
abbrev N_solved_at : List Str := ["task", "place", "east", "north", "low", "row"]
abbrev P_solved_at : List Str := ["task", "place"]
theorem sc_solved_at : FnScope N_solved_at P_solved_at (defScope s_solved_at) := ⟨rfl, rfl, rfl, by decide +kernel, rfl, by decide +kernel, by decide +kernel⟩
abbrev s_need_both : Stmt := topS 27
abbrev N_need_both : List Str := ["task", "place"]
abbrev P_need_both : List Str := ["task", "place"]
theorem sc_need_both : FnScope N_need_both P_need_both (defScope s_need_both) := ⟨rfl, rfl, rfl, by decide +kernel, rfl, by decide +kernel, by decide +kernel⟩
abbrev s_ending_at : Stmt := topS 28
abbrev N_ending_at : List Str := ["task", "place"]
abbrev P_ending_at : List Str := ["task", "place"]
theorem sc_ending_at : FnScope N_ending_at P_ending_at (defScope s_ending_at) := ⟨rfl, rfl, rfl, by decide +kernel, rfl, by decide +kernel, by decide +kernel⟩
abbrev s_worth_at : Stmt := topS 29
abbrev N_worth_at : List Str := ["task", "place", "told", "low"]
abbrev P_worth_at : List Str := ["task", "place"]
theorem sc_worth_at : FnScope N_worth_at P_worth_at (defScope s_worth_at) := ⟨rfl, rfl, rfl, by decide +kernel, rfl, by decide +kernel, by decide +kernel⟩
abbrev s_some_plan : Stmt := topS 30
abbrev N_some_plan : List Str := ["task", "place", "told", "low", "one"]
abbrev P_some_plan : List Str := ["task", "place"]
theorem sc_some_plan : FnScope N_some_plan P_some_plan (defScope s_some_plan) := ⟨rfl, rfl, rfl, by decide +kernel, rfl, by decide +kernel, by decide +kernel⟩
abbrev s_some_paper : Stmt := topS 31
abbrev N_some_paper : List Str := ["task", "place", "told", "low", "one"]
abbrev P_some_paper : List Str := ["task", "place"]
theorem sc_some_paper : FnScope N_some_paper P_some_paper (defScope s_some_paper) := ⟨rfl, rfl, rfl, by decide +kernel, rfl, by decide +kernel, by decide +kernel⟩
abbrev s_need_fractions : Stmt := topS 32
abbrev N_need_fractions : List Str := ["value", "many", "one"]
abbrev P_need_fractions : List Str := ["value", "many"]
theorem sc_need_fractions : FnScope N_need_fractions P_need_fractions (defScope s_need_fractions) := ⟨rfl, rfl, rfl, by decide +kernel, rfl, by decide +kernel, by decide +kernel⟩
abbrev s_whole : Stmt := topS 33
abbrev N_whole : List Str := ["some", "low", "one"]
abbrev P_whole : List Str := ["some"]
theorem sc_whole : FnScope N_whole P_whole (defScope s_whole) := ⟨rfl, rfl, rfl, by decide +kernel, rfl, by decide +kernel, by decide +kernel⟩
abbrev s_is_paper_of : Stmt := topS 34
abbrev N_is_paper_of : List Str := ["task", "paper", "numbers", "low", "at", "cost", "one", "row"]
abbrev P_is_paper_of : List Str := ["task", "paper"]
theorem sc_is_paper_of : FnScope N_is_paper_of P_is_paper_of (defScope s_is_paper_of) := ⟨rfl, rfl, rfl, by decide +kernel, rfl, by decide +kernel, by decide +kernel⟩
abbrev s_is_plan_of : Stmt := topS 35
abbrev N_is_plan_of : List Str := ["task", "place", "plan", "rights", "east", "north", "last", "numbers", "low", "one", "row", "right"]
abbrev P_is_plan_of : List Str := ["task", "place", "plan"]
theorem sc_is_plan_of : FnScope N_is_plan_of P_is_plan_of (defScope s_is_plan_of) := ⟨rfl, rfl, rfl, by decide +kernel, rfl, by decide +kernel, by decide +kernel⟩
abbrev s_shows_worth : Stmt := topS 36
abbrev N_shows_worth : List Str := ["task", "place", "plan", "paper", "promise", "east", "north", "last", "numbers", "low", "amounts", "other"]
abbrev P_shows_worth : List Str := ["task", "place", "plan", "paper"]
theorem sc_shows_worth : FnScope N_shows_worth P_shows_worth (defScope s_shows_worth) := ⟨rfl, rfl, rfl, by decide +kernel, rfl, by decide +kernel, by decide +kernel⟩
abbrev s_is_best_plan : Stmt := topS 38
abbrev N_is_best_plan : List Str := ["task", "place", "plan", "numbers", "low"]
abbrev P_is_best_plan : List Str := ["task", "place", "plan"]
theorem sc_is_best_plan : FnScope N_is_best_plan P_is_best_plan (defScope s_is_best_plan) := ⟨rfl, rfl, rfl, by decide +kernel, rfl, by decide +kernel, by decide +kernel⟩
abbrev s_law_taken : Stmt := topS 40
abbrev N_law_taken : List Str := ["_law_row", "_law_many", "_law_cell", "_law_found"]
abbrev P_law_taken : List Str := ["_law_row", "_law_many"]
theorem sc_law_taken : FnScope N_law_taken P_law_taken (defScope s_law_taken) := ⟨rfl, rfl, rfl, by decide +kernel, rfl, by decide +kernel, by decide +kernel⟩
abbrev s_law_alike : Stmt := topS 41
abbrev N_law_alike : List Str := ["_law_found", "_law_due", "_law_k"]
abbrev P_law_alike : List Str := ["_law_found", "_law_due"]
theorem sc_law_alike : FnScope N_law_alike P_law_alike (defScope s_law_alike) := ⟨rfl, rfl, rfl, by decide +kernel, rfl, by decide +kernel, by decide +kernel⟩
abbrev s_law_is : Stmt := topS 42
abbrev N_law_is : List Str := ["_law_found", "_law_due"]
abbrev P_law_is : List Str := ["_law_found", "_law_due"]
theorem sc_law_is : FnScope N_law_is P_law_is (defScope s_law_is) := ⟨rfl, rfl, rfl, by decide +kernel, rfl, by decide +kernel, by decide +kernel⟩
abbrev s_law_fr : Stmt := topS 43
abbrev N_law_fr : List Str := ["_law_top", "_law_low", "_law_a", "_law_b"]
abbrev P_law_fr : List Str := ["_law_top", "_law_low"]
theorem sc_law_fr : FnScope N_law_fr P_law_fr (defScope s_law_fr) := ⟨rfl, rfl, rfl, by decide +kernel, rfl, by decide +kernel, by decide +kernel⟩
abbrev s_law_plus : Stmt := topS 44
abbrev N_law_plus : List Str := ["_law_one", "_law_other"]
abbrev P_law_plus : List Str := ["_law_one", "_law_other"]
theorem sc_law_plus : FnScope N_law_plus P_law_plus (defScope s_law_plus) := ⟨rfl, rfl, rfl, by decide +kernel, rfl, by decide +kernel, by decide +kernel⟩
abbrev s_law_times : Stmt := topS 45
abbrev N_law_times : List Str := ["_law_one", "_law_other"]
abbrev P_law_times : List Str := ["_law_one", "_law_other"]
theorem sc_law_times : FnScope N_law_times P_law_times (defScope s_law_times) := ⟨rfl, rfl, rfl, by decide +kernel, rfl, by decide +kernel, by decide +kernel⟩
abbrev s_law_below : Stmt := topS 46
abbrev N_law_below : List Str := ["_law_one", "_law_other"]
abbrev P_law_below : List Str := ["_law_one", "_law_other"]
theorem sc_law_below : FnScope N_law_below P_law_below (defScope s_law_below) := ⟨rfl, rfl, rfl, by decide +kernel, rfl, by decide +kernel, by decide +kernel⟩
abbrev s_law_at : Stmt := topS 47
abbrev N_law_at : List Str := ["_law_told", "_law_place_here", "_law_found"]
abbrev P_law_at : List Str := ["_law_told", "_law_place_here"]
theorem sc_law_at : FnScope N_law_at P_law_at (defScope s_law_at) := ⟨rfl, rfl, rfl, by decide +kernel, rfl, by decide +kernel, by decide +kernel⟩
abbrev s_law_number : Stmt := topS 48
abbrev N_law_number : List Str := ["_law_row", "_law_size"]
abbrev P_law_number : List Str := ["_law_row", "_law_size"]
theorem sc_law_number : FnScope N_law_number P_law_number (defScope s_law_number) := ⟨rfl, rfl, rfl, by decide +kernel, rfl, by decide +kernel, by decide +kernel⟩
abbrev s_law_solved : Stmt := topS 49
abbrev N_law_solved : List Str := ["_law_rows", "_law_rights_here", "_law_many", "_law_sheet", "_law_at_here", "_law_some", "_law_lead", "_law_spot", "_law_line", "_law_one", "_law_much", "_law_k"]
abbrev P_law_solved : List Str := ["_law_rows", "_law_rights_here"]
theorem sc_law_solved : FnScope N_law_solved P_law_solved (defScope s_law_solved) := ⟨rfl, rfl, rfl, by decide +kernel, rfl, by decide +kernel, by decide +kernel⟩
abbrev s_law_lots : Stmt := topS 50
abbrev N_law_lots : List Str := ["_law_many", "_law_size", "_law_found", "_law_turn", "_law_longer", "_law_lot", "_law_start", "_law_one"]
abbrev P_law_lots : List Str := ["_law_many", "_law_size"]
theorem sc_law_lots : FnScope N_law_lots P_law_lots (defScope s_law_lots) := ⟨rfl, rfl, rfl, by decide +kernel, rfl, by decide +kernel, by decide +kernel⟩
abbrev s_law_inner : Stmt := topS 51
abbrev N_law_inner : List Str := ["_law_one", "_law_other", "_law_found", "_law_at_here"]
abbrev P_law_inner : List Str := ["_law_one", "_law_other"]
theorem sc_law_inner : FnScope N_law_inner P_law_inner (defScope s_law_inner) := ⟨rfl, rfl, rfl, by decide +kernel, rfl, by decide +kernel, by decide +kernel⟩
abbrev s_law_corners : Stmt := topS 52
abbrev N_law_corners : List Str := ["_law_rows", "_law_rights_here", "_law_wide", "_law_sheet", "_law_lot", "_law_ends", "_law_found", "_law_low", "_law_at_here", "_law_whole", "_law_some", "_law_late", "_law_spot", "_law_one"]
abbrev P_law_corners : List Str := ["_law_rows", "_law_rights_here", "_law_wide"]
theorem sc_law_corners : FnScope N_law_corners P_law_corners (defScope s_law_corners) := ⟨rfl, rfl, rfl, by decide +kernel, rfl, by decide +kernel, by decide +kernel⟩
abbrev s_law_task : Stmt := topS 53
abbrev N_law_task : List Str := ["_law_row", "_law_columns", "_law_rows", "_law_size", "_law_wide", "_law_costs", "_law_found", "_law_turn", "_law_numbers", "_law_at_here"]
abbrev P_law_task : List Str := ["_law_row", "_law_columns", "_law_rows", "_law_size"]
theorem sc_law_task : FnScope N_law_task P_law_task (defScope s_law_task) := ⟨rfl, rfl, rfl, by decide +kernel, rfl, by decide +kernel, by decide +kernel⟩
abbrev s_law_rights : Stmt := topS 54
abbrev N_law_rights : List Str := ["_law_task_here", "_law_place_here", "_law_one"]
abbrev P_law_rights : List Str := ["_law_task_here", "_law_place_here"]
theorem sc_law_rights : FnScope N_law_rights P_law_rights (defScope s_law_rights) := ⟨rfl, rfl, rfl, by decide +kernel, rfl, by decide +kernel, by decide +kernel⟩
abbrev s_law_best : Stmt := topS 55
abbrev N_law_best : List Str := ["_law_task_here", "_law_place_here", "_law_rights_here", "_law_plans", "_law_turned", "_law_papers", "_law_worths", "_law_found", "_law_one", "_law_wide", "_law_high", "_law_at_here", "_law_plan", "_law_cost"]
abbrev P_law_best : List Str := ["_law_task_here", "_law_place_here"]
theorem sc_law_best : FnScope N_law_best P_law_best (defScope s_law_best) := ⟨rfl, rfl, rfl, by decide +kernel, rfl, by decide +kernel, by decide +kernel⟩
abbrev s_law_place : Stmt := topS 56
abbrev N_law_place : List Str := ["_law_row", "_law_size", "_law_low", "_law_east"]
abbrev P_law_place : List Str := ["_law_row", "_law_size", "_law_low"]
theorem sc_law_place : FnScope N_law_place P_law_place (defScope s_law_place) := ⟨rfl, rfl, rfl, by decide +kernel, rfl, by decide +kernel, by decide +kernel⟩
abbrev s_law_keeps : Stmt := topS 57
abbrev N_law_keeps : List Str := ["_law_task_here", "_law_place_here", "_law_plan", "_law_rights_here", "_law_one", "_law_at_here"]
abbrev P_law_keeps : List Str := ["_law_task_here", "_law_place_here", "_law_plan"]
theorem sc_law_keeps : FnScope N_law_keeps P_law_keeps (defScope s_law_keeps) := ⟨rfl, rfl, rfl, by decide +kernel, rfl, by decide +kernel, by decide +kernel⟩
abbrev s_law_pays : Stmt := topS 58
abbrev N_law_pays : List Str := ["_law_task_here", "_law_paper", "_law_at_here", "_law_one", "_law_line"]
abbrev P_law_pays : List Str := ["_law_task_here", "_law_paper"]
theorem sc_law_pays : FnScope N_law_pays P_law_pays (defScope s_law_pays) := ⟨rfl, rfl, rfl, by decide +kernel, rfl, by decide +kernel, by decide +kernel⟩
abbrev s_law_promise : Stmt := topS 59
abbrev N_law_promise : List Str := ["_law_task_here", "_law_place_here", "_law_paper", "_law_at_here", "_law_found", "_law_rights_here"]
abbrev P_law_promise : List Str := ["_law_task_here", "_law_place_here", "_law_paper"]
theorem sc_law_promise : FnScope N_law_promise P_law_promise (defScope s_law_promise) := ⟨rfl, rfl, rfl, by decide +kernel, rfl, by decide +kernel, by decide +kernel⟩
abbrev s_law : Stmt := topS 60
abbrev N_law : List Str := ["_law_script", "_law_row", "_law_task_here", "_law_place_here", "_law_due", "_law_word", "_law_drawn", "_law_weights", "_law_good", "_law_both", "_law_plan", "_law_paper", "_law_one"]
abbrev P_law : List Str := ["_law_script"]
theorem sc_law : FnScope N_law P_law (defScope s_law) := ⟨rfl, rfl, rfl, by decide +kernel, rfl, by decide +kernel, by decide +kernel⟩
/-- what the top has written -/
structure Txt (K : PySem.W.Frag) (mg : Str → Option Value) where
  d_is_int : DefAt K "is_int" "is_int" s_is_int P_is_int
  m_is_int : mg "is_int" = some (.ref d_is_int.f)
  d_greatest_part : DefAt K "greatest_part" "greatest_part" s_greatest_part P_greatest_part
  m_greatest_part : mg "greatest_part" = some (.ref d_greatest_part.f)
  d_reduced : DefAt K "reduced" "reduced" s_reduced P_reduced
  m_reduced : mg "reduced" = some (.ref d_reduced.f)
  d_fraction : DefAt K "fraction" "fraction" s_fraction P_fraction
  m_fraction : mg "fraction" = some (.ref d_fraction.f)
  d_is_fraction : DefAt K "is_fraction" "is_fraction" s_is_fraction P_is_fraction
  m_is_fraction : mg "is_fraction" = some (.ref d_is_fraction.f)
  d_inner : DefAt K "inner" "inner" s_inner P_inner
  m_inner : mg "inner" = some (.ref d_inner.f)
  d_need_place : DefAt K "need_place" "need_place" s_need_place P_need_place
  m_need_place : mg "need_place" = some (.ref d_need_place.f)
  d_Table_init : DefAt K "__init__" "Table.__init__" s_Table_init P_Table_init
  d_Table_weigh : DefAt K "weigh" "Table.weigh" s_Table_weigh P_Table_weigh
  d_Table_change : DefAt K "change" "Table.change" s_Table_change P_Table_change
  d_Table_cleared : DefAt K "cleared" "Table.cleared" s_Table_cleared P_Table_cleared
  d_Table_going : DefAt K "going" "Table.going" s_Table_going P_Table_going
  d_Table_is_sooner : DefAt K "is_sooner" "Table.is_sooner" s_Table_is_sooner P_Table_is_sooner
  d_Table_descend : DefAt K "descend" "Table.descend" s_Table_descend P_Table_descend
  d_Table_plan : DefAt K "plan" "Table.plan" s_Table_plan P_Table_plan
  d_Table_paper : DefAt K "paper" "Table.paper" s_Table_paper P_Table_paper
  d_Table_clear_base : DefAt K "clear_base" "Table.clear_base" s_Table_clear_base P_Table_clear_base
  d_solved : DefAt K "solved" "solved" s_solved P_solved
  m_solved : mg "solved" = some (.ref d_solved.f)
  d_is_small : DefAt K "is_small" "is_small" s_is_small P_is_small
  m_is_small : mg "is_small" = some (.ref d_is_small.f)
  d_need_task : DefAt K "need_task" "need_task" s_need_task P_need_task
  m_need_task : mg "need_task" = some (.ref d_need_task.f)
  d_is_task_row : DefAt K "is_task_row" "is_task_row" s_is_task_row P_is_task_row
  m_is_task_row : mg "is_task_row" = some (.ref d_is_task_row.f)
  d_rights_at : DefAt K "rights_at" "rights_at" s_rights_at P_rights_at
  m_rights_at : mg "rights_at" = some (.ref d_rights_at.f)
  d_whole_place : DefAt K "whole_place" "whole_place" s_whole_place P_whole_place
  m_whole_place : mg "whole_place" = some (.ref d_whole_place.f)
  d_solved_at : DefAt K "solved_at" "solved_at" s_solved_at P_solved_at
  m_solved_at : mg "solved_at" = some (.ref d_solved_at.f)
  d_need_both : DefAt K "need_both" "need_both" s_need_both P_need_both
  m_need_both : mg "need_both" = some (.ref d_need_both.f)
  d_ending_at : DefAt K "ending_at" "ending_at" s_ending_at P_ending_at
  m_ending_at : mg "ending_at" = some (.ref d_ending_at.f)
  d_worth_at : DefAt K "worth_at" "worth_at" s_worth_at P_worth_at
  m_worth_at : mg "worth_at" = some (.ref d_worth_at.f)
  d_some_plan : DefAt K "some_plan" "some_plan" s_some_plan P_some_plan
  m_some_plan : mg "some_plan" = some (.ref d_some_plan.f)
  d_some_paper : DefAt K "some_paper" "some_paper" s_some_paper P_some_paper
  m_some_paper : mg "some_paper" = some (.ref d_some_paper.f)
  d_need_fractions : DefAt K "need_fractions" "need_fractions" s_need_fractions P_need_fractions
  m_need_fractions : mg "need_fractions" = some (.ref d_need_fractions.f)
  d_whole : DefAt K "whole" "whole" s_whole P_whole
  m_whole : mg "whole" = some (.ref d_whole.f)
  d_is_paper_of : DefAt K "is_paper_of" "is_paper_of" s_is_paper_of P_is_paper_of
  m_is_paper_of : mg "is_paper_of" = some (.ref d_is_paper_of.f)
  d_is_plan_of : DefAt K "is_plan_of" "is_plan_of" s_is_plan_of P_is_plan_of
  m_is_plan_of : mg "is_plan_of" = some (.ref d_is_plan_of.f)
  d_shows_worth : DefAt K "shows_worth" "shows_worth" s_shows_worth P_shows_worth
  m_shows_worth : mg "shows_worth" = some (.ref d_shows_worth.f)
  d_is_best_plan : DefAt K "is_best_plan" "is_best_plan" s_is_best_plan P_is_best_plan
  m_is_best_plan : mg "is_best_plan" = some (.ref d_is_best_plan.f)
  d_law_taken : DefAt K "_law_taken" "_law_taken" s_law_taken P_law_taken
  m_law_taken : mg "_law_taken" = some (.ref d_law_taken.f)
  d_law_alike : DefAt K "_law_alike" "_law_alike" s_law_alike P_law_alike
  m_law_alike : mg "_law_alike" = some (.ref d_law_alike.f)
  d_law_is : DefAt K "_law_is" "_law_is" s_law_is P_law_is
  m_law_is : mg "_law_is" = some (.ref d_law_is.f)
  d_law_fr : DefAt K "_law_fr" "_law_fr" s_law_fr P_law_fr
  m_law_fr : mg "_law_fr" = some (.ref d_law_fr.f)
  d_law_plus : DefAt K "_law_plus" "_law_plus" s_law_plus P_law_plus
  m_law_plus : mg "_law_plus" = some (.ref d_law_plus.f)
  d_law_times : DefAt K "_law_times" "_law_times" s_law_times P_law_times
  m_law_times : mg "_law_times" = some (.ref d_law_times.f)
  d_law_below : DefAt K "_law_below" "_law_below" s_law_below P_law_below
  m_law_below : mg "_law_below" = some (.ref d_law_below.f)
  d_law_at : DefAt K "_law_at" "_law_at" s_law_at P_law_at
  m_law_at : mg "_law_at" = some (.ref d_law_at.f)
  d_law_number : DefAt K "_law_number" "_law_number" s_law_number P_law_number
  m_law_number : mg "_law_number" = some (.ref d_law_number.f)
  d_law_solved : DefAt K "_law_solved" "_law_solved" s_law_solved P_law_solved
  m_law_solved : mg "_law_solved" = some (.ref d_law_solved.f)
  d_law_lots : DefAt K "_law_lots" "_law_lots" s_law_lots P_law_lots
  m_law_lots : mg "_law_lots" = some (.ref d_law_lots.f)
  d_law_inner : DefAt K "_law_inner" "_law_inner" s_law_inner P_law_inner
  m_law_inner : mg "_law_inner" = some (.ref d_law_inner.f)
  d_law_corners : DefAt K "_law_corners" "_law_corners" s_law_corners P_law_corners
  m_law_corners : mg "_law_corners" = some (.ref d_law_corners.f)
  d_law_task : DefAt K "_law_task" "_law_task" s_law_task P_law_task
  m_law_task : mg "_law_task" = some (.ref d_law_task.f)
  d_law_rights : DefAt K "_law_rights" "_law_rights" s_law_rights P_law_rights
  m_law_rights : mg "_law_rights" = some (.ref d_law_rights.f)
  d_law_best : DefAt K "_law_best" "_law_best" s_law_best P_law_best
  m_law_best : mg "_law_best" = some (.ref d_law_best.f)
  d_law_place : DefAt K "_law_place" "_law_place" s_law_place P_law_place
  m_law_place : mg "_law_place" = some (.ref d_law_place.f)
  d_law_keeps : DefAt K "_law_keeps" "_law_keeps" s_law_keeps P_law_keeps
  m_law_keeps : mg "_law_keeps" = some (.ref d_law_keeps.f)
  d_law_pays : DefAt K "_law_pays" "_law_pays" s_law_pays P_law_pays
  m_law_pays : mg "_law_pays" = some (.ref d_law_pays.f)
  d_law_promise : DefAt K "_law_promise" "_law_promise" s_law_promise P_law_promise
  m_law_promise : mg "_law_promise" = some (.ref d_law_promise.f)
  d_law : DefAt K "law" "law" s_law P_law
  m_law : mg "law" = some (.ref d_law.f)
  C : Addr
  cl : Cls K C
  mgC : mg "Table" = some (.ref C)
  mkT : Mk K C d_Table_init.f
  mt_weigh : Meth K C "weigh" d_Table_weigh.f
  mt_change : Meth K C "change" d_Table_change.f
  mt_cleared : Meth K C "cleared" d_Table_cleared.f
  mt_going : Meth K C "going" d_Table_going.f
  mt_is_sooner : Meth K C "is_sooner" d_Table_is_sooner.f
  mt_descend : Meth K C "descend" d_Table_descend.f
  mt_plan : Meth K C "plan" d_Table_plan.f
  mt_paper : Meth K C "paper" d_Table_paper.f
  mt_clear_base : Meth K C "clear_base" d_Table_clear_base.f
  n_wide : NoAttr K C "wide"
  n_high : NoAttr K C "high"
  n_turned : NoAttr K C "turned"
  n_lines : NoAttr K C "lines"
  n_held : NoAttr K C "held"
  n_low : NoAttr K C "low"
  n_left : NoAttr K C "left"
  b_isinstance : mg "isinstance" = none
  b_abs : mg "abs" = none
  b_len : mg "len" = none
  b_max : mg "max" = none
  b_sum : mg "sum" = none
  b_any : mg "any" = none
  b_all : mg "all" = none
  b_tuple : mg "tuple" = none
  b_list : mg "list" = none
  b_int : mg "int" = none
  b_bool : mg "bool" = none
  b_str : mg "str" = none
  b_range : mg "range" = none
  b_enumerate : mg "enumerate" = none
  b_zip : mg "zip" = none
  t_MOST_WIDE : Tok
  t_MOST_HIGH : Tok
  t_MOST_GIVEN : Tok
  g_MOST_WIDE : mg "MOST_WIDE" = some (.int 6 t_MOST_WIDE)
  g_MOST_HIGH : mg "MOST_HIGH" = some (.int 8 t_MOST_HIGH)
  g_MOST_GIVEN : mg "MOST_GIVEN" = some (.int 1000 t_MOST_GIVEN)

theorem _root_.L2.Room.units65 {k : Nat} {A : Around} (r : Room k A) : A.units + 65 < cLine := by have := r.un; omega
section
variable {X : Cx}
theorem op_isNn : OpR X (compareOp .Is) rIsNn := op_isN
theorem op_notNn : OpR X (compareOp .IsNot) rNotNn := op_notN
theorem c_abs : CallR X (.builtin "abs") rAbs := call_abs
theorem c_max (hc : X.calm = true) : CallR X (.builtin "max") rMx2 := call_max2 hc
theorem c_int : CallR X (.type "int") rInt1 := call_int1
theorem c_len : CallR X (.builtin "len") (rLenQ X.K) := call_len_seq
theorem c_list : CallR X (.type "list") (rListO X.K) := call_list_of
theorem c_tuple : CallR X (.type "tuple") (rTupO X.K) := call_tuple_of
end
section
variable {X : Cx} {K : PySem.W.Frag}
theorem k_ix (h : X.K = K) : IxR X (rIx K) := h ▸ ix_seq
theorem k_eqD (hu : X.A.units + 64 < cLine) (h : X.K = K) : OpR X (compareOp .Eq) (rEqD K) := h ▸ op_eqD hu
theorem k_neD (hu : X.A.units + 64 < cLine) (h : X.K = K) : OpR X (compareOp .NotEq) (rNeD K) := h ▸ op_neD hu
theorem k_inD (hu : X.A.units + 65 < cLine) (h : X.K = K) : OpR X (compareOp .In) (rInD K) := h ▸ op_inD hu
theorem k_notInD (hu : X.A.units + 65 < cLine) (h : X.K = K) : OpR X (compareOp .NotIn) (rNotInD K) := h ▸ op_notInD hu
theorem k_add (h : X.K = K) : OpR X (binaryOp .Add) (rAddA K) := h ▸ op_addA
theorem k_len (h : X.K = K) : CallR X (.builtin "len") (rLenQ K) := h ▸ c_len
theorem k_list (h : X.K = K) : CallR X (.type "list") (rListO K) := h ▸ c_list
theorem k_tuple (h : X.K = K) : CallR X (.type "tuple") (rTupO K) := h ▸ c_tuple
theorem k_sum (hc : X.calm = true) (h : X.K = K) : CallR X (.builtin "sum") (rSum K) := h ▸ cr_sum hc
theorem k_any (hc : X.calm = true) (h : X.K = K) : CallR X (.builtin "any") (rAny K) := h ▸ cr_any hc
theorem k_all (hc : X.calm = true) (h : X.K = K) : CallR X (.builtin "all") (rAll K) := h ▸ cr_all hc
theorem k_isi (h : X.K = K) : CallR X (.builtin "isinstance") (rIsi K) := h ▸ call_isi
theorem k_isiT (h : X.K = K) : CallR X (.builtin "isinstance") (rIsiT K) := h ▸ call_isiT
theorem k_slL (h : X.K = K) : SlR X (rSlL K) := h ▸ sl_list
theorem k_slT (h : X.K = K) : SlR X (rSlA K) := h ▸ sl_tupA
theorem k_fld {o : Expr} {f : Str} {ta : TE} {pos : Pos} (h : X.K = K) (ho : PE X o ta) (hb : attributeBase o f X.env (eval o X.env) = eval o X.env) : PE X (.Attribute o f pos) (tFld K ta f) := h ▸ pe_fld ho hb
theorem k_piL {tg l : Expr} {tl : TE} (h : X.K = K) (hl : PE X l tl) : PI X tg l (iList K tl) := h ▸ pi_list hl
theorem k_piT {tg l : Expr} {tl : TE} (h : X.K = K) (hl : PE X l tl) : PI X tg l (iTup K tl) := h ▸ pi_tup hl
theorem k_enum {e : Expr} {ta : TA} {p pos tpos : Pos} {elts : List Expr} {kk : Nat} (h : X.K = K) (hg : Gl X "enumerate") (hm : X.mg "enumerate" = none) (ha : PA X [e] ta) (hs : starEach [e] X.env = [(false, eval e X.env)] := by rfl) :
    PI X (.Tuple elts kk tpos) (.Call (.Name "enumerate" p) [e] [] pos) (iEnum K ta) := h ▸ pi_enum hg hm ha hs
theorem k_enumT {e : Expr} {ta : TA} {p pos tpos : Pos} {elts : List Expr} {kk : Nat} (h : X.K = K) (hg : Gl X "enumerate") (hm : X.mg "enumerate" = none) (ha : PA X [e] ta) (hs : starEach [e] X.env = [(false, eval e X.env)] := by rfl) :
    PI X (.Tuple elts kk tpos) (.Call (.Name "enumerate" p) [e] [] pos) (iEnumT K ta) := h ▸ pi_enumT hg hm ha hs
theorem k_zip {e e2 : Expr} {ta : TA} {p pos tpos : Pos} {elts : List Expr} {kk : Nat} (h : X.K = K) (hg : Gl X "zip") (hm : X.mg "zip" = none) (ha : PA X [e, e2] ta)
    (hs : starEach [e, e2] X.env = (false, eval e X.env) :: starEach [e2] X.env := by rfl) (hpl : (backTo pos (starEach [e2] X.env)).any (·.1) = false := by rfl) :
    PI X (.Tuple elts kk tpos) (.Call (.Name "zip" p) [e, e2] [] pos) (iZip K ta) := h ▸ pi_zip hg hm ha hs hpl
theorem k_zipB {e e2 : Expr} {ta : TA} {p pos tpos : Pos} {elts : List Expr} {kk : Nat} (h : X.K = K) (hg : Gl X "zip") (hm : X.mg "zip" = none) (ha : PA X [e, e2] ta)
    (hs : starEach [e, e2] X.env = (false, eval e X.env) :: starEach [e2] X.env := by rfl) (hpl : (backTo pos (starEach [e2] X.env)).any (·.1) = false := by rfl) :
    PI X (.Tuple elts kk tpos) (.Call (.Name "zip" p) [e, e2] [] pos) (iZipB K ta) := h ▸ pi_zipB hg hm ha hs hpl
theorem k_star {e : Expr} {es : List Expr} {te : TE} {t : TA} {p : Pos} (h : X.K = K) (he : PE X e te) (hr : PA X es t) (hs : starEach (.Starred e p :: es) X.env = (true, eval e X.env) :: starEach es X.env := by rfl) : PA X (.Starred e p :: es) (tStar K te t) := h ▸ pa_star he hr hs
theorem k_gtup {es : List Expr} {k : Nat} {t : TGs} {n : Nat} {pos : Pos} (h : X.K = K) (hc : X.calm = true) (hg : PGs X es t)
    (hn : (assignEach es X.env).length = n := by rfl) (hst : (assignEach es X.env).findIdx? (·.1) = none := by rfl) : PG X (.Tuple es k pos) (gTup K n t) := h ▸ pg_tup hc hg hn hst
end
abbrev iD (ns : List Int) : List PyData := ns.map PyData.int
end WM

set_option linter.all false
set_option maxHeartbeats 1000000
/-! Plain laws of fractions: a reduced pair is a Rat; sizes in bits. -/
namespace WM
def gcdL (ns : List Int) : Nat := ns.foldl (fun g n => Nat.gcd g n.natAbs) 0
theorem gcdL_succ {ns : List Int} {i : Nat} {n : Int} (h : ns[i]? = some n) : gcdL (ns.take (i + 1)) = Nat.gcd (gcdL (ns.take i)) n.natAbs := by
  unfold gcdL
  rw [List.take_add_one, h, List.foldl_append]
  rfl
def redL (ns : List Int) : List Int := if 1 < gcdL ns then ns.map (fun n => n / (gcdL ns : Int)) else ns
theorem gcdL_two (a b : Int) : gcdL [a, b] = Nat.gcd a.natAbs b.natAbs := by
  unfold gcdL
  simp
theorem gcdL_dvd_acc : ∀ (ns : List Int) (g : Nat), ns.foldl (fun g n => Nat.gcd g n.natAbs) g ∣ g ∧ ∀ n ∈ ns, ns.foldl (fun g n => Nat.gcd g n.natAbs) g ∣ n.natAbs
  | [], g => ⟨Nat.dvd_refl g, fun _ h => nomatch h⟩
  | n :: ns, g => by
    obtain ⟨h1, h2⟩ := gcdL_dvd_acc ns (Nat.gcd g n.natAbs)
    refine ⟨Nat.dvd_trans h1 (Nat.gcd_dvd_left ..), fun m hm => ?_⟩
    rcases List.mem_cons.mp hm with e | hm
    · rw [e]; exact Nat.dvd_trans h1 (Nat.gcd_dvd_right ..)
    · exact h2 m hm
theorem gcdL_dvd {ns : List Int} {n : Int} (h : n ∈ ns) : (gcdL ns : Int) ∣ n := by
  have := (gcdL_dvd_acc ns 0).2 n h
  exact Int.ofNat_dvd_left.mpr this
/-- what the program's fraction and the law's own make of two ints -/
theorem redL_two {a b : Int} (h : b ≠ 0) : redL [a, b] = [a / (Nat.gcd a.natAbs b.natAbs : Nat), b / (Nat.gcd a.natAbs b.natAbs : Nat)] := by
  unfold redL
  rw [gcdL_two]
  by_cases hg : 1 < Nat.gcd a.natAbs b.natAbs
  · rw [if_pos hg]; rfl
  · rw [if_neg hg]
    have : 0 < Nat.gcd a.natAbs b.natAbs := Nat.gcd_pos_of_pos_right _ (by omega)
    have e : Nat.gcd a.natAbs b.natAbs = 1 := by omega
    rw [e]
    simp
theorem gcd_comm' (a b : Int) : Int.gcd b a = Nat.gcd a.natAbs b.natAbs := by unfold Int.gcd; exact Nat.gcd_comm ..
theorem gcd_dvd_l (a b : Int) : ((Nat.gcd a.natAbs b.natAbs : Nat) : Int) ∣ a := Int.ofNat_dvd_left.mpr (Nat.gcd_dvd_left ..)
theorem gcd_dvd_r (a b : Int) : ((Nat.gcd a.natAbs b.natAbs : Nat) : Int) ∣ b := Int.ofNat_dvd_left.mpr (Nat.gcd_dvd_right ..)
theorem divInt_pos {a b : Int} (h : 0 < b) : (Rat.divInt a b).num = a / (Nat.gcd a.natAbs b.natAbs : Nat) ∧ ((Rat.divInt a b).den : Int) = b / (Nat.gcd a.natAbs b.natAbs : Nat) := by
  rw [Rat.num_divInt, Rat.den_divInt, gcd_comm', if_neg (by omega), Int.sign_eq_one_of_pos h, Int.one_mul]
  refine ⟨rfl, ?_⟩
  rw [Int.natCast_ediv]
  congr 1
  omega
theorem divInt_neg {a b : Int} (h : b < 0) : (Rat.divInt a b).num = -(a / (Nat.gcd a.natAbs b.natAbs : Nat)) ∧ ((Rat.divInt a b).den : Int) = -(b / (Nat.gcd a.natAbs b.natAbs : Nat)) := by
  rw [Rat.num_divInt, Rat.den_divInt, gcd_comm', if_neg (by omega), Int.sign_eq_neg_one_of_neg h]
  refine ⟨?_, ?_⟩
  · rw [show (-1 : Int) * a = -a by omega, Int.neg_ediv_of_dvd (gcd_dvd_l a b)]
  · rw [Int.natCast_ediv, ← Int.neg_ediv_of_dvd (gcd_dvd_r a b)]
    congr 1
    omega
theorem add_eq (p q : Rat) : p + q = Rat.divInt (p.num * q.den + q.num * p.den) ((p.den * q.den : Nat) : Int) := by
  rw [Rat.add_def', Rat.divInt_ofNat]
theorem mul_eq (p q : Rat) : p * q = Rat.divInt (p.num * q.num) ((p.den * q.den : Nat) : Int) := by
  rw [Rat.mul_def', Rat.divInt_ofNat]
theorem of_int_num (n : Int) : ((n : Rat)).num = n := rfl
theorem of_int_den (n : Int) : ((n : Rat)).den = 1 := rfl
theorem inv_eq {q : Rat} : q⁻¹ = Rat.divInt (q.den : Int) q.num := Rat.inv_def q

/-! ### sizes -/
def Bi (k : Nat) (i : Int) : Prop := i.natAbs < 2 ^ k
structure Bq (k : Nat) (q : Rat) : Prop where
  n : Bi k q.num
  d : q.den < 2 ^ k
theorem Bi.mono {k l : Nat} {i : Int} (h : Bi k i) (e : k ≤ l) : Bi l i := Nat.lt_of_lt_of_le h (Nat.pow_le_pow_right (by decide) e)
theorem Bq.mono {k l : Nat} {q : Rat} (h : Bq k q) (e : k ≤ l) : Bq l q := ⟨h.n.mono e, Nat.lt_of_lt_of_le h.d (Nat.pow_le_pow_right (by decide) e)⟩
theorem Bi.mul {k l : Nat} {i j : Int} (h : Bi k i) (g : Bi l j) : Bi (k + l) (i * j) := by
  unfold Bi at *
  rw [Int.natAbs_mul, Nat.pow_add]
  exact Nat.mul_lt_mul'' h g
theorem Bi.add {k : Nat} {i j : Int} (h : Bi k i) (g : Bi k j) : Bi (k + 1) (i + j) := by
  unfold Bi at *
  rw [Nat.pow_succ]
  have := Int.natAbs_add_le i j
  omega
theorem Bi.neg {k : Nat} {i : Int} (h : Bi k i) : Bi k (-i) := by
  unfold Bi at *
  rw [Int.natAbs_neg]; exact h
theorem Bi.sub {k : Nat} {i j : Int} (h : Bi k i) (g : Bi k j) : Bi (k + 1) (i - j) := by
  have := h.add g.neg
  rw [← Int.sub_eq_add_neg] at this
  exact this
theorem Bi.of {k : Nat} {i : Int} (h : i.natAbs < 2 ^ k) : Bi k i := h
theorem Bi.div {k : Nat} {i : Int} {g : Nat} (h : Bi k i) : Bi k (i / (g : Int)) := by
  unfold Bi at *
  have := Int.natAbs_ediv_le_natAbs i g
  omega
theorem Bi.natAbs {k : Nat} {i : Int} (h : Bi k i) : i.natAbs < 2 ^ k := h
theorem Bq.dz {k : Nat} {q : Rat} (h : Bq k q) : Bi k (q.den : Int) := by unfold Bi; rw [Int.natAbs_natCast]; exact h.d
theorem bq_divInt {k : Nat} {a b : Int} (h : b ≠ 0) (ha : Bi k a) (hb : Bi k b) : Bq k (Rat.divInt a b) := by
  have e : ∀ z : Rat, Bi k (z.den : Int) → z.den < 2 ^ k := fun z hz => by unfold Bi at hz; rw [Int.natAbs_natCast] at hz; exact hz
  rcases Int.lt_or_gt_of_ne h with hb' | hb'
  · obtain ⟨h1, h2⟩ := divInt_neg (a := a) hb'
    exact ⟨by rw [h1]; exact ha.div.neg, e _ (by rw [h2]; exact hb.div.neg)⟩
  · obtain ⟨h1, h2⟩ := divInt_pos (a := a) hb'
    exact ⟨by rw [h1]; exact ha.div, e _ (by rw [h2]; exact hb.div)⟩
theorem den_ne (q : Rat) : (q.den : Int) ≠ 0 := by have := q.den_nz; omega
theorem den_pos (q : Rat) : (0 : Int) < q.den := by have := q.den_pos; omega
theorem Bq.add {k l : Nat} {p q : Rat} (h : Bq k p) (g : Bq l q) : Bq (k + l + 1) (p + q) := by
  rw [add_eq]
  have h1 := h.n.mul g.dz
  have h2 := (g.n.mul h.dz).mono (show l + k ≤ k + l by omega)
  have h3 := (h.dz.mul g.dz).mono (show k + l ≤ k + l + 1 by omega)
  rw [Int.natCast_mul]
  exact bq_divInt (Int.mul_ne_zero (den_ne p) (den_ne q)) (h1.add h2) h3
theorem Bq.mul {k l : Nat} {p q : Rat} (h : Bq k p) (g : Bq l q) : Bq (k + l) (p * q) := by
  rw [mul_eq, Int.natCast_mul]
  exact bq_divInt (Int.mul_ne_zero (den_ne p) (den_ne q)) (h.n.mul g.n) (h.dz.mul g.dz)
theorem Bq.ofInt {k : Nat} {n : Int} (h : Bi k n) (hk : 1 ≤ k) : Bq k (n : Rat) := ⟨h, by
  rw [of_int_den]
  exact Nat.lt_of_lt_of_le (by decide : 1 < 2 ^ 1) (Nat.pow_le_pow_right (by decide) hk)⟩
theorem Bq.neg {k : Nat} {p : Rat} (h : Bq k p) : Bq k (-p) := ⟨by rw [Rat.neg_num]; exact h.n.neg, by rw [Rat.neg_den]; exact h.d⟩
theorem Bq.inv {k : Nat} {p : Rat} (h : Bq k p) (hz : p ≠ 0) : Bq k p⁻¹ := by
  rw [inv_eq]
  exact bq_divInt (fun z => hz (Rat.num_eq_zero.mp z)) h.dz h.n
theorem red_gcd (q : Rat) : Nat.gcd q.num.natAbs q.den = 1 := q.reduced
end WM

set_option Elab.async false
set_option linter.all false
set_option maxRecDepth 100000
set_option maxHeartbeats 2000000
namespace WM
open PySem PySem.Spec PyProof.Rows L2 StX

/-! ### plain laws of numbers -/
theorem iD_get {ns : List Int} {i : Nat} {d : PyData} (h : (iD ns)[i]? = some d) : ∃ n, ns[i]? = some n ∧ d = .int n := by
  unfold iD at h
  rw [List.getElem?_map] at h
  cases e : ns[i]? with
  | none => rw [e] at h; cases h
  | some n => rw [e] at h; cases h; exact ⟨n, rfl, rfl⟩
theorem iD_len (ns : List Int) : (iD ns).length = ns.length := List.length_map ..
theorem iD_at {ns : List Int} {i : Nat} {n : Int} (h : ns[i]? = some n) : (iD ns)[i]? = some (.int n) := by
  unfold iD
  rw [List.getElem?_map, h]
  rfl
abbrev I (n : Int) : Slot := .im (.int n)
abbrev B (b : Bool) : Slot := .im (.bool b)
abbrev Tp (ds : List PyData) : Slot := .im (.tuple ds)
abbrev Ls (ds : List PyData) : Slot := .im (.list ds)
theorem sh_int {i : Int} : SeqAt.shaped (.int i) = true := rfl
theorem sh_bool {i : Bool} : SeqAt.shaped (.bool i) = true := rfl
theorem is_refl {s : Slot} {μ : Mu} : Is s μ s μ := ⟨rfl, List.Sublist.refl _⟩

section
variable {P : Program} {w : World} {K : PySem.W.Frag} {mg : Str → Option Value} {base : Heap}

/-! ### is_int -/
def isIntD : PyData → Bool
  | .int _ => true
  | _ => false
def pre_is_int : PreT := fun ss μ O => ∃ d, ss = [.im d] ∧ μ = [] ∧ (∀ x, d ≠ .dict x) ∧ O = Is (B (isIntD d)) []
theorem ok_is_int (T : Txt K mg) : FnOk P w K mg base CX0 (1 + 1) T.d_is_int.f T.d_is_int.fd P_is_int (SpW K pre_is_int) := by
  refine T.d_is_int.F.ok sc_is_int (sp_len fun ss μ O ⟨d, e, _⟩ => by rw [e]; rfl) (fun cdv A outer s H vs Q E hr h => ?_)
  refine ⟨_, (pss_one (ps_ret (pe_and (pe_callB (k_isi (K := K) rfl) (by rfl) T.b_isinstance (by decide +kernel) (pa_cons (pv 0) (pa_cons (pe_bltn (v := .ty "int") (by rfl) T.b_int (by decide +kernel) rfl) pa_nil))) (pe_one (pe_not (pe_callB (k_isi (K := K) rfl) (by rfl) T.b_isinstance (by decide +kernel) (pa_cons (pv 0) (pa_cons (pe_bltn (v := .ty "bool") (by rfl) T.b_bool (by decide +kernel) rfl) pa_nil)))))))), ?_⟩
  refine fin h fun ss μ O ⟨d, e1, e2, hd, e3⟩ => ?_
  subst e1 e2 e3
  refine t_ret (s := B (isIntD d)) ?_ is_refl
  cases d with
  | int i => exact ev_andV (c := true) (d := true) (ev_isi (ev_varI rfl) (show kitB "int" "int" = some true by decide +kernel)) fun _ => ev_notV (c := false) (ev_isi (ev_varI rfl) (show kitB "int" "bool" = some false by decide +kernel))
  | bool i => exact ev_andV (c := true) (d := false) (ev_isi (ev_varI rfl) (show kitB "bool" "int" = some true by decide +kernel)) fun _ => ev_notV (c := true) (ev_isi (ev_varI rfl) (show kitB "bool" "bool" = some true by decide +kernel))
  | none => exact ev_andV (c := false) (d := false) (ev_isi (ev_varI rfl) (show kitB "NoneType" "int" = some false by decide +kernel)) fun z => nomatch z
  | str x => exact ev_andV (c := false) (d := false) (ev_isi (ev_varI rfl) (show kitB "str" "int" = some false by decide +kernel)) fun z => nomatch z
  | list x => exact ev_andV (c := false) (d := false) (ev_isi (ev_varI rfl) (show kitB "list" "int" = some false by decide +kernel)) fun z => nomatch z
  | tuple x => exact ev_andV (c := false) (d := false) (ev_isi (ev_varI rfl) (show kitB "tuple" "int" = some false by decide +kernel)) fun z => nomatch z
  | dict x => exact absurd rfl (hd x)

/-! ### greatest_part -/
def pre_greatest_part : PreT := fun ss μ O => ∃ ns, ss = [Tp (iD ns)] ∧ μ = [] ∧ O = Is (I (gcdL ns)) []
theorem ok_greatest_part (T : Txt K mg) : FnOk P w K mg base CX0 (1 + 1) T.d_greatest_part.f T.d_greatest_part.fd P_greatest_part (SpW K pre_greatest_part) := by
  refine T.d_greatest_part.F.ok sc_greatest_part (sp_len fun ss μ O ⟨d, e, _⟩ => by rw [e]; rfl) (fun cdv A outer s H vs Q E hr h => ?_)
  refine ⟨_, (pss_cons (ps_set (i := 1) sc_greatest_part.nd rfl (.inl rfl) pe_int (hf := .inr rfl))
    (pss_cons (ps_for PassesOwn.never rfl (k_piT (K := K) rfl (pv 0)) (pg_name (i := 2) sc_greatest_part.nd rfl (.inl rfl) (.inr rfl))
      (pss_cons (ps_par (i := 3) (j := 4) rfl sc_greatest_part.nd rfl rfl (by decide) rfl rfl (pa_cons (pe_callB c_abs (by rfl) T.b_abs (by decide +kernel) (pa_cons (pv 2) pa_nil)) (pa_cons (pv 1) pa_nil)) (by rfl))
      (pss_cons (ps_while PassesOwn.never (pt_cmpR (k_neD (K := K) hr.units rfl) (pv 4) pe_int (nomark _))
        (pss_one (ps_par (i := 3) (j := 4) rfl sc_greatest_part.nd rfl rfl (by decide) rfl rfl (pa_cons (pv 4) (pa_cons (pe_op op_mod (pv 3) (pv 4)) pa_nil)) (by rfl))))
      (pss_one (ps_set (i := 1) sc_greatest_part.nd rfl (.inl rfl) (pv 3) (hf := .inr rfl))))))
    (pss_one (ps_ret (pv 1))))), ?_⟩
  refine fin h fun ss μ O ⟨ns, e1, e2, e3⟩ => ?_
  subst e1 e2 e3
  refine q_set ev_int ?_
  refine t_seq (M := fun a b => ∃ x y z, a = [Tp (iD ns), I (gcdL ns), x, y, z] ∧ b = []) ?_ fun a b ⟨x, y, z, e1, e2⟩ => ?_
  · refine t_for (ix := [2]) (ei_tup (ev_varI rfl)) (fun i a b => ∃ x y z, a = [Tp (iD ns), I (gcdL (ns.take i)), x, y, z] ∧ b = []) ⟨_, _, _, rfl, rfl⟩ (fun _ _ _ _ => glin_nil) (fun i d a b hd ⟨x, y, z, e1, e2⟩ => ?_) fun a b ⟨x, y, z, e1, e2⟩ => ?_
    · subst e1 e2
      obtain ⟨n, hn, rfl⟩ := iD_get hd
      refine ⟨_, bnd_name, ?_⟩
      refine q_par (ea_cons (ev_cb (ea_cons (ev_varI rfl) ea_nil) rc_abs) (ea_cons (ev_varI rfl) ea_nil)) ?_
      refine t_seq (M := fun a b => ∃ z, a = [Tp (iD ns), I (gcdL (ns.take i)), I n, I (gcdL (ns.take (i + 1))), z] ∧ b = []) ?_ fun a b ⟨z, e1, e2⟩ => ?_
      · refine t_while (fun m a b => ∃ p q : Nat, a = [Tp (iD ns), I (gcdL (ns.take i)), I n, I p, I q] ∧ b = [] ∧ m = q ∧ Nat.gcd p q = gcdL (ns.take (i + 1))) (gcdL (ns.take i)) ⟨n.natAbs, gcdL (ns.take i), ?_, rfl, rfl, ?_⟩ ?_
        · have e : (if n < 0 then -n else n) = (n.natAbs : Int) := by omega
          rw [← e]
          rfl
        · rw [gcdL_succ hn, Nat.gcd_comm]
        · rintro m a b ⟨p, q, rfl, rfl, rfl, hg⟩
          refine ⟨_, et_op (ev_varI rfl) ev_int (rv_ne rfl rfl), fun hb => ?_, fun hb => ?_⟩
          · have hq : m ≠ 0 := by
              intro z
              subst z
              simp [PyData.eqv] at hb
            refine t_par (ea_cons (ev_varI rfl) (ea_cons (ev_op (ev_varI rfl) (ev_varI rfl) (rv_mod (by omega))) ea_nil)) ?_
            exact ⟨p % m, Nat.mod_lt _ (by omega), m, p % m, by rw [← Int.natCast_emod] <;> rfl, rfl, rfl, by rw [← hg, Nat.gcd_comm m, ← Nat.gcd_rec, Nat.gcd_comm]⟩
          · have hq : m = 0 := by simpa [PyData.eqv] using hb
            subst hq
            rw [Nat.gcd_zero_right] at hg
            subst hg
            exact ⟨_, rfl, rfl⟩
      · subst e1 e2
        exact t_set (ev_varI rfl) ⟨_, _, _, rfl, rfl⟩
    · subst e1 e2
      refine ⟨x, y, z, ?_, rfl⟩
      rw [iD_len, List.take_length]
  · subst e1 e2
    exact t_ret (ev_varI rfl) is_refl

/-! ### reduced, fraction -/
theorem gcd_lt {g m b : Nat} (h1 : g < b) (h2 : m < b) : Nat.gcd g m < b := by
  by_cases hm : m = 0
  · subst hm; rw [Nat.gcd_zero_right]; exact h1
  · exact Nat.lt_of_le_of_lt (Nat.gcd_le_right g (Nat.pos_of_ne_zero hm)) h2
theorem gcdF_lt {b : Nat} : ∀ (ns : List Int) (g : Nat), g < b → (∀ n ∈ ns, n.natAbs < b) → ns.foldl (fun g n => Nat.gcd g n.natAbs) g < b
  | [], _, h, _ => h
  | n :: ns, g, h, hn => gcdF_lt ns _ (gcd_lt h (hn n (by simp))) fun m hm => hn m (by simp [hm])
theorem gcdL_lt {ns : List Int} {k : Nat} (h : ∀ n ∈ ns, Bi k n) : gcdL ns < 2 ^ k := gcdF_lt ns 0 (Nat.two_pow_pos k) h
theorem cdiv_of {n : Int} {g k : Nat} (h0 : 0 < g) (h : g < 2 ^ k) (hk : 0 < k) (h9 : k ≤ 9000) : CDivW n (g : Int) := wide_div (by omega) (by rw [Int.natAbs_natCast]; exact h) hk h9
theorem cmul_of {i j : Int} {k l : Nat} (h : Bi k i) (g : Bi l j) (hk : 0 < k) (hl : 0 < l) (hh : k + l ≤ 1000000) : CMulW i j := wide_mul h g hk hl hh
def pre_reduced : PreT := fun ss μ O => ∃ ns, ss = [Tp (iD ns)] ∧ μ = [] ∧ ns.length ≤ 100 ∧ (∀ n ∈ ns, Bi 8000 n) ∧ O = Is (Tp (iD (redL ns))) []
theorem ok_reduced (T : Txt K mg) : FnOk P w K mg base CX0 (2 + 1) T.d_reduced.f T.d_reduced.fd P_reduced (SpW K pre_reduced) := by
  refine T.d_reduced.F.ok sc_reduced (sp_len fun ss μ O ⟨d, e, _⟩ => by rw [e]; rfl) (fun cdv A outer s H vs Q E hr h => ?_)
  refine ⟨_, (pss_cons (ps_set (i := 1) sc_reduced.nd rfl (.inr rfl) (pe_call (ok_greatest_part T) (hr.mono (by decide)) (by rfl) T.m_greatest_part T.d_greatest_part.F.kp T.d_greatest_part.b .nil pass0 (pa_cons (pv 0) pa_nil)) (hf := .inl rfl))
    (pss_one (ps_ret (pe_ifExp (pt_cmpR op_gt (pv 1) pe_int (nomark _)) (pe_callTy (k_tuple (K := K) rfl) (by rfl) T.b_tuple (by decide +kernel) (pa_cons (pe_lc (own := [("one", 2)]) rfl sc_reduced.nd (k_piT (K := K) rfl (pv 0)) (blkOk_by (N := N_reduced) (sc := defScope s_reduced) (by decide +kernel)) (fun _ _ _ _ _ => (pg_name (i := 2) sc_reduced.nd rfl (.inl rfl) (.inr rfl))) (fun _ _ _ _ _ => pts_nil) (fun _ _ _ _ _ => (pe_op op_divA (pv 2) (pv 1)))) pa_nil)) (pe_callTy (k_tuple (K := K) rfl) (by rfl) T.b_tuple (by decide +kernel) (pa_cons (pv 0) pa_nil)))))), ?_⟩
  refine fin h fun ss μ O ⟨ns, e1, e2, hl, hb, e3⟩ => ?_
  subst e1 e2 e3
  refine q_set (ev_call0 (ea_cons (ev_varI rfl) ea_nil) ⟨ns, rfl, rfl, rfl⟩) ?_
  refine t_ret (ev_if (et_op (ev_varI rfl) ev_int rv_gt) (fun hc => ?_) (fun hc => ?_)) is_refl
  · have hg : 1 < gcdL ns := by have := of_decide_eq_true hc; omega
    have e : redL ns = ns.map (fun n => n / (gcdL ns : Int)) := if_pos hg
    refine ev_cb (ea_cons (ev_map (ix := [2]) (es := iD (redL ns)) (ei_tup (ev_varI rfl)) glin_nil (by rw [iD_len]; omega) (fun j h => h) (by rw [iD_len, iD_len, e, List.length_map]) fun i d d' hd hd' => ?_) ea_nil) rc_tupL
    obtain ⟨n, hn, rfl⟩ := iD_get hd
    obtain ⟨n', hn', rfl⟩ := iD_get hd'
    have en : n' = n / (gcdL ns : Int) := by
      rw [e, List.getElem?_map, hn] at hn'
      cases hn'
      rfl
    subst en
    exact ⟨_, bnd_name, ev_op (ev_varI rfl) (ev_varI rfl) (rv_div (cdiv_of (by omega) (gcdL_lt hb) (by decide) (by decide)))⟩
  · have hg : ¬ 1 < gcdL ns := by have := of_decide_eq_false hc; omega
    have e : redL ns = ns := if_neg hg
    rw [e]
    exact ev_cb (ea_cons (ev_varI rfl) ea_nil) rc_tupT

def dQ (q : Rat) : PyData := .tuple [.int q.num, .int (q.den : Int)]
theorem dQ_eq {t l : Int} {q : Rat} (h1 : q.num = t) (h2 : (q.den : Int) = l) : dQ q = .tuple [.int t, .int l] := by unfold dQ; rw [h1, h2]
def pre_fraction : PreT := fun ss μ O => ∃ t l, ss = [I t, I l] ∧ μ = [] ∧ l ≠ 0 ∧ Bi 8000 t ∧ Bi 8000 l ∧ O = Is (.im (dQ (Rat.divInt t l))) []
theorem ok_fraction (T : Txt K mg) : FnOk P w K mg base CX0 (3 + 1) T.d_fraction.f T.d_fraction.fd P_fraction (SpW K pre_fraction) := by
  refine T.d_fraction.F.ok sc_fraction (sp_len fun ss μ O ⟨a, b, e, _⟩ => by rw [e]; rfl) (fun cdv A outer s H vs Q E hr h => ?_)
  refine ⟨_, (pss_cons (ps_asg (pe_call (ok_reduced T) (hr.mono (by decide)) (by rfl) T.m_reduced T.d_reduced.F.kp T.d_reduced.b .nil pass0 (pa_cons (pe_tup (pa_cons (pv 0) (pa_cons (pv 1) pa_nil))) pa_nil)) (k_gtup (K := K) (n := 2) rfl rfl (pgs_cons (pg_name (i := 0) sc_fraction.nd rfl (.inl rfl) (.inr rfl)) (pgs_cons (pg_name (i := 1) sc_fraction.nd rfl (.inl rfl) (.inr rfl)) pgs_nil))))
    (pss_one (ps_ret (pe_ifExp (pt_cmpR op_lt (pv 1) pe_int (nomark _)) (pe_tup (pa_cons (pe_un un_neg (pv 0)) (pa_cons (pe_un un_neg (pv 1)) pa_nil))) (pe_tup (pa_cons (pv 0) (pa_cons (pv 1) pa_nil))))))), ?_⟩
  refine fin h fun ss μ O ⟨t, l, e1, e2, hl, ht, hb, e3⟩ => ?_
  subst e1 e2 e3
  refine q_asg (ix := [0, 1]) (ev_call0 (ea_cons (ev_tup (ds := iD [t, l]) (ea_cons (ev_varI rfl) (ea_cons (ev_varI rfl) ea_nil)) (by simp)) ea_nil) ⟨[t, l], rfl, rfl, by simp, by simp; exact ⟨ht, hb⟩, rfl⟩) (by rw [redL_two hl]; exact bnd_tup2) ?_
  generalize hg : (Nat.gcd t.natAbs l.natAbs : Nat) = g
  have hgp : 0 < g := by rw [← hg]; exact Nat.gcd_pos_of_pos_right _ (by omega)
  have hd : (g : Int) ∣ l := by rw [← hg]; exact gcd_dvd_r t l
  refine t_ret (ev_if (et_op (ev_varI rfl) ev_int rv_lt) (fun hc => ?_) (fun hc => ?_)) is_refl
  · have hneg : l / (g : Int) < 0 := of_decide_eq_true hc
    have hl0 : l < 0 := by
      apply Classical.byContradiction
      intro z
      have := Int.ediv_nonneg (a := l) (b := (g : Int)) (by omega) (by omega)
      omega
    obtain ⟨h1, h2⟩ := divInt_neg (a := t) hl0
    rw [hg] at h1 h2
    rw [dQ_eq h1 h2]
    exact ev_tup (ds := [.int _, .int _]) (ea_cons (ev_neg (ev_varI rfl)) (ea_cons (ev_neg (ev_varI rfl)) ea_nil)) (by simp)
  · have hneg : ¬ l / (g : Int) < 0 := of_decide_eq_false hc
    have hl0 : 0 < l := by
      apply Classical.byContradiction
      intro z
      have h2 : l < 0 := by omega
      have := Int.ediv_neg_of_neg_of_pos h2 (show (0 : Int) < g by omega)
      omega
    obtain ⟨h1, h2⟩ := divInt_pos (a := t) hl0
    rw [hg] at h1 h2
    rw [dQ_eq h1 h2]
    exact ev_tup (ds := [.int _, .int _]) (ea_cons (ev_varI rfl) (ea_cons (ev_varI rfl) ea_nil)) (by simp)

/-! ### is_fraction, need_place -/
def pre_is_fraction : PreT := fun ss μ O => ∃ q : Rat, ss = [.im (dQ q)] ∧ μ = [] ∧ O = Is (B true) []
theorem ok_is_fraction (T : Txt K mg) : FnOk P w K mg base CX0 (2 + 1) T.d_is_fraction.f T.d_is_fraction.fd P_is_fraction (SpW K pre_is_fraction) := by
  refine T.d_is_fraction.F.ok sc_is_fraction (sp_len fun ss μ O ⟨a, e, _⟩ => by rw [e]; rfl) (fun cdv A outer s H vs Q E hr h => ?_)
  refine ⟨_, (pss_cons (ps_if (PW.pt (pw_or (pt_not (pt_val (pe_callB (k_isi (K := K) rfl) (by rfl) T.b_isinstance (by decide +kernel) (pa_cons (pv 0) (pa_cons (pe_bltn (v := .ty "tuple") (by rfl) T.b_tuple (by decide +kernel) rfl) pa_nil))))) (pw_or (pt_cmpR (k_neD (K := K) hr.units rfl) (pe_callB (k_len (K := K) rfl) (by rfl) T.b_len (by decide +kernel) (pa_cons (pv 0) pa_nil)) pe_int (nomark _)) (pw_or (pt_not (pt_val (pe_call (ok_is_int T) (hr.mono (by decide)) (by rfl) T.m_is_int T.d_is_int.F.kp T.d_is_int.b .nil pass0 (pa_cons (pe_ix (k_ix (K := K) rfl) (pv 0) pe_int (fun _ _ => rfl)) pa_nil)))) (pw_or1 (pt_not (pt_val (pe_call (ok_is_int T) (hr.mono (by decide)) (by rfl) T.m_is_int T.d_is_int.F.kp T.d_is_int.b .nil pass0 (pa_cons (pe_ix (k_ix (K := K) rfl) (pv 0) pe_int (fun _ _ => rfl)) pa_nil)))))))))
      (pss_one (ps_ret pe_bl))
      pss_nil)
    (pss_one (ps_ret (pe_and (pe_cmpR op_gt (pe_ix (k_ix (K := K) rfl) (pv 0) pe_int (fun _ _ => rfl)) pe_int (nomark _)) (pe_one (pe_cmpR (k_eqD (K := K) hr.units rfl) (pe_call (ok_greatest_part T) (hr.mono (by decide)) (by rfl) T.m_greatest_part T.d_greatest_part.F.kp T.d_greatest_part.b .nil pass0 (pa_cons (pv 0) pa_nil)) pe_int (nomark _))))))), ?_⟩
  refine fin h fun ss μ O ⟨q, e1, e2, e3⟩ => ?_
  subst e1 e2 e3
  refine t_no (et_or (c := false) (d := false) (et_not (c := true) (et_val (ev_isi (ev_varI rfl) (show kitB "tuple" "tuple" = some true by decide +kernel)))) fun _ =>
    et_or (c := false) (d := false) (et_op (ev_cb (ea_cons (ev_varI rfl) ea_nil) rc_lenT) ev_int (rv_ne rfl rfl)) fun _ =>
    et_or (c := false) (d := false) (et_not (c := true) (et_val (ev_call0 (ea_cons (ev_op (ev_varI rfl) ev_int (rv_ixT (d := .int q.num) rfl)) ea_nil) ⟨_, rfl, rfl, (fun _ z => nomatch z), rfl⟩))) fun _ =>
      et_not (c := true) (et_val (ev_call0 (ea_cons (ev_op (ev_varI rfl) ev_int (rv_ixT (d := .int q.den) rfl)) ea_nil) ⟨_, rfl, rfl, (fun _ z => nomatch z), rfl⟩))) ?_
  have h1 : decide ((0 : Int) < (q.den : Int)) = true := decide_eq_true (den_pos q)
  have h2 : PyData.eqv (.int (gcdL [q.num, (q.den : Int)] : Nat)) (.int 1) = true := by
    rw [gcdL_two, Int.natAbs_natCast, red_gcd]
    rfl
  refine t_ret (s := B true) ?_ is_refl
  refine ev_andV (c := true) (d := true) ?_ fun _ => ?_
  · have := ev_op (K := K) (δ := [.im (dQ q)]) (μ := []) (ta := tOp (rIx K) (tVar 0) (tC (.int 1))) (tb := tC (.int 0)) (ev_op (ev_varI rfl) ev_int (rv_ixT (d := .int q.den) rfl)) ev_int rv_gt
    rw [h1] at this
    exact this
  · have := ev_op (K := K) (μ := []) (δ := [.im (dQ q)]) (ev_call0 (μ := []) (μ1 := []) (Pre := pre_greatest_part) (E := E0) (s := I (gcdL [q.num, (q.den : Int)] : Nat)) (ea_cons (ev_varI (i := 0) rfl) ea_nil) ⟨[q.num, (q.den : Int)], rfl, rfl, rfl⟩) (ev_int (i := 1)) (rv_eq rfl rfl)
    rw [h2] at this
    exact this
def pre_need_place : PreT := fun ss μ O => ∃ p q : Rat, ss = [Tp [dQ p, dQ q]] ∧ μ = [] ∧ O = Is (.im .none) []
theorem ok_need_place (T : Txt K mg) : FnOk P w K mg base CX0 (3 + 1) T.d_need_place.f T.d_need_place.fd P_need_place (SpW K pre_need_place) := by
  refine T.d_need_place.F.ok sc_need_place (sp_len fun ss μ O ⟨a, b, e, _⟩ => by rw [e]; rfl) (fun cdv A outer s H vs Q E hr h => ?_)
  refine ⟨_, (pss_one (ps_if (PW.pt (pw_or (pt_not (pt_val (pe_callB (k_isi (K := K) rfl) (by rfl) T.b_isinstance (by decide +kernel) (pa_cons (pv 0) (pa_cons (pe_bltn (v := .ty "tuple") (by rfl) T.b_tuple (by decide +kernel) rfl) pa_nil))))) (pw_or (pt_cmpR (k_neD (K := K) hr.units rfl) (pe_callB (k_len (K := K) rfl) (by rfl) T.b_len (by decide +kernel) (pa_cons (pv 0) pa_nil)) pe_int (nomark _)) (pw_or1 (pt_not (pt_val (pe_callB (k_all (K := K) rfl rfl) (by rfl) T.b_all (by decide +kernel) (pa_cons (pe_lc (own := [("one", 1)]) rfl sc_need_place.nd (k_piT (K := K) rfl (pv 0)) (blkOk_by (N := N_need_place) (sc := defScope s_need_place) (by decide +kernel)) (fun _ _ _ _ _ => (pg_name (i := 1) sc_need_place.nd rfl (.inl rfl) (.inr rfl))) (fun _ _ _ _ _ => pts_nil) (fun _ _ _ _ _ => (pe_call (ok_is_fraction T) (hr.mono (by decide)) (by rfl) T.m_is_fraction T.d_is_fraction.F.kp T.d_is_fraction.b .nil pass0 (pa_cons (pv 1) pa_nil)))) pa_nil))))))))
      pss_never
      pss_nil)), ?_⟩
  refine fin h fun ss μ O ⟨p, q, e1, e2, e3⟩ => ?_
  subst e1 e2 e3
  refine t_no1 (et_or (c := false) (d := false) (et_not (c := true) (et_val (ev_isi (ev_varI rfl) (show kitB "tuple" "tuple" = some true by decide +kernel)))) fun _ =>
    et_or (c := false) (d := false) (et_op (ev_cb (ea_cons (ev_varI rfl) ea_nil) rc_lenT) ev_int (rv_ne rfl rfl)) fun _ =>
      et_not (c := true) (et_val (ev_cb (ea_cons (ev_map (ix := [1]) (es := [true, true].map PyData.bool) (ei_tup (ev_varI rfl)) glin_nil (by simp) (fun j h => h) rfl fun i d d' hd hd' => ?_) ea_nil) (rc_all (ns := [true, true]))))) is_refl
  match i, hd, hd' with
  | 0, hd, hd' => cases hd; cases hd'; exact ⟨_, bnd_name, ev_call0 (ea_cons (ev_varI rfl) ea_nil) ⟨p, rfl, rfl, rfl⟩⟩
  | 1, hd, hd' => cases hd; cases hd'; exact ⟨_, bnd_name, ev_call0 (ea_cons (ev_varI rfl) ea_nil) ⟨q, rfl, rfl, rfl⟩⟩

/-! ### inner -/
def dotL (ns ms : List Int) : Int := (List.zipWith (fun a b => a * b) ns ms).sum
def pre_inner : PreT := fun ss μ O => ∃ ns ms s1, ss = [s1, Ls (iD ms)] ∧ (s1 = Tp (iD ns) ∨ s1 = Ls (iD ns)) ∧ μ = [] ∧ ns.length ≤ 1000 ∧ (∀ n ∈ ns, Bi 200000 n) ∧ (∀ n ∈ ms, Bi 200000 n) ∧ O = Is (I (dotL ns ms)) []
theorem zip_iD {ns ms : List Int} {i : Nat} {d : PyData} (h : (zipD (iD ns) (iD ms))[i]? = some d) : ∃ a b, ns[i]? = some a ∧ ms[i]? = some b ∧ d = .tuple [.int a, .int b] := by
  obtain ⟨a, b, h1, h2, h3⟩ := zipD_get h
  obtain ⟨n, hn, rfl⟩ := iD_get h1
  obtain ⟨m, hm, rfl⟩ := iD_get h2
  exact ⟨n, m, hn, hm, h3⟩
theorem zip_len (ns ms : List Int) : (zipD (iD ns) (iD ms)).length = min ns.length ms.length := by
  unfold zipD
  rw [List.length_zipWith, iD_len, iD_len]
theorem ok_inner (T : Txt K mg) : FnOk P w K mg base CX0 (1 + 1) T.d_inner.f T.d_inner.fd P_inner (SpW K pre_inner) := by
  refine T.d_inner.F.ok sc_inner (sp_len fun ss μ O ⟨a, b, c, e, _⟩ => by rw [e]; rfl) (fun cdv A outer s H vs Q E hr h => ?_)
  refine ⟨_, (pss_one (ps_ret (pe_callB (k_sum (K := K) rfl rfl) (by rfl) T.b_sum (by decide +kernel) (pa_cons (pe_lc (own := [("a", 2), ("b", 3)]) rfl sc_inner.nd (k_zipB (K := K) rfl (by rfl) T.b_zip (pa_cons (pv 0) (pa_cons (pv 1) pa_nil))) (blkOk_by (N := N_inner) (sc := defScope s_inner) (by decide +kernel)) (fun _ _ _ _ _ => (k_gtup (K := K) (n := 2) rfl rfl (pgs_cons (pg_name (i := 2) sc_inner.nd rfl (.inl rfl) (.inr rfl)) (pgs_cons (pg_name (i := 3) sc_inner.nd rfl (.inl rfl) (.inr rfl)) pgs_nil)))) (fun _ _ _ _ _ => pts_nil) (fun _ _ _ _ _ => (pe_op op_mulA (pv 2) (pv 3)))) pa_nil)))), ?_⟩
  refine fin h fun ss μ O ⟨ns, ms, s1, e1, hs, e2, hl, hb, hb2, e3⟩ => ?_
  subst e1 e2 e3
  have key : ∀ (wi : TI), EvI K wi ([s1, Ls (iD ms)] ++ List.replicate (N_inner.length - [s1, Ls (iD ms)].length) Slot.un) [] [] (zipD (iD ns) (iD ms)) [] → Ev K (tLc wi (gTup K 2 (gCons (gName 2) (gCons (gName 3) gNil))) tYes (tOp rMulA (tVar 2) (tVar 3)) [2, 3]) ([s1, Ls (iD ms)] ++ List.replicate (N_inner.length - [s1, Ls (iD ms)].length) Slot.un) [] (Ls (iD (List.zipWith (fun a b => a * b) ns ms))) [] := fun wi hi =>
    ev_map (ix := [2, 3]) hi glin_nil (by rw [zip_len]; omega) (fun j h => h) (by rw [zip_len, iD_len, List.length_zipWith]) fun i d d' hd hd' => by
      obtain ⟨a, b, ha, hb', rfl⟩ := zip_iD hd
      obtain ⟨c, hc, rfl⟩ := iD_get hd'
      rw [List.getElem?_zipWith, ha, hb'] at hc
      cases hc
      exact ⟨_, bnd_tup2, ev_op (ev_varI rfl) (ev_varI rfl) (rv_mul (cmul_of (hb a (List.mem_of_getElem? ha)) (hb2 b (List.mem_of_getElem? hb')) (by decide) (by decide) (by decide)))⟩
  refine t_ret (ev_cb (ea_cons (key _ ?_) ea_nil) rc_sum) is_refl
  rcases hs with rfl | rfl
  · exact ei_zipT (ea_cons (ev_varI rfl) (ea_cons (ev_varI rfl) ea_nil))
  · exact ei_zipL (G := []) (G' := []) (ea_cons (ev_varI rfl) (ea_cons (ev_varI rfl) ea_nil)) lst_im lst_im glin_nil
end
end WM

set_option Elab.async false
set_option linter.all false
set_option maxRecDepth 100000
set_option maxHeartbeats 2000000
namespace WM
open PySem PySem.Spec PyProof.Rows L2 StX
section
variable {P : Program} {w : World} {K : PySem.W.Frag} {mg : Str → Option Value} {base : Heap}

/-! ### the law's draws -/
abbrev Dr := Int × Int × Int
def takenM (ns : List Int) (st : Dr) (many : Int) : Int × Dr :=
  if 0 < st.2.2 then (st.2.2 % many, (st.1, st.2.1, st.2.2 / many))
  else if (ns.length : Int) < st.1 + 1 then (((st.2.1 * 48271 + 11) % 2147483647) / 7 % many, (st.1 + 1, (st.2.1 * 48271 + 11) % 2147483647, st.2.2))
  else
    let cell := ns.getD st.1.toNat 0
    (cell % many, (st.1 + 1, (st.2.1 * 48271 + cell + 11) % 2147483647, if (10 : Int) ^ 18 ≤ cell then cell / many else st.2.2))
structure DrOk (st : Dr) : Prop where
  k : 0 ≤ st.1
  c : 0 ≤ st.2.1 ∧ st.2.1 < 2147483647
theorem taken_ok {ns : List Int} {st : Dr} {many : Int} (h : DrOk st) : DrOk (takenM ns st many).2 := by
  obtain ⟨hk, hc⟩ := h
  unfold takenM
  split
  · exact ⟨hk, hc⟩
  · split
    · refine ⟨by show 0 ≤ st.1 + 1; omega, ?_⟩
      show 0 ≤ (st.2.1 * 48271 + 11) % 2147483647 ∧ (st.2.1 * 48271 + 11) % 2147483647 < 2147483647
      omega
    · refine ⟨by show 0 ≤ st.1 + 1; omega, ?_⟩
      show 0 ≤ (st.2.1 * 48271 + ns.getD st.1.toNat 0 + 11) % 2147483647 ∧ (st.2.1 * 48271 + ns.getD st.1.toNat 0 + 11) % 2147483647 < 2147483647
      omega
theorem taken_rng {ns : List Int} {st : Dr} {many : Int} (h : 0 < many) : 0 ≤ (takenM ns st many).1 ∧ (takenM ns st many).1 < many := by
  unfold takenM
  split
  · exact ⟨Int.emod_nonneg _ (by omega), Int.emod_lt_of_pos _ h⟩
  · split
    · exact ⟨Int.emod_nonneg _ (by omega), Int.emod_lt_of_pos _ h⟩
    · exact ⟨Int.emod_nonneg _ (by omega), Int.emod_lt_of_pos _ h⟩
abbrev rowD (ns : List Int) (st : Dr) : List Slot := [.sc ns, I st.1, I st.2.1, I st.2.2]
abbrev rowM (a : Addr) (ns : List Int) (st : Dr) : Mu := [(a, .lst (rowD ns st))]
def pre_law_taken : PreT := fun ss μ O => ∃ a ns st many, ss = [.mr a, I many] ∧ μ = rowM a ns st ∧ DrOk st ∧ 0 < many ∧ many < 1000 ∧ ns.length ≤ 63 ∧
  O = fun r m => r = I (takenM ns st many).1 ∧ m = rowM a ns (takenM ns st many).2
theorem cdiv_small {n j : Int} (h : 0 < j) (h2 : j < 1000) : CDivW n j := wide_div h (show j.natAbs < 2 ^ 10 by omega) (by decide) (by decide)
theorem ok_law_taken (T : Txt K mg) : FnOk P w K mg base CX0 (1 + 1) T.d_law_taken.f T.d_law_taken.fd P_law_taken (SpW K pre_law_taken) := by
  refine T.d_law_taken.F.ok sc_law_taken (sp_len fun ss μ O ⟨a, b, c, d, e, _⟩ => by rw [e]; rfl) (fun cdv A outer s H vs Q E hr h => ?_)
  refine ⟨_, (pss_cons (ps_if (pt_cmpR op_gt (pe_ix (k_ix (K := K) rfl) (pv 0) pe_int (fun _ _ => rfl)) pe_int (nomark _))
      (pss_cons (ps_set (i := 3) sc_law_taken.nd rfl (.inl rfl) (pe_op op_mod (pe_callTy c_int (by rfl) T.b_int (by decide +kernel) (pa_cons (pe_ix (k_ix (K := K) rfl) (pv 0) pe_int (fun _ _ => rfl)) pa_nil)) (pv 1)) (hf := .inr rfl))
      (pss_cons (ps_asg (pe_op op_divA (pe_ix (k_ix (K := K) rfl) (pv 0) pe_int (fun _ _ => rfl)) (pv 1)) (pg_sub (pv 0) pe_int set_list))
      (pss_one (ps_ret (pv 3)))))
      pss_nil)
    (pss_cons (ps_asg (pe_op (k_add (K := K) rfl) (pe_ix (k_ix (K := K) rfl) (pv 0) pe_int (fun _ _ => rfl)) pe_int) (pg_sub (pv 0) pe_int set_list))
    (pss_cons (ps_if (pt_cmpR op_gt (pe_ix (k_ix (K := K) rfl) (pv 0) pe_int (fun _ _ => rfl)) (pe_callB (k_len (K := K) rfl) (by rfl) T.b_len (by decide +kernel) (pa_cons (pe_ix (k_ix (K := K) rfl) (pv 0) pe_int (fun _ _ => rfl)) pa_nil)) (nomark _))
      (pss_cons (ps_asg (pe_op op_mod (pe_callTy c_int (by rfl) T.b_int (by decide +kernel) (pa_cons (pe_op (k_add (K := K) rfl) (pe_op op_mulA (pe_ix (k_ix (K := K) rfl) (pv 0) pe_int (fun _ _ => rfl)) pe_int) pe_int) pa_nil)) pe_int) (pg_sub (pv 0) pe_int set_list))
      (pss_one (ps_ret (pe_op op_mod (pe_callTy c_int (by rfl) T.b_int (by decide +kernel) (pa_cons (pe_op op_divA (pe_ix (k_ix (K := K) rfl) (pv 0) pe_int (fun _ _ => rfl)) pe_int) pa_nil)) (pv 1)))))
      pss_nil)
    (pss_cons (ps_set (i := 2) sc_law_taken.nd rfl (.inl rfl) (pe_ix (k_ix (K := K) rfl) (pe_ix (k_ix (K := K) rfl) (pv 0) pe_int (fun _ _ => rfl)) (pe_op op_sub (pe_ix (k_ix (K := K) rfl) (pv 0) pe_int (fun _ _ => rfl)) pe_int) (fun _ _ => rfl)) (hf := .inr rfl))
    (pss_cons (ps_asg (pe_op op_mod (pe_callTy c_int (by rfl) T.b_int (by decide +kernel) (pa_cons (pe_op (k_add (K := K) rfl) (pe_op (k_add (K := K) rfl) (pe_op op_mulA (pe_ix (k_ix (K := K) rfl) (pv 0) pe_int (fun _ _ => rfl)) pe_int) (pv 2)) pe_int) pa_nil)) pe_int) (pg_sub (pv 0) pe_int set_list))
    (pss_cons (ps_if (pt_cmpR op_ge (pv 2) (pe_op op_pow pe_int pe_int) (nomark _))
      (pss_one (ps_asg (pe_op op_divA (pv 2) (pv 1)) (pg_sub (pv 0) pe_int set_list)))
      pss_nil)
    (pss_one (ps_ret (pe_op op_mod (pe_callTy c_int (by rfl) T.b_int (by decide +kernel) (pa_cons (pv 2) pa_nil)) (pv 1)))))))))), ?_⟩
  refine fin h fun ss μ O ⟨a, ns, ⟨k, c, d⟩, many, e1, e2, ok, hm, hm2, hl, e3⟩ => ?_
  subst e1 e2 e3
  obtain ⟨hk, hc⟩ := ok
  have hk : 0 ≤ k := hk
  have hc : 0 ≤ c ∧ c < 2147483647 := hc
  refine q_if (et_op (ev_op (ev_varM rfl) ev_int (rv_ixM 0 rfl (d := I d) rfl)) ev_int rv_gt) (fun hb => ?_) (fun hb => ?_)
  · have hd : 0 < d := of_decide_eq_true hb
    refine q_set (ev_op (ev_cb (ea_cons (ev_op (ev_varM rfl) ev_int (rv_ixM 0 rfl (d := I d) rfl)) ea_nil) rc_int) (ev_varI rfl) (rv_mod hm)) ?_
    refine t_seq (t_setI (N := At _ _) (i := 3) (j := 3) 0 (ev_op (ev_op (ev_varM rfl) ev_int (rv_ixM 0 rfl (d := I d) rfl)) (ev_varI rfl) (rv_div (cdiv_small hm hm2))) (ev_varM rfl) ev_int rfl rfl ⟨rfl, rfl⟩) fun _ _ ⟨e1, e2⟩ => ?_
    subst e1 e2
    refine t_ret (ev_varI rfl) ?_
    have e : takenM ns (k, c, d) many = (d % many, (k, c, d / many)) := if_pos hd
    rw [e]
    exact ⟨rfl, rfl⟩
  · have hd : ¬ 0 < d := of_decide_eq_false hb
    refine q_next ?_
    refine t_seq (t_setI (N := At _ _) (i := 1) (j := 1) 0 (ev_op (ev_op (ev_varM rfl) ev_int (rv_ixM 0 rfl (d := I k) rfl)) ev_int rv_add) (ev_varM rfl) ev_int rfl rfl ⟨rfl, rfl⟩) fun _ _ ⟨e1, e2⟩ => ?_
    subst e1 e2
    have bc : Bi 64 c := show c.natAbs < 2 ^ 64 by omega
    have bm : Bi 64 (48271 : Int) := show (48271 : Int).natAbs < 2 ^ 64 by decide
    refine q_if (et_op (ev_op (ev_varM rfl) ev_int (rv_ixM 0 rfl (d := I (k + 1)) rfl)) (ev_cb (ea_cons (ev_op (ev_varM rfl) ev_int (rv_ixM 0 rfl (d := .sc ns) rfl)) ea_nil) rc_lenS) rv_gt) (fun hb => ?_) (fun hb => ?_)
    · have hlen : (ns.length : Int) < k + 1 := of_decide_eq_true hb
      refine t_seq (M := NoN) (t_seq (t_setI (N := At _ _) (i := 2) (j := 2) 0 (ev_op (ev_cb (ea_cons (ev_op (ev_op (ev_op (ev_varM rfl) ev_int (rv_ixM 0 rfl (d := I c) rfl)) ev_int (rv_mul (cmul_of bc bm (by decide) (by decide) (by decide)))) ev_int rv_add) ea_nil) rc_int) ev_int (rv_mod (by decide))) (ev_varM rfl) ev_int rfl rfl ⟨rfl, rfl⟩) fun _ _ ⟨e1, e2⟩ => ?_) (fun _ _ z => z.elim)
      · subst e1 e2
        refine t_ret (ev_op (ev_cb (ea_cons (ev_op (ev_op (ev_varM rfl) ev_int (rv_ixM 0 rfl (d := I ((c * 48271 + 11) % 2147483647)) rfl)) ev_int (rv_div (cdiv_small (by decide) (by decide)))) ea_nil) rc_int) (ev_varI rfl) (rv_mod hm)) ?_
        have e : takenM ns (k, c, d) many = (((c * 48271 + 11) % 2147483647) / 7 % many, (k + 1, (c * 48271 + 11) % 2147483647, d)) := by
          unfold takenM
          rw [if_neg hd, if_pos hlen]
        rw [e]
        exact ⟨rfl, rfl⟩
    · have hlen : ¬ (ns.length : Int) < k + 1 := of_decide_eq_false hb
      refine q_next ?_
      have hkl : k.toNat < ns.length := by omega
      have hcell : ns[k.toNat]? = some (ns.getD k.toNat 0) := by rw [List.getD_eq_getElem?_getD, List.getElem?_eq_getElem hkl]; rfl
      generalize hce : ns.getD k.toNat 0 = cell at hcell
      have hat : atI ns (k + 1 - 1) = some cell := by
        have e : k + 1 - 1 = ((k.toNat : Nat) : Int) := by omega
        rw [e]
        exact at_nat hcell
      refine q_set (ev_op (ev_op (ev_varM rfl) ev_int (rv_ixM 0 rfl (d := .sc ns) rfl)) (ev_op (ev_op (ev_varM rfl) ev_int (rv_ixM 0 rfl (d := I (k + 1)) rfl)) ev_int rv_sub) (rv_ixS hat)) ?_
      refine t_seq (t_setI (N := At _ _) (i := 2) (j := 2) 0 (ev_op (ev_cb (ea_cons (ev_op (ev_op (ev_op (ev_op (ev_varM rfl) ev_int (rv_ixM 0 rfl (d := I c) rfl)) ev_int (rv_mul (cmul_of bc bm (by decide) (by decide) (by decide)))) (ev_varI rfl) rv_add) ev_int rv_add) ea_nil) rc_int) ev_int (rv_mod (by decide))) (ev_varM rfl) ev_int rfl rfl ⟨rfl, rfl⟩) fun _ _ ⟨e1, e2⟩ => ?_
      subst e1 e2
      have e : takenM ns (k, c, d) many = (cell % many, (k + 1, (c * 48271 + cell + 11) % 2147483647, if (10 : Int) ^ 18 ≤ cell then cell / many else d)) := by
        unfold takenM
        rw [if_neg hd, if_neg hlen]
        simp only [hce]
      rw [e]
      refine q_if (et_op (ev_varI rfl) (ev_op ev_int ev_int (rv_pow ⟨by decide, by decide, by decide⟩)) rv_ge) (fun hb => ?_) (fun hb => ?_)
      · have hbig : (10 : Int) ^ 18 ≤ cell := of_decide_eq_true hb
        refine t_seq (t_setI (N := At _ _) (i := 3) (j := 3) 0 (ev_op (ev_varI rfl) (ev_varI rfl) (rv_div (cdiv_small hm hm2))) (ev_varM rfl) ev_int rfl rfl ⟨rfl, rfl⟩) fun _ _ ⟨e1, e2⟩ => ?_
        subst e1 e2
        refine t_ret (ev_op (ev_cb (ea_cons (ev_varI rfl) ea_nil) rc_int) (ev_varI rfl) (rv_mod hm)) ?_
        rw [if_pos hbig]
        exact ⟨rfl, rfl⟩
      · have hbig : ¬ (10 : Int) ^ 18 ≤ cell := of_decide_eq_false hb
        refine q_next (t_ret (ev_op (ev_cb (ea_cons (ev_varI rfl) ea_nil) rc_int) (ev_varI rfl) (rv_mod hm)) ?_)
        rw [if_neg hbig]
        exact ⟨rfl, rfl⟩
def pre_law_number : PreT := fun ss μ O => ∃ a ns st sz, ss = [.mr a, I sz] ∧ μ = rowM a ns st ∧ DrOk st ∧ 0 ≤ sz ∧ sz < 400 ∧ ns.length ≤ 63 ∧
  O = fun r m => r = I ((takenM ns st (2 * sz + 1)).1 - sz) ∧ m = rowM a ns (takenM ns st (2 * sz + 1)).2
theorem ok_law_number (T : Txt K mg) : FnOk P w K mg base CX0 (2 + 1) T.d_law_number.f T.d_law_number.fd P_law_number (SpW K pre_law_number) := by
  refine T.d_law_number.F.ok sc_law_number (sp_len fun ss μ O ⟨a, b, c, d, e, _⟩ => by rw [e]; rfl) (fun cdv A outer s H vs Q E hr h => ?_)
  refine ⟨_, (pss_one (ps_ret (pe_op op_sub (pe_call (ok_law_taken T) (hr.mono (by decide)) (by rfl) T.m_law_taken T.d_law_taken.F.kp T.d_law_taken.b .nil pass0 (pa_cons (pv 0) (pa_cons (pe_op (k_add (K := K) rfl) (pe_op op_mulA pe_int (pv 1)) pe_int) pa_nil))) (pv 1)))), ?_⟩
  refine fin h fun ss μ O ⟨a, ns, st, sz, e1, e2, ok, hs, hs2, hl, e3⟩ => ?_
  subst e1 e2 e3
  have b2 : Bi 64 (2 : Int) := show (2 : Int).natAbs < 2 ^ 64 by decide
  have bs : Bi 64 sz := show sz.natAbs < 2 ^ 64 by omega
  exact t_ret (ev_op (ev_call (ρ := []) (ea_cons (ev_varM rfl) (ea_cons (ev_op (ev_op ev_int (ev_varI rfl) (rv_mul (cmul_of b2 bs (by decide) (by decide) (by decide)))) ev_int rv_add) ea_nil)) ⟨a, ns, st, 2 * sz + 1, rfl, rfl, ok, by omega, by omega, hl, rfl⟩) (ev_varI rfl) rv_sub) ⟨rfl, rfl⟩

/-! ### _law_is, _law_fr and its kin -/
def pre_law_is : PreT := fun ss μ O => ∃ a b : Bool, ss = [B a, B b] ∧ μ = [] ∧ O = Is (B (a == b)) []
theorem ok_law_is (T : Txt K mg) : FnOk P w K mg base CX0 (1 + 1) T.d_law_is.f T.d_law_is.fd P_law_is (SpW K pre_law_is) := by
  refine T.d_law_is.F.ok sc_law_is (sp_len fun ss μ O ⟨a, b, e, _⟩ => by rw [e]; rfl) (fun cdv A outer s H vs Q E hr h => ?_)
  refine ⟨_, (pss_one (ps_ret (pe_and (pe_callB (k_isi (K := K) rfl) (by rfl) T.b_isinstance (by decide +kernel) (pa_cons (pv 0) (pa_cons (pe_bltn (v := .ty "bool") (by rfl) T.b_bool (by decide +kernel) rfl) pa_nil))) (pe_one (pe_cmpR (k_eqD (K := K) hr.units rfl) (pv 0) (pv 1) (nomark _)))))), ?_⟩
  refine fin h fun ss μ O ⟨a, b, e1, e2, e3⟩ => ?_
  subst e1 e2 e3
  exact t_ret (ev_andV (c := true) (d := a == b) (ev_isi (ev_varI rfl) (show kitB "bool" "bool" = some true by decide +kernel)) fun _ => ev_op (ev_varI rfl) (ev_varI rfl) (rv_eq rfl rfl)) is_refl
def pre_law_fr : PreT := fun ss μ O => ∃ t l, ss = [I t, I l] ∧ μ = [] ∧ l ≠ 0 ∧ Bi 8900 t ∧ Bi 8900 l ∧ (0 < l ∨ Nat.gcd t.natAbs l.natAbs = 1) ∧ O = Is (.im (dQ (Rat.divInt t l))) []
theorem nabs (t : Int) : (if 0 - t > t then 0 - t else t) = (t.natAbs : Int) := by omega
theorem ok_law_fr (T : Txt K mg) : FnOk P w K mg base CX0 (1 + 1) T.d_law_fr.f T.d_law_fr.fd P_law_fr (SpW K pre_law_fr) := by
  refine T.d_law_fr.F.ok sc_law_fr (sp_len fun ss μ O ⟨a, b, e, _⟩ => by rw [e]; rfl) (fun cdv A outer s H vs Q E hr h => ?_)
  refine ⟨_, (pss_cons (ps_par (i := 2) (j := 3) rfl sc_law_fr.nd rfl rfl (by decide) rfl rfl (pa_cons (pe_callB (c_max rfl) (by rfl) T.b_max (by decide +kernel) (pa_cons (pv 0) (pa_cons (pe_op op_sub pe_int (pv 0)) pa_nil))) (pa_cons (pe_callB (c_max rfl) (by rfl) T.b_max (by decide +kernel) (pa_cons (pv 1) (pa_cons (pe_op op_sub pe_int (pv 1)) pa_nil))) pa_nil)) (by rfl))
    (pss_cons (ps_while PassesOwn.never (pt_cmpR (k_neD (K := K) hr.units rfl) (pv 3) pe_int (nomark _))
      (pss_one (ps_par (i := 2) (j := 3) rfl sc_law_fr.nd rfl rfl (by decide) rfl rfl (pa_cons (pv 3) (pa_cons (pe_op op_mod (pv 2) (pv 3)) pa_nil)) (by rfl))))
    (pss_cons (ps_set (i := 2) sc_law_fr.nd rfl (.inl rfl) (pe_ifExp (pt_cmpR op_gt (pv 1) pe_int (nomark _)) (pv 2) (pe_op op_sub pe_int (pv 2))) (hf := .inr rfl))
    (pss_one (ps_ret (pe_tup (pa_cons (pe_op op_divA (pv 0) (pv 2)) (pa_cons (pe_op op_divA (pv 1) (pv 2)) pa_nil)))))))), ?_⟩
  refine fin h fun ss μ O ⟨t, l, e1, e2, hl, ht, hb, hg, e3⟩ => ?_
  subst e1 e2 e3
  refine q_par (ea_cons (ev_cb (ea_cons (ev_varI rfl) (ea_cons (ev_op ev_int (ev_varI rfl) rv_sub) ea_nil)) rc_max) (ea_cons (ev_cb (ea_cons (ev_varI rfl) (ea_cons (ev_op ev_int (ev_varI rfl) rv_sub) ea_nil)) rc_max) ea_nil)) ?_
  rw [nabs, nabs]
  generalize hG : (Nat.gcd t.natAbs l.natAbs : Nat) = g
  have hgp : 0 < g := by rw [← hG]; exact Nat.gcd_pos_of_pos_right _ (by omega)
  have hgl : g < 2 ^ 8900 := by
    rw [← hG]
    exact Nat.lt_of_le_of_lt (Nat.gcd_le_right _ (by omega)) hb
  refine t_seq (M := fun a b => ∃ z, a = [I t, I l, I g, z] ∧ b = []) ?_ fun a b ⟨z, e1, e2⟩ => ?_
  · refine t_while (fun m a b => ∃ p q : Nat, a = [I t, I l, I p, I q] ∧ b = [] ∧ m = q ∧ Nat.gcd p q = g) l.natAbs ⟨t.natAbs, l.natAbs, rfl, rfl, rfl, hG⟩ ?_
    rintro m a b ⟨p, q, rfl, rfl, rfl, hgg⟩
    refine ⟨_, et_op (ev_varI rfl) ev_int (rv_ne rfl rfl), fun hb => ?_, fun hb => ?_⟩
    · have hq : m ≠ 0 := by
        intro z
        subst z
        simp [PyData.eqv] at hb
      refine t_par (ea_cons (ev_varI rfl) (ea_cons (ev_op (ev_varI rfl) (ev_varI rfl) (rv_mod (by omega))) ea_nil)) ?_
      exact ⟨p % m, Nat.mod_lt _ (by omega), m, p % m, by rw [← Int.natCast_emod] <;> rfl, rfl, rfl, by rw [← hgg, Nat.gcd_comm m, ← Nat.gcd_rec, Nat.gcd_comm]⟩
    · have hq : m = 0 := by simpa [PyData.eqv] using hb
      subst hq
      rw [Nat.gcd_zero_right] at hgg
      subst hgg
      exact ⟨_, rfl, rfl⟩
  · subst e1 e2
    by_cases hpos : 0 < l
    · refine q_set (s := I g) (ev_if (et_op (ev_varI rfl) ev_int rv_gt) (fun _ => ev_varI rfl) (fun hf => absurd hpos (of_decide_eq_false hf))) ?_
      obtain ⟨h1, h2⟩ := divInt_pos (a := t) hpos
      rw [hG] at h1 h2
      rw [dQ_eq h1 h2]
      exact t_ret (ev_tup (ds := [.int _, .int _]) (ea_cons (ev_op (ev_varI rfl) (ev_varI rfl) (rv_div (cdiv_of hgp hgl (by decide) (by decide)))) (ea_cons (ev_op (ev_varI rfl) (ev_varI rfl) (rv_div (cdiv_of hgp hgl (by decide) (by decide)))) ea_nil)) (by simp)) is_refl
    · have hneg : l < 0 := by omega
      have h1g : g = 1 := by
        rcases hg with z | z
        · omega
        · rw [← hG]; exact z
      subst h1g
      refine q_set (s := I (0 - ((1 : Nat) : Int))) (ev_if (et_op (ev_varI rfl) ev_int rv_gt) (fun ht => absurd (of_decide_eq_true ht) hpos) (fun _ => ev_op ev_int (ev_varI rfl) rv_sub)) ?_
      obtain ⟨h1, h2⟩ := divInt_neg (a := t) hneg
      rw [hG] at h1 h2
      have c : ∀ n : Int, CDivN n (0 - ((1 : Nat) : Int)) := fun n => ⟨by decide, by decide⟩
      have f : ∀ n : Int, n.fdiv (0 - ((1 : Nat) : Int)) = -(n / ((1 : Nat) : Int)) := fun n => by
        show n.fdiv (-1) = -(n / 1)
        rw [Int.ediv_one, Int.fdiv_neg, Int.fdiv_one] <;> simp
      rw [dQ_eq h1 h2, ← f, ← f]
      exact t_ret (ev_tup (ds := [.int _, .int _]) (ea_cons (ev_op (ev_varI rfl) (ev_varI rfl) (rv_divN (c t))) (ea_cons (ev_op (ev_varI rfl) (ev_varI rfl) (rv_divN (c l))) ea_nil)) (by simp)) is_refl
end
end WM

set_option Elab.async false
set_option linter.all false
set_option maxRecDepth 100000
set_option maxHeartbeats 2000000
namespace WM
open PySem PySem.Spec PyProof.Rows L2 StX

/-! ### the task and the place as plain data -/
structure Rw where
  nums : List Int
  right : Int
  east : Int
  north : Int
structure Tk where
  costs : List Int
  rows : List Rw
def dRow (r : Rw) : PyData := .tuple [.tuple (iD r.nums), .int r.right, .int r.east, .int r.north]
def dTask (t : Tk) : PyData := .tuple [.tuple (iD t.costs), .tuple (t.rows.map dRow)]
abbrev Pl := Rat × Rat
def dPl (p : Pl) : PyData := .tuple [dQ p.1, dQ p.2]
structure RwOk (n : Nat) (r : Rw) : Prop where
  len : r.nums.length = n
  nums : ∀ z ∈ r.nums, -3 ≤ z ∧ z ≤ 3
  right : -3 ≤ r.right ∧ r.right ≤ 3
  east : -2 ≤ r.east ∧ r.east ≤ 2
  north : -2 ≤ r.north ∧ r.north ≤ 2
structure TkOk (t : Tk) : Prop where
  wide : 1 ≤ t.costs.length ∧ t.costs.length ≤ 3
  high : 1 ≤ t.rows.length ∧ t.rows.length ≤ 3
  costs : ∀ z ∈ t.costs, -1 ≤ z ∧ z ≤ 4
  rows : ∀ r ∈ t.rows, RwOk t.costs.length r
structure PlOk (p : Pl) : Prop where
  e : Bq 3 p.1
  n : Bq 3 p.2
abbrev dQs (qs : List Rat) : List PyData := qs.map dQ
theorem dQs_len (qs : List Rat) : (dQs qs).length = qs.length := List.length_map ..
theorem dQs_get {qs : List Rat} {i : Nat} {d : PyData} (h : (dQs qs)[i]? = some d) : ∃ q, qs[i]? = some q ∧ d = dQ q := by
  unfold dQs at h
  rw [List.getElem?_map] at h
  cases e : qs[i]? with
  | none => rw [e] at h; cases h
  | some n => rw [e] at h; cases h; exact ⟨n, rfl, rfl⟩
theorem dQs_at {qs : List Rat} {i : Nat} {q : Rat} (h : qs[i]? = some q) : (dQs qs)[i]? = some (dQ q) := by
  unfold dQs
  rw [List.getElem?_map, h]
  rfl
theorem rows_at {t : Tk} {i : Nat} {r : Rw} (h : t.rows[i]? = some r) : (t.rows.map dRow)[i]? = some (dRow r) := by
  rw [List.getElem?_map, h]
  rfl
theorem rows_get {t : Tk} {i : Nat} {d : PyData} (h : (t.rows.map dRow)[i]? = some d) : ∃ r, t.rows[i]? = some r ∧ d = dRow r := by
  rw [List.getElem?_map] at h
  cases e : t.rows[i]? with
  | none => rw [e] at h; cases h
  | some n => rw [e] at h; cases h; exact ⟨n, rfl, rfl⟩
theorem bi_small {n : Int} (h : -100 ≤ n ∧ n ≤ 100) : Bi 8 n := show n.natAbs < 2 ^ 8 by omega

/-! ### a list or a tuple -/
def SeqS (s : Slot) (ds : List PyData) : Prop := s = Tp ds ∨ s = Ls ds
theorem seq_t {ds : List PyData} : SeqS (Tp ds) ds := .inl rfl
theorem seq_l {ds : List PyData} : SeqS (Ls ds) ds := .inr rfl
section
variable {K : PySem.W.Frag} {μ : Mu}
theorem rv_ixQ {s : Slot} {ds : List PyData} {k : Int} {d : PyData} (hs : SeqS s ds) (h : atI ds k = some d) : RV K (rIx K) μ s (I k) (.im d) := by
  rcases hs with rfl | rfl
  · exact rv_ixT h
  · exact rv_ixL h
theorem rc_lenQ {s : Slot} {ds : List PyData} (hs : SeqS s ds) : RC K (rLenQ K) μ [s] (I ds.length) := by
  rcases hs with rfl | rfl
  · exact rc_lenT
  · exact rc_lenL
theorem SeqS.un {s : Slot} {ds : List PyData} (h : SeqS s ds) : s ≠ .un := by rcases h with rfl | rfl <;> exact fun z => nomatch z
end
/-- shaped lists of small things -/
theorem depthAll_le {k : Nat} : ∀ {ds : List PyData}, (∀ d ∈ ds, d.depth ≤ k) → PyData.depthAll ds ≤ k
  | [], _ => by simp [PyData.depthAll]
  | d :: ds, h => by
    have h1 := h d (by simp)
    have h2 := depthAll_le (k := k) (ds := ds) fun x hx => h x (by simp [hx])
    simp only [PyData.depthAll]
    omega
theorem canLayAll_of : ∀ {ds : List PyData}, (∀ d ∈ ds, d.canLay0 = true) → PyData.canLayAll0 ds = true
  | [], _ => by simp [PyData.canLayAll0]
  | d :: ds, h => by
    simp only [PyData.canLayAll0]
    rw [h d (by simp), canLayAll_of fun x hx => h x (by simp [hx])]
    rfl
theorem shaped_list {ds : List PyData} (h : ∀ d ∈ ds, SeqAt.shaped d = true ∧ d.depth ≤ 20) : SeqAt.shaped (.list ds) = true := by
  have h1 : PyData.canLayAll0 ds = true := canLayAll_of fun d hd => SeqAt.canLay_of_shaped (h d hd).1
  have h2 := depthAll_le (k := 20) fun d hd => (h d hd).2
  unfold SeqAt.shaped
  rw [Bool.and_eq_true]
  refine ⟨by simpa only [PyData.canLay0] using h1, decide_eq_true ?_⟩
  simp only [PyData.depth]
  omega
theorem shaped_tup {ds : List PyData} (h : ∀ d ∈ ds, SeqAt.shaped d = true ∧ d.depth ≤ 20) : SeqAt.shaped (.tuple ds) = true := by
  have h1 : PyData.canLayAll0 ds = true := canLayAll_of fun d hd => SeqAt.canLay_of_shaped (h d hd).1
  have h2 := depthAll_le (k := 20) fun d hd => (h d hd).2
  unfold SeqAt.shaped
  rw [Bool.and_eq_true]
  refine ⟨by simpa only [PyData.canLay0] using h1, decide_eq_true ?_⟩
  simp only [PyData.depth]
  omega
theorem dep_int (i : Int) : (PyData.int i).depth ≤ 20 := by simp [PyData.depth]
theorem shaped_dQ (q : Rat) : SeqAt.shaped (dQ q) = true := shaped_tup fun d hd => by
  rcases List.mem_cons.mp hd with rfl | hd
  · exact ⟨rfl, dep_int _⟩
  · rcases List.mem_cons.mp hd with rfl | hd
    · exact ⟨rfl, dep_int _⟩
    · cases hd
theorem dep_dQ (q : Rat) : (dQ q).depth ≤ 20 := by
  unfold dQ
  simp only [PyData.depth, PyData.depthAll]
  omega
theorem eqv_int (a b : Int) : PyData.eqv (.int a) (.int b) = decide (a = b) := by
  simp only [PyData.eqv]
  by_cases h : a = b
  · subst h; simp
  · rw [decide_eq_false h]; exact beq_eq_false_iff_ne.mpr h
theorem eqv_dQ (p q : Rat) : PyData.eqv (dQ p) (dQ q) = decide (p = q) := by
  have e : PyData.eqv (dQ p) (dQ q) = (PyData.eqv (.int p.num) (.int q.num) && (PyData.eqv (.int p.den) (.int q.den) && true)) := by
    unfold dQ
    simp only [PyData.eqv, PyData.eqvAll]
  rw [e, eqv_int, eqv_int]
  by_cases h : p = q
  · subst h; simp
  · rw [decide_eq_false h]
    by_cases h1 : p.num = q.num
    · have h2 : ¬ ((p.den : Int) = (q.den : Int)) := fun z => h (Rat.ext h1 (by omega))
      rw [decide_eq_false h2]; simp
    · rw [decide_eq_false h1]; simp
theorem eqv_nil (ds : List PyData) : PyData.eqv (.list ds) (.list []) = ds.isEmpty := by
  cases ds with
  | nil => simp [PyData.eqv, PyData.eqvAll]
  | cons d ds => simp [PyData.eqv, PyData.eqvAll]
theorem filt_empty {ds : List PyData} {p : PyData → Bool} {f : PyData → PyData} : ((ds.filter p).map f).isEmpty = ds.all (fun d => !p d) := by
  induction ds with
  | nil => rfl
  | cons d ds ih =>
    rw [List.filter_cons, List.all_cons]
    cases h : p d with
    | true => rw [if_pos rfl]; simp
    | false =>
      rw [if_neg (by decide), ih]
      simp
theorem shaped_filt {ds : List PyData} {p : PyData → Bool} {i : Int} : SeqAt.shaped (.list ((ds.filter p).map fun _ => PyData.int i)) = true := shaped_list fun d hd => by
  obtain ⟨x, _, rfl⟩ := List.mem_map.mp hd
  exact ⟨rfl, dep_int _⟩

/-! ### what the law's small defs reckon -/
def atR (a b c : Int) (p : Pl) : Rat := (a : Rat) * p.1 + (b : Rat) * p.2 + (c : Rat)
def rightsR (t : Tk) (p : Pl) : List Rat := t.rows.map fun r => atR r.east r.north r.right p
def innerR : List Int → List Rat → Rat
  | ns, qs => (List.zipWith (fun (n : Int) (q : Rat) => (n : Rat) * q) ns qs).foldl (· + ·) 0
theorem foldl_take {xs : List Rat} {i : Nat} {x : Rat} (h : xs[i]? = some x) : (xs.take (i + 1)).foldl (· + ·) 0 = (xs.take i).foldl (· + ·) 0 + x := by
  rw [List.take_add_one, h, List.foldl_append]
  rfl
theorem bq0 : Bq 1 (0 : Rat) := ⟨show (0 : Int).natAbs < 2 ^ 1 by decide, show 1 < 2 ^ 1 by decide⟩
theorem fold_bq {k : Nat} : ∀ {xs : List Rat} (a : Nat) (z : Rat), Bq a z → (∀ x ∈ xs, Bq k x) → Bq (a + xs.length * (k + 1)) (xs.foldl (· + ·) z)
  | [], a, z, hz, _ => by simpa using hz
  | x :: xs, a, z, hz, h => by
    have h1 := hz.add (h x (by simp))
    have h2 := fold_bq (xs := xs) (a + k + 1) (z + x) h1 fun y hy => h y (by simp [hy])
    refine h2.mono ?_
    rw [List.length_cons, Nat.add_mul]
    omega
theorem bq_atR {a b c : Int} {p : Pl} (ha : -7 ≤ a ∧ a ≤ 7) (hb : -7 ≤ b ∧ b ≤ 7) (hc : -7 ≤ c ∧ c ≤ 7) (hp : PlOk p) : Bq 20 (atR a b c p) := by
  have b3 : ∀ z : Int, -7 ≤ z ∧ z ≤ 7 → Bq 3 (z : Rat) := fun z h => Bq.ofInt (show z.natAbs < 2 ^ 3 by omega) (by decide)
  exact (((b3 a ha).mul hp.e).add ((b3 b hb).mul hp.n)).add (b3 c hc) |>.mono (by decide)
theorem rights_bq {t : Tk} {p : Pl} (ht : TkOk t) (hp : PlOk p) : ∀ q ∈ rightsR t p, Bq 20 q := fun q hq => by
  obtain ⟨r, hr, rfl⟩ := List.mem_map.mp hq
  have h := ht.rows r hr
  exact bq_atR (by have := h.east; omega) (by have := h.north; omega) (by have := h.right; omega) hp
theorem rights_at {t : Tk} {p : Pl} {i : Nat} {r : Rw} (h : t.rows[i]? = some r) : (rightsR t p)[i]? = some (atR r.east r.north r.right p) := by
  unfold rightsR
  rw [List.getElem?_map, h]
  rfl
theorem inner_bq {ns : List Int} {qs : List Rat} {k : Nat} (hn : ns.length ≤ 3) (h1 : ∀ n ∈ ns, Bi 8 n) (h2 : ∀ q ∈ qs, Bq k q) : Bq (1 + 3 * (k + 9)) (innerR ns qs) := by
  unfold innerR
  have h := fold_bq (k := 8 + k) (xs := List.zipWith (fun (n : Int) (q : Rat) => (n : Rat) * q) ns qs) 1 0 bq0 fun x hx => by
    obtain ⟨i, hi⟩ := List.mem_iff_getElem?.mp hx
    rw [List.getElem?_zipWith] at hi
    cases e1 : ns[i]? with
    | none => rw [e1] at hi; cases hi
    | some n =>
      cases e2 : qs[i]? with
      | none => rw [e1, e2] at hi; cases hi
      | some q =>
        rw [e1, e2] at hi
        cases hi
        exact (Bq.ofInt (h1 n (List.mem_of_getElem? e1)) (by decide)).mul (h2 q (List.mem_of_getElem? e2))
  refine h.mono ?_
  have hl : (List.zipWith (fun (n : Int) (q : Rat) => (n : Rat) * q) ns qs).length ≤ 3 := by rw [List.length_zipWith]; omega
  have := Nat.mul_le_mul_right (8 + k + 1) hl
  omega

section
variable {P : Program} {w : World} {K : PySem.W.Frag} {mg : Str → Option Value} {base : Heap}
theorem ev_q1 {δ : DEnv} {μ μ1 : Mu} {te : TE} {n : Int} (h : Ev K te δ μ (I n) μ1) : Ev K (tTup (tCons te (tCons (tC (.int 1)) tNil))) δ μ (.im (dQ (n : Rat))) μ1 := ev_tup (ds := [.int n, .int 1]) (ea_cons h (ea_cons ev_int ea_nil)) (by simp)
def pre_law_plus : PreT := fun ss μ O => ∃ p q, ss = [.im (dQ p), .im (dQ q)] ∧ μ = [] ∧ Bq 4000 p ∧ Bq 4000 q ∧ O = Is (.im (dQ (p + q))) []
theorem ix0 (q : Rat) : atI [PyData.int q.num, PyData.int (q.den : Int)] 0 = some (.int q.num) := rfl
theorem ix1 (q : Rat) : atI [PyData.int q.num, PyData.int (q.den : Int)] 1 = some (.int q.den) := rfl
theorem ok_law_plus (T : Txt K mg) : FnOk P w K mg base CX0 (2 + 1) T.d_law_plus.f T.d_law_plus.fd P_law_plus (SpW K pre_law_plus) := by
  refine T.d_law_plus.F.ok sc_law_plus (sp_len fun ss μ O ⟨a, b, e, _⟩ => by rw [e]; rfl) (fun cdv A outer s H vs Q E hr h => ?_)
  refine ⟨_, (pss_one (ps_ret (pe_call (ok_law_fr T) (hr.mono (by decide)) (by rfl) T.m_law_fr T.d_law_fr.F.kp T.d_law_fr.b .nil pass0 (pa_cons (pe_op (k_add (K := K) rfl) (pe_op op_mulA (pe_ix (k_ix (K := K) rfl) (pv 0) pe_int (fun _ _ => rfl)) (pe_ix (k_ix (K := K) rfl) (pv 1) pe_int (fun _ _ => rfl))) (pe_op op_mulA (pe_ix (k_ix (K := K) rfl) (pv 1) pe_int (fun _ _ => rfl)) (pe_ix (k_ix (K := K) rfl) (pv 0) pe_int (fun _ _ => rfl)))) (pa_cons (pe_op op_mulA (pe_ix (k_ix (K := K) rfl) (pv 0) pe_int (fun _ _ => rfl)) (pe_ix (k_ix (K := K) rfl) (pv 1) pe_int (fun _ _ => rfl))) pa_nil))))), ?_⟩
  refine fin h fun ss μ O ⟨p, q, e1, e2, hp, hq, e3⟩ => ?_
  subst e1 e2 e3
  have d1 := hp.dz
  have d2 := hq.dz
  refine t_ret (ev_call0 (ea_cons (ev_op (ev_op (ev_op (ev_varI rfl) ev_int (rv_ixT (ix0 p))) (ev_op (ev_varI rfl) ev_int (rv_ixT (ix1 q))) (rv_mul (cmul_of hp.n d2 (by decide) (by decide) (by decide)))) (ev_op (ev_op (ev_varI rfl) ev_int (rv_ixT (ix0 q))) (ev_op (ev_varI rfl) ev_int (rv_ixT (ix1 p))) (rv_mul (cmul_of hq.n d1 (by decide) (by decide) (by decide)))) rv_add)
    (ea_cons (ev_op (ev_op (ev_varI rfl) ev_int (rv_ixT (ix1 p))) (ev_op (ev_varI rfl) ev_int (rv_ixT (ix1 q))) (rv_mul (cmul_of d1 d2 (by decide) (by decide) (by decide)))) ea_nil)) ?_) is_refl
  refine ⟨_, _, rfl, rfl, Int.mul_ne_zero (den_ne p) (den_ne q), ((hp.n.mul d2).add (hq.n.mul d1)).mono (by decide), (d1.mul d2).mono (by decide), .inl (Int.mul_pos (den_pos p) (den_pos q)), ?_⟩
  rw [add_eq, Int.natCast_mul]
def pre_law_times : PreT := fun ss μ O => ∃ p q, ss = [.im (dQ p), .im (dQ q)] ∧ μ = [] ∧ Bq 4000 p ∧ Bq 4000 q ∧ O = Is (.im (dQ (p * q))) []
theorem ok_law_times (T : Txt K mg) : FnOk P w K mg base CX0 (2 + 1) T.d_law_times.f T.d_law_times.fd P_law_times (SpW K pre_law_times) := by
  refine T.d_law_times.F.ok sc_law_times (sp_len fun ss μ O ⟨a, b, e, _⟩ => by rw [e]; rfl) (fun cdv A outer s H vs Q E hr h => ?_)
  refine ⟨_, (pss_one (ps_ret (pe_call (ok_law_fr T) (hr.mono (by decide)) (by rfl) T.m_law_fr T.d_law_fr.F.kp T.d_law_fr.b .nil pass0 (pa_cons (pe_op op_mulA (pe_ix (k_ix (K := K) rfl) (pv 0) pe_int (fun _ _ => rfl)) (pe_ix (k_ix (K := K) rfl) (pv 1) pe_int (fun _ _ => rfl))) (pa_cons (pe_op op_mulA (pe_ix (k_ix (K := K) rfl) (pv 0) pe_int (fun _ _ => rfl)) (pe_ix (k_ix (K := K) rfl) (pv 1) pe_int (fun _ _ => rfl))) pa_nil))))), ?_⟩
  refine fin h fun ss μ O ⟨p, q, e1, e2, hp, hq, e3⟩ => ?_
  subst e1 e2 e3
  have d1 := hp.dz
  have d2 := hq.dz
  refine t_ret (ev_call0 (ea_cons (ev_op (ev_op (ev_varI rfl) ev_int (rv_ixT (ix0 p))) (ev_op (ev_varI rfl) ev_int (rv_ixT (ix0 q))) (rv_mul (cmul_of hp.n hq.n (by decide) (by decide) (by decide))))
    (ea_cons (ev_op (ev_op (ev_varI rfl) ev_int (rv_ixT (ix1 p))) (ev_op (ev_varI rfl) ev_int (rv_ixT (ix1 q))) (rv_mul (cmul_of d1 d2 (by decide) (by decide) (by decide)))) ea_nil)) ?_) is_refl
  refine ⟨_, _, rfl, rfl, Int.mul_ne_zero (den_ne p) (den_ne q), (hp.n.mul hq.n).mono (by decide), (d1.mul d2).mono (by decide), .inl (Int.mul_pos (den_pos p) (den_pos q)), ?_⟩
  rw [mul_eq, Int.natCast_mul]
def pre_law_below : PreT := fun ss μ O => ∃ p q, ss = [.im (dQ p), .im (dQ q)] ∧ μ = [] ∧ Bq 400000 p ∧ Bq 400000 q ∧ O = Is (B (decide (p < q))) []
theorem ok_law_below (T : Txt K mg) : FnOk P w K mg base CX0 (1 + 1) T.d_law_below.f T.d_law_below.fd P_law_below (SpW K pre_law_below) := by
  refine T.d_law_below.F.ok sc_law_below (sp_len fun ss μ O ⟨a, b, e, _⟩ => by rw [e]; rfl) (fun cdv A outer s H vs Q E hr h => ?_)
  refine ⟨_, (pss_one (ps_ret (pe_cmpR op_lt (pe_op op_mulA (pe_ix (k_ix (K := K) rfl) (pv 0) pe_int (fun _ _ => rfl)) (pe_ix (k_ix (K := K) rfl) (pv 1) pe_int (fun _ _ => rfl))) (pe_op op_mulA (pe_ix (k_ix (K := K) rfl) (pv 1) pe_int (fun _ _ => rfl)) (pe_ix (k_ix (K := K) rfl) (pv 0) pe_int (fun _ _ => rfl))) (nomark _)))), ?_⟩
  refine fin h fun ss μ O ⟨p, q, e1, e2, hp, hq, e3⟩ => ?_
  subst e1 e2 e3
  have e : decide (p < q) = decide (p.num * q.den < q.num * p.den) := by rw [decide_eq_decide]; exact Rat.lt_iff p q
  rw [e]
  exact t_ret (ev_op (ev_op (ev_op (ev_varI rfl) ev_int (rv_ixT (ix0 p))) (ev_op (ev_varI rfl) ev_int (rv_ixT (ix1 q))) (rv_mul (cmul_of hp.n hq.dz (by decide) (by decide) (by decide)))) (ev_op (ev_op (ev_varI rfl) ev_int (rv_ixT (ix0 q))) (ev_op (ev_varI rfl) ev_int (rv_ixT (ix1 p))) (rv_mul (cmul_of hq.n hp.dz (by decide) (by decide) (by decide)))) rv_lt) is_refl
def pre_law_at : PreT := fun ss μ O => ∃ a b c p, ss = [Tp (iD [a, b, c]), .im (dPl p)] ∧ μ = [] ∧ (-7 ≤ a ∧ a ≤ 7) ∧ (-7 ≤ b ∧ b ≤ 7) ∧ (-7 ≤ c ∧ c ≤ 7) ∧ PlOk p ∧ O = Is (.im (dQ (atR a b c p))) []
theorem ok_law_at (T : Txt K mg) : FnOk P w K mg base CX0 (3 + 1) T.d_law_at.f T.d_law_at.fd P_law_at (SpW K pre_law_at) := by
  refine T.d_law_at.F.ok sc_law_at (sp_len fun ss μ O ⟨a, b, c, p, e, _⟩ => by rw [e]; rfl) (fun cdv A outer s H vs Q E hr h => ?_)
  refine ⟨_, (pss_cons (ps_set (i := 2) sc_law_at.nd rfl (.inl rfl) (pe_call (ok_law_plus T) (hr.mono (by decide)) (by rfl) T.m_law_plus T.d_law_plus.F.kp T.d_law_plus.b .nil pass0 (pa_cons (pe_call (ok_law_times T) (hr.mono (by decide)) (by rfl) T.m_law_times T.d_law_times.F.kp T.d_law_times.b .nil pass0 (pa_cons (pe_tup (pa_cons (pe_ix (k_ix (K := K) rfl) (pv 0) pe_int (fun _ _ => rfl)) (pa_cons pe_int pa_nil))) (pa_cons (pe_ix (k_ix (K := K) rfl) (pv 1) pe_int (fun _ _ => rfl)) pa_nil))) (pa_cons (pe_call (ok_law_times T) (hr.mono (by decide)) (by rfl) T.m_law_times T.d_law_times.F.kp T.d_law_times.b .nil pass0 (pa_cons (pe_tup (pa_cons (pe_ix (k_ix (K := K) rfl) (pv 0) pe_int (fun _ _ => rfl)) (pa_cons pe_int pa_nil))) (pa_cons (pe_ix (k_ix (K := K) rfl) (pv 1) pe_int (fun _ _ => rfl)) pa_nil))) pa_nil))) (hf := .inr rfl))
    (pss_one (ps_ret (pe_call (ok_law_plus T) (hr.mono (by decide)) (by rfl) T.m_law_plus T.d_law_plus.F.kp T.d_law_plus.b .nil pass0 (pa_cons (pv 2) (pa_cons (pe_tup (pa_cons (pe_ix (k_ix (K := K) rfl) (pv 0) pe_int (fun _ _ => rfl)) (pa_cons pe_int pa_nil))) pa_nil)))))), ?_⟩
  refine fin h fun ss μ O ⟨a, b, c, p, e1, e2, ha, hb, hc, hp, e3⟩ => ?_
  subst e1 e2 e3
  have b3 : ∀ z : Int, -7 ≤ z ∧ z ≤ 7 → Bq 3 (z : Rat) := fun z h => Bq.ofInt (show z.natAbs < 2 ^ 3 by omega) (by decide)
  have m4 : ∀ {k : Nat} {q : Rat}, Bq k q → k ≤ 4000 → Bq 4000 q := fun h e => h.mono e
  refine q_set (ev_call0 (ea_cons (ev_call0 (ea_cons (ev_q1 (ev_op (ev_varI rfl) ev_int (rv_ixT (d := .int a) rfl))) (ea_cons (ev_op (ev_varI rfl) ev_int (rv_ixT (d := dQ p.1) rfl)) ea_nil)) ⟨_, _, rfl, rfl, m4 (b3 a ha) (by decide), m4 hp.e (by decide), rfl⟩)
    (ea_cons (ev_call0 (ea_cons (ev_q1 (ev_op (ev_varI rfl) ev_int (rv_ixT (d := .int b) rfl))) (ea_cons (ev_op (ev_varI rfl) ev_int (rv_ixT (d := dQ p.2) rfl)) ea_nil)) ⟨_, _, rfl, rfl, m4 (b3 b hb) (by decide), m4 hp.n (by decide), rfl⟩) ea_nil))
    ⟨_, _, rfl, rfl, m4 ((b3 a ha).mul hp.e) (by decide), m4 ((b3 b hb).mul hp.n) (by decide), rfl⟩) ?_
  exact t_ret (ev_call0 (ea_cons (ev_varI rfl) (ea_cons (ev_q1 (ev_op (ev_varI rfl) ev_int (rv_ixT (d := .int c) rfl))) ea_nil)) ⟨_, _, rfl, rfl, m4 (((b3 a ha).mul hp.e).add ((b3 b hb).mul hp.n)) (by decide), m4 (b3 c hc) (by decide), rfl⟩) is_refl
def pre_law_rights : PreT := fun ss μ O => ∃ t p, ss = [.im (dTask t), .im (dPl p)] ∧ μ = [] ∧ TkOk t ∧ PlOk p ∧ O = Is (Ls (dQs (rightsR t p))) []
theorem rightsR_len (t : Tk) (p : Pl) : (rightsR t p).length = t.rows.length := List.length_map ..
theorem ok_law_rights (T : Txt K mg) : FnOk P w K mg base CX0 (4 + 1) T.d_law_rights.f T.d_law_rights.fd P_law_rights (SpW K pre_law_rights) := by
  refine T.d_law_rights.F.ok sc_law_rights (sp_len fun ss μ O ⟨t, p, e, _⟩ => by rw [e]; rfl) (fun cdv A outer s H vs Q E hr h => ?_)
  refine ⟨_, (pss_one (ps_ret (pe_lc (own := [("_law_one", 2)]) rfl sc_law_rights.nd (k_piT (K := K) rfl (pe_ix (k_ix (K := K) rfl) (pv 0) pe_int (fun _ _ => rfl))) (blkOk_by (N := N_law_rights) (sc := defScope s_law_rights) (by decide +kernel)) (fun _ _ _ _ _ => (pg_name (i := 2) sc_law_rights.nd rfl (.inl rfl) (.inr rfl))) (fun _ _ _ _ _ => pts_nil) (fun _ _ _ _ _ => (pe_call (ok_law_at T) (hr.mono (by decide)) (by rfl) T.m_law_at T.d_law_at.F.kp T.d_law_at.b .nil pass0 (pa_cons (pe_tup (pa_cons (pe_ix (k_ix (K := K) rfl) (pv 2) pe_int (fun _ _ => rfl)) (pa_cons (pe_ix (k_ix (K := K) rfl) (pv 2) pe_int (fun _ _ => rfl)) (pa_cons (pe_ix (k_ix (K := K) rfl) (pv 2) pe_int (fun _ _ => rfl)) pa_nil)))) (pa_cons (pv 1) pa_nil))))))), ?_⟩
  refine fin h fun ss μ O ⟨t, p, e1, e2, ht, hp, e3⟩ => ?_
  subst e1 e2 e3
  refine t_ret (ev_map (ix := [2]) (es := dQs (rightsR t p)) (ei_tup (ds := t.rows.map dRow) (ev_op (ev_varI rfl) ev_int (rv_ixT (d := .tuple (t.rows.map dRow)) rfl))) glin_nil (by have := ht.high; rw [List.length_map]; omega) (fun j h => h) (by rw [dQs_len, rightsR_len, List.length_map]) fun i d d' hd hd' => ?_) is_refl
  obtain ⟨r, hr', rfl⟩ := rows_get hd
  obtain ⟨q, hq, rfl⟩ := dQs_get hd'
  rw [rights_at hr'] at hq
  cases hq
  have ho := ht.rows r (List.mem_of_getElem? hr')
  refine ⟨_, bnd_name, ev_call0 (ea_cons (ev_tup (ds := iD [r.east, r.north, r.right]) (ea_cons (ev_op (ev_varI rfl) ev_int (rv_ixT (d := .int r.east) rfl)) (ea_cons (ev_op (ev_varI rfl) ev_int (rv_ixT (d := .int r.north) rfl)) (ea_cons (ev_op (ev_varI rfl) ev_int (rv_ixT (d := .int r.right) rfl)) ea_nil))) (by simp)) (ea_cons (ev_varI rfl) ea_nil))
    ⟨_, _, _, _, rfl, rfl, by have := ho.east; omega, by have := ho.north; omega, by have := ho.right; omega, hp, rfl⟩⟩
def pre_law_inner : PreT := fun ss μ O => ∃ ns qs s1 s2, ss = [s1, s2] ∧ SeqS s1 (iD ns) ∧ SeqS s2 (dQs qs) ∧ μ = [] ∧ ns.length ≤ 3 ∧ ns.length ≤ qs.length ∧ (∀ n ∈ ns, Bi 8 n) ∧ (∀ q ∈ qs, Bq 700 q) ∧ O = Is (.im (dQ (innerR ns qs))) []
theorem ok_law_inner (T : Txt K mg) : FnOk P w K mg base CX0 (3 + 1) T.d_law_inner.f T.d_law_inner.fd P_law_inner (SpW K pre_law_inner) := by
  refine T.d_law_inner.F.ok sc_law_inner (sp_len fun ss μ O ⟨a, b, c, d, e, _⟩ => by rw [e]; rfl) (fun cdv A outer s H vs Q E hr h => ?_)
  refine ⟨_, (pss_cons (ps_set (i := 2) sc_law_inner.nd rfl (.inl rfl) (pe_tup (pa_cons pe_int (pa_cons pe_int pa_nil))) (hf := .inr rfl))
    (pss_cons (ps_for PassesOwn.never rfl (pi_range1 (by rfl) T.b_range (pa_cons (pe_callB (k_len (K := K) rfl) (by rfl) T.b_len (by decide +kernel) (pa_cons (pv 0) pa_nil)) pa_nil)) (pg_name (i := 3) sc_law_inner.nd rfl (.inl rfl) (.inr rfl))
      (pss_one (ps_set (i := 2) sc_law_inner.nd rfl (.inl rfl) (pe_call (ok_law_plus T) (hr.mono (by decide)) (by rfl) T.m_law_plus T.d_law_plus.F.kp T.d_law_plus.b .nil pass0 (pa_cons (pv 2) (pa_cons (pe_call (ok_law_times T) (hr.mono (by decide)) (by rfl) T.m_law_times T.d_law_times.F.kp T.d_law_times.b .nil pass0 (pa_cons (pe_tup (pa_cons (pe_ix (k_ix (K := K) rfl) (pv 0) (pv 3) (fun _ _ => rfl)) (pa_cons pe_int pa_nil))) (pa_cons (pe_ix (k_ix (K := K) rfl) (pv 1) (pv 3) (fun _ _ => rfl)) pa_nil))) pa_nil))) (hf := .inr rfl))))
    (pss_one (ps_ret (pv 2))))), ?_⟩
  refine fin h fun ss μ O ⟨ns, qs, s1, s2, e1, q1, q2, e2, hn, hl, hb, hb2, e3⟩ => ?_
  subst e1 e2 e3
  have u1 := q1.un
  have u2 := q2.un
  generalize hz : List.zipWith (fun (n : Int) (q : Rat) => (n : Rat) * q) ns qs = zs
  have hzl : zs.length = ns.length := by rw [← hz, List.length_zipWith]; omega
  have hzb : ∀ x ∈ zs, Bq 708 x := fun x hx => by
    rw [← hz] at hx
    obtain ⟨i, hi⟩ := List.mem_iff_getElem?.mp hx
    rw [List.getElem?_zipWith] at hi
    cases e1 : ns[i]? with
    | none => rw [e1] at hi; cases hi
    | some n =>
      cases e2 : qs[i]? with
      | none => rw [e1, e2] at hi; cases hi
      | some q =>
        rw [e1, e2] at hi
        cases hi
        exact (Bq.ofInt (hb n (List.mem_of_getElem? e1)) (by decide)).mul (hb2 q (List.mem_of_getElem? e2))
  have hsum : ∀ i, i ≤ 3 → Bq 4000 ((zs.take i).foldl (· + ·) 0) := fun i hi => by
    refine (fold_bq (k := 708) (xs := zs.take i) 1 0 bq0 fun x hx => hzb x (List.mem_of_mem_take hx)).mono ?_
    have : (zs.take i).length ≤ 3 := by rw [List.length_take]; omega
    have := Nat.mul_le_mul_right 709 this
    omega
  refine q_set (ev_tup (ds := [.int 0, .int 1]) (ea_cons ev_int (ea_cons ev_int ea_nil)) (by simp)) ?_
  refine t_seq (M := fun a b => ∃ z, a = [s1, s2, .im (dQ (innerR ns qs)), z] ∧ b = []) ?_ fun a b ⟨z, e1, e2⟩ => ?_
  · refine t_for (ix := [3]) (ei_rng1 (ea_cons (ev_cb (ea_cons (ev_var rfl u1) ea_nil) (rc_lenQ q1)) ea_nil) (by omega) (by rw [iD_len]; omega)) (fun i a b => ∃ z, a = [s1, s2, .im (dQ ((zs.take i).foldl (· + ·) 0)), z] ∧ b = []) ⟨_, rfl, rfl⟩ (fun _ _ _ _ => glin_nil) (fun i d a b hd ⟨z, e1, e2⟩ => ?_) fun a b ⟨z, e1, e2⟩ => ?_
    · subst e1 e2
      obtain ⟨hi, rfl⟩ := rngD_get hd
      rw [Int.toNat_natCast, iD_len] at hi
      obtain ⟨n0, g1⟩ : ∃ n, ns[i]? = some n := ⟨_, List.getElem?_eq_getElem hi⟩
      obtain ⟨q0, g2⟩ : ∃ n, qs[i]? = some n := ⟨_, List.getElem?_eq_getElem (by omega)⟩
      have gz : zs[i]? = some ((n0 : Rat) * q0) := by rw [← hz, List.getElem?_zipWith, g1, g2]
      have zi : (0 : Int) + (i : Int) = (i : Int) := Int.zero_add _
      rw [zi]
      refine ⟨_, bnd_name, ?_⟩
      refine t_set (ev_call0 (ea_cons (ev_varI rfl) (ea_cons (ev_call0 (ea_cons (ev_q1 (ev_op (ev_var rfl u1) (ev_varI rfl) (rv_ixQ q1 (at_nat (iD_at g1))))) (ea_cons (ev_op (ev_var rfl u2) (ev_varI rfl) (rv_ixQ q2 (at_nat (dQs_at g2)))) ea_nil))
        ⟨_, _, rfl, rfl, (Bq.ofInt (hb _ (List.mem_of_getElem? g1)) (by decide)).mono (by decide), (hb2 _ (List.mem_of_getElem? g2)).mono (by decide), rfl⟩) ea_nil)) ⟨_, _, rfl, rfl, hsum i (by omega), (hzb _ (List.mem_of_getElem? gz)).mono (by decide), rfl⟩) ⟨I (i : Int), ?_, rfl⟩
      rw [foldl_take gz]
      rfl
    · subst e1 e2
      refine ⟨z, ?_, rfl⟩
      rw [rngD_len, Int.toNat_natCast, iD_len, ← hzl, List.take_length, ← hz]
      rfl
  · subst e1 e2
    exact t_ret (ev_varI rfl) is_refl
end
end WM

set_option Elab.async false
set_option linter.all false
set_option maxRecDepth 100000
set_option maxHeartbeats 2000000
namespace WM
open PySem PySem.Spec PyProof.Rows L2 StX
theorem ev_drop {K : PySem.W.Frag} {te : TE} {δ : DEnv} {μ μ1 ν : Mu} {s : Slot} (h : Ev K te δ μ s μ1) (hs : List.Sublist ν μ1) : Ev K te δ μ s ν := fun F H σ o Q q => h F H σ o Q fun v F' H' p r => q v F' H' (p.drop hs) r

/-! ### the drawn place, the drawn task -/
def placeM (ns : List Int) (st : Dr) : Pl × Dr :=
  let a := takenM ns st 11
  let b := takenM ns a.2 3
  let c := takenM ns b.2 11
  let d := takenM ns c.2 3
  ((Rat.divInt (a.1 - 5) (1 + b.1), Rat.divInt (c.1 - 5) (1 + d.1)), d.2)
def costsM (ns : List Int) : Nat → Dr → List Int × Dr
  | 0, st => ([], st)
  | n + 1, st =>
    let q := costsM ns n st
    let a := takenM ns q.2 5
    let b := takenM ns a.2 5
    (q.1 ++ [a.1 - (if b.1 = 0 then 1 else 0)], b.2)
def numsM (ns : List Int) : Nat → Dr → List Int × Dr
  | 0, st => ([], st)
  | n + 1, st =>
    let q := numsM ns n st
    let a := takenM ns q.2 7
    (q.1 ++ [a.1 - 3], a.2)
def rowsM (ns : List Int) (wide : Nat) : Nat → Dr → List Rw × Dr
  | 0, st => ([], st)
  | n + 1, st =>
    let q := rowsM ns wide n st
    let a := numsM ns wide q.2
    let b := takenM ns a.2 7
    let c := takenM ns b.2 5
    let d := takenM ns c.2 5
    (q.1 ++ [⟨a.1, b.1 - 3, c.1 - 2, d.1 - 2⟩], d.2)
def taskM (ns : List Int) (st : Dr) : Tk × Dr :=
  let w := takenM ns st 3
  let c := costsM ns (1 + w.1).toNat w.2
  let h := takenM ns c.2 3
  let r := rowsM ns (1 + w.1).toNat (1 + h.1).toNat h.2
  (⟨c.1, r.1⟩, r.2)
theorem costs_ok {ns : List Int} : ∀ (n : Nat) {st : Dr}, DrOk st → DrOk (costsM ns n st).2 ∧ (costsM ns n st).1.length = n ∧ ∀ z ∈ (costsM ns n st).1, -1 ≤ z ∧ z ≤ 4
  | 0, st, h => ⟨h, rfl, fun _ z => nomatch z⟩
  | n + 1, st, h => by
    obtain ⟨h1, h2, h3⟩ := costs_ok (ns := ns) n h
    have a1 := taken_rng (ns := ns) (st := (costsM ns n st).2) (many := 5) (by decide)
    refine ⟨taken_ok (taken_ok h1), ?_, fun z hz => ?_⟩
    · show ((costsM ns n st).1 ++ [_]).length = n + 1
      rw [List.length_append, h2]
      rfl
    · have hz : z ∈ (costsM ns n st).1 ++ [(takenM ns (costsM ns n st).2 5).1 - (if (takenM ns (takenM ns (costsM ns n st).2 5).2 5).1 = 0 then 1 else 0)] := hz
      rcases List.mem_append.mp hz with hz | hz
      · exact h3 z hz
      · have e := List.mem_singleton.mp hz
        rw [e]
        split <;> omega
theorem nums_ok {ns : List Int} : ∀ (n : Nat) {st : Dr}, DrOk st → DrOk (numsM ns n st).2 ∧ (numsM ns n st).1.length = n ∧ ∀ z ∈ (numsM ns n st).1, -3 ≤ z ∧ z ≤ 3
  | 0, st, h => ⟨h, rfl, fun _ z => nomatch z⟩
  | n + 1, st, h => by
    obtain ⟨h1, h2, h3⟩ := nums_ok (ns := ns) n h
    have a1 := taken_rng (ns := ns) (st := (numsM ns n st).2) (many := 7) (by decide)
    refine ⟨taken_ok h1, ?_, fun z hz => ?_⟩
    · show ((numsM ns n st).1 ++ [_]).length = n + 1
      rw [List.length_append, h2]
      rfl
    · have hz : z ∈ (numsM ns n st).1 ++ [(takenM ns (numsM ns n st).2 7).1 - 3] := hz
      rcases List.mem_append.mp hz with hz | hz
      · exact h3 z hz
      · have e := List.mem_singleton.mp hz
        rw [e]
        omega
theorem rows_ok {ns : List Int} (wide : Nat) : ∀ (n : Nat) {st : Dr}, DrOk st → DrOk (rowsM ns wide n st).2 ∧ (rowsM ns wide n st).1.length = n ∧ ∀ r ∈ (rowsM ns wide n st).1, RwOk wide r
  | 0, st, h => ⟨h, rfl, fun _ z => nomatch z⟩
  | n + 1, st, h => by
    obtain ⟨h1, h2, h3⟩ := rows_ok (ns := ns) wide n h
    obtain ⟨g1, g2, g3⟩ := nums_ok (ns := ns) wide h1
    have a1 := taken_rng (ns := ns) (st := (numsM ns wide (rowsM ns wide n st).2).2) (many := 7) (by decide)
    have k1 := taken_ok (ns := ns) (many := 7) g1
    have a2 := taken_rng (ns := ns) (st := (takenM ns (numsM ns wide (rowsM ns wide n st).2).2 7).2) (many := 5) (by decide)
    have k2 := taken_ok (ns := ns) (many := 5) k1
    have a3 := taken_rng (ns := ns) (st := (takenM ns (takenM ns (numsM ns wide (rowsM ns wide n st).2).2 7).2 5).2) (many := 5) (by decide)
    refine ⟨taken_ok k2, ?_, fun z hz => ?_⟩
    · show ((rowsM ns wide n st).1 ++ [_]).length = n + 1
      rw [List.length_append, h2]
      rfl
    · have hz : z ∈ (rowsM ns wide n st).1 ++ [_] := hz
      rcases List.mem_append.mp hz with hz | hz
      · exact h3 z hz
      · have e := List.mem_singleton.mp hz
        rw [e]
        refine ⟨g2, g3, ?_, ?_, ?_⟩
        · show -3 ≤ _ - 3 ∧ _ - 3 ≤ (3 : Int)
          omega
        · show -2 ≤ _ - 2 ∧ _ - 2 ≤ (2 : Int)
          omega
        · show -2 ≤ _ - 2 ∧ _ - 2 ≤ (2 : Int)
          omega
theorem task_ok {ns : List Int} {st : Dr} (h : DrOk st) : TkOk (taskM ns st).1 ∧ DrOk (taskM ns st).2 := by
  have w1 := taken_rng (ns := ns) (st := st) (many := 3) (by decide)
  have k1 := taken_ok (ns := ns) (many := 3) h
  obtain ⟨c1, c2, c3⟩ := costs_ok (ns := ns) (1 + (takenM ns st 3).1).toNat k1
  have h1 := taken_rng (ns := ns) (st := (costsM ns (1 + (takenM ns st 3).1).toNat (takenM ns st 3).2).2) (many := 3) (by decide)
  have k2 := taken_ok (ns := ns) (many := 3) c1
  obtain ⟨r1, r2, r3⟩ := rows_ok (ns := ns) (1 + (takenM ns st 3).1).toNat (1 + (takenM ns (costsM ns (1 + (takenM ns st 3).1).toNat (takenM ns st 3).2).2 3).1).toNat k2
  refine ⟨⟨?_, ?_, c3, fun r hr => ?_⟩, r1⟩
  · show 1 ≤ (costsM ns (1 + (takenM ns st 3).1).toNat (takenM ns st 3).2).1.length ∧ (costsM ns (1 + (takenM ns st 3).1).toNat (takenM ns st 3).2).1.length ≤ 3
    rw [c2]
    omega
  · show 1 ≤ (rowsM ns _ _ _).1.length ∧ (rowsM ns _ _ _).1.length ≤ 3
    rw [r2]
    omega
  · show RwOk (costsM ns (1 + (takenM ns st 3).1).toNat (takenM ns st 3).2).1.length r
    rw [c2]
    exact r3 r hr
theorem place_ok {ns : List Int} {st : Dr} (h : DrOk st) : PlOk (placeM ns st).1 ∧ DrOk (placeM ns st).2 := by
  have a := taken_rng (ns := ns) (st := st) (many := 11) (by decide)
  have k1 := taken_ok (ns := ns) (many := 11) h
  have b := taken_rng (ns := ns) (st := (takenM ns st 11).2) (many := 3) (by decide)
  have k2 := taken_ok (ns := ns) (many := 3) k1
  have c := taken_rng (ns := ns) (st := (takenM ns (takenM ns st 11).2 3).2) (many := 11) (by decide)
  have k3 := taken_ok (ns := ns) (many := 11) k2
  have d := taken_rng (ns := ns) (st := (takenM ns (takenM ns (takenM ns st 11).2 3).2 11).2) (many := 3) (by decide)
  have k4 := taken_ok (ns := ns) (many := 3) k3
  have key : ∀ u v : Int, 0 ≤ u ∧ u < 11 → 0 ≤ v ∧ v < 3 → Bq 3 (Rat.divInt (u - 5) (1 + v)) := fun u v hu hv =>
    bq_divInt (by omega) (show (u - 5).natAbs < 2 ^ 3 by omega) (show (1 + v).natAbs < 2 ^ 3 by omega)
  exact ⟨⟨key _ _ a b, key _ _ c d⟩, k4⟩

section
variable {P : Program} {w : World} {K : PySem.W.Frag} {mg : Str → Option Value} {base : Heap}
def pre_law_place : PreT := fun ss μ O => ∃ a ns st, ss = [.mr a, I 5, I 3] ∧ μ = rowM a ns st ∧ DrOk st ∧ ns.length ≤ 63 ∧ O = fun r m => r = .im (dPl (placeM ns st).1) ∧ m = rowM a ns (placeM ns st).2
theorem rv_eqI {μ : Mu} {i j : Int} : RV K (rEqD K) μ (I i) (I j) (B (decide (i = j))) := by
  rw [← eqv_int]
  exact rv_eq rfl rfl
theorem rv_neI {μ : Mu} {i j : Int} : RV K (rNeD K) μ (I i) (I j) (B (!decide (i = j))) := by
  rw [← eqv_int]
  exact rv_ne rfl rfl
theorem ev_tk {δ : DEnv} {ρ : Mu} {ta tb : TE} {E : XK} {a : Addr} {ns : List Int} {st : Dr} {many : Int} (ok : DrOk st) (h0 : 0 < many) (h1 : many < 1000) (hl : ns.length ≤ 63) (ha : Ev K ta δ (rowM a ns st ++ ρ) (.mr a) (rowM a ns st ++ ρ)) (hb : Ev K tb δ (rowM a ns st ++ ρ) (I many) (rowM a ns st ++ ρ)) :
    Ev K (tCall (SpW K pre_law_taken) [] E (tCons ta (tCons tb tNil))) δ (rowM a ns st ++ ρ) (I (takenM ns st many).1) (rowM a ns (takenM ns st many).2 ++ ρ) :=
  ev_call (ea_cons ha (ea_cons hb ea_nil)) ⟨a, ns, st, many, rfl, rfl, ok, h0, h1, hl, rfl⟩
theorem ev_nm {δ : DEnv} {ρ : Mu} {ta tb : TE} {E : XK} {a : Addr} {ns : List Int} {st : Dr} {sz : Int} (ok : DrOk st) (h0 : 0 ≤ sz) (h1 : sz < 400) (hl : ns.length ≤ 63) (ha : Ev K ta δ (rowM a ns st ++ ρ) (.mr a) (rowM a ns st ++ ρ)) (hb : Ev K tb δ (rowM a ns st ++ ρ) (I sz) (rowM a ns st ++ ρ)) :
    Ev K (tCall (SpW K pre_law_number) [] E (tCons ta (tCons tb tNil))) δ (rowM a ns st ++ ρ) (I ((takenM ns st (2 * sz + 1)).1 - sz)) (rowM a ns (takenM ns st (2 * sz + 1)).2 ++ ρ) :=
  ev_call (ea_cons ha (ea_cons hb ea_nil)) ⟨a, ns, st, sz, rfl, rfl, ok, h0, h1, hl, rfl⟩
theorem fr_arg {u v : Int} (hu : 0 ≤ u ∧ u < 11) (hv : 0 ≤ v ∧ v < 3) : pre_law_fr [I (u - 5), I (1 + v)] [] (Is (.im (dQ (Rat.divInt (u - 5) (1 + v)))) []) :=
  ⟨_, _, rfl, rfl, by omega, Bi.mono (k := 4) (show (u - 5).natAbs < 2 ^ 4 by omega) (by decide), Bi.mono (k := 4) (show (1 + v).natAbs < 2 ^ 4 by omega) (by decide), .inl (by omega), rfl⟩
theorem ok_law_place (T : Txt K mg) : FnOk P w K mg base CX0 (3 + 1) T.d_law_place.f T.d_law_place.fd P_law_place (SpW K pre_law_place) := by
  refine T.d_law_place.F.ok sc_law_place (sp_len fun ss μ O ⟨a, b, c, e, _⟩ => by rw [e]; rfl) (fun cdv A outer s H vs Q E hr h => ?_)
  refine ⟨_, (pss_cons (ps_set (i := 3) sc_law_place.nd rfl (.inl rfl) (pe_call (ok_law_fr T) (hr.mono (by decide)) (by rfl) T.m_law_fr T.d_law_fr.F.kp T.d_law_fr.b .nil pass0 (pa_cons (pe_call (ok_law_number T) (hr.mono (by decide)) (by rfl) T.m_law_number T.d_law_number.F.kp T.d_law_number.b .nil pass0 (pa_cons (pv 0) (pa_cons (pv 1) pa_nil))) (pa_cons (pe_op (k_add (K := K) rfl) pe_int (pe_call (ok_law_taken T) (hr.mono (by decide)) (by rfl) T.m_law_taken T.d_law_taken.F.kp T.d_law_taken.b .nil pass0 (pa_cons (pv 0) (pa_cons (pv 2) pa_nil)))) pa_nil))) (hf := .inr rfl))
    (pss_one (ps_ret (pe_tup (pa_cons (pv 3) (pa_cons (pe_call (ok_law_fr T) (hr.mono (by decide)) (by rfl) T.m_law_fr T.d_law_fr.F.kp T.d_law_fr.b .nil pass0 (pa_cons (pe_call (ok_law_number T) (hr.mono (by decide)) (by rfl) T.m_law_number T.d_law_number.F.kp T.d_law_number.b .nil pass0 (pa_cons (pv 0) (pa_cons (pv 1) pa_nil))) (pa_cons (pe_op (k_add (K := K) rfl) pe_int (pe_call (ok_law_taken T) (hr.mono (by decide)) (by rfl) T.m_law_taken T.d_law_taken.F.kp T.d_law_taken.b .nil pass0 (pa_cons (pv 0) (pa_cons (pv 2) pa_nil)))) pa_nil))) pa_nil)))))), ?_⟩
  refine fin h fun ss μ O ⟨a, ns, st, e1, e2, ok, hl, e3⟩ => ?_
  subst e1 e2 e3
  have a1 := taken_rng (ns := ns) (st := st) (many := 11) (by decide)
  have k1 := taken_ok (ns := ns) (many := 11) ok
  have b1 := taken_rng (ns := ns) (st := (takenM ns st 11).2) (many := 3) (by decide)
  have k2 := taken_ok (ns := ns) (many := 3) k1
  have c1 := taken_rng (ns := ns) (st := (takenM ns (takenM ns st 11).2 3).2) (many := 11) (by decide)
  have k3 := taken_ok (ns := ns) (many := 11) k2
  have d1 := taken_rng (ns := ns) (st := (takenM ns (takenM ns (takenM ns st 11).2 3).2 11).2) (many := 3) (by decide)
  have k4 := taken_ok (ns := ns) (many := 3) k3
  refine q_set (μ1 := rowM a ns (takenM ns (takenM ns st 11).2 3).2) (ev_call0 (ea_cons (ev_nm (ρ := []) (st := st) ok (by decide) (by decide) hl (ev_varM rfl) (ev_varI rfl)) (ea_cons (ev_op ev_int (ev_tk (ρ := []) (st := (takenM ns st 11).2) k1 (by decide) (by decide) hl (ev_varM rfl) (ev_varI rfl)) rv_add) ea_nil)) (fr_arg a1 b1)) ?_
  refine t_ret (μ1 := rowM a ns (placeM ns st).2) (ev_tup (ds := [dQ _, dQ _]) (ea_cons (ev_varI rfl) (ea_cons (ev_call0 (ea_cons (ev_nm (ρ := []) (st := (takenM ns (takenM ns st 11).2 3).2) k2 (by decide) (by decide) hl (ev_varM rfl) (ev_varI rfl)) (ea_cons (ev_op ev_int (ev_tk (ρ := []) (st := (takenM ns (takenM ns (takenM ns st 11).2 3).2 11).2) k3 (by decide) (by decide) hl (ev_varM rfl) (ev_varI rfl)) rv_add) ea_nil)) (fr_arg c1 d1)) ea_nil)) (by simp)) ⟨rfl, rfl⟩
def pre_law_task : PreT := fun ss μ O => ∃ a ns st, ss = [.mr a, I 3, I 3, I 3] ∧ μ = rowM a ns st ∧ DrOk st ∧ ns.length ≤ 63 ∧ O = fun r m => r = .im (dTask (taskM ns st).1) ∧ m = rowM a ns (taskM ns st).2
theorem iD_app (xs : List Int) (z : Int) : iD (xs ++ [z]) = iD xs ++ [.int z] := List.map_append ..
theorem ok_law_task (T : Txt K mg) : FnOk P w K mg base CX0 (3 + 1) T.d_law_task.f T.d_law_task.fd P_law_task (SpW K pre_law_task) := by
  refine T.d_law_task.F.ok sc_law_task (sp_len fun ss μ O ⟨a, b, c, e, _⟩ => by rw [e]; rfl) (fun cdv A outer s H vs Q E hr h => ?_)
  refine ⟨_, (pss_cons (ps_set (i := 4) sc_law_task.nd rfl (.inl rfl) (pe_op (k_add (K := K) rfl) pe_int (pe_call (ok_law_taken T) (hr.mono (by decide)) (by rfl) T.m_law_taken T.d_law_taken.F.kp T.d_law_taken.b .nil pass0 (pa_cons (pv 0) (pa_cons (pv 1) pa_nil)))) (hf := .inr rfl))
    (pss_cons (ps_set (i := 5) sc_law_task.nd rfl (.inl rfl) (pe_callTy (k_tuple (K := K) rfl) (by rfl) T.b_tuple (by decide +kernel) (pa_cons (pe_lc (own := [("_law_at_here", 9)]) rfl sc_law_task.nd (pi_range1 (by rfl) T.b_range (pa_cons (pv 4) pa_nil)) (blkOk_by (N := N_law_task) (sc := defScope s_law_task) (by decide +kernel)) (fun _ _ _ _ _ => (pg_name (i := 9) sc_law_task.nd rfl (.inl rfl) (.inr rfl))) (fun _ _ _ _ _ => pts_nil) (fun _ _ _ _ _ => (pe_op op_sub (pe_call (ok_law_taken T) (hr.mono (by decide)) (by rfl) T.m_law_taken T.d_law_taken.F.kp T.d_law_taken.b .nil pass0 (pa_cons (pv 0) (pa_cons (pe_op (k_add (K := K) rfl) (pv 3) pe_int) pa_nil))) (pe_ifExp (pt_cmpR (k_eqD (K := K) hr.units rfl) (pe_call (ok_law_taken T) (hr.mono (by decide)) (by rfl) T.m_law_taken T.d_law_taken.F.kp T.d_law_taken.b .nil pass0 (pa_cons (pv 0) (pa_cons pe_int pa_nil))) pe_int (nomark _)) pe_int pe_int)))) pa_nil)) (hf := .inr rfl))
    (pss_cons (ps_set (i := 6) sc_law_task.nd rfl (.inl rfl) (pe_lst pa_nil) (hf := .inr rfl))
    (pss_cons (ps_for PassesOwn.never rfl (pi_range1 (by rfl) T.b_range (pa_cons (pe_op (k_add (K := K) rfl) pe_int (pe_call (ok_law_taken T) (hr.mono (by decide)) (by rfl) T.m_law_taken T.d_law_taken.F.kp T.d_law_taken.b .nil pass0 (pa_cons (pv 0) (pa_cons (pv 2) pa_nil)))) pa_nil)) (pg_name (i := 7) sc_law_task.nd rfl (.inl rfl) (.inr rfl))
      (pss_cons (ps_set (i := 8) sc_law_task.nd rfl (.inl rfl) (pe_callTy (k_tuple (K := K) rfl) (by rfl) T.b_tuple (by decide +kernel) (pa_cons (pe_lc (own := [("_law_at_here", 9)]) rfl sc_law_task.nd (pi_range1 (by rfl) T.b_range (pa_cons (pv 4) pa_nil)) (blkOk_by (N := N_law_task) (sc := defScope s_law_task) (by decide +kernel)) (fun _ _ _ _ _ => (pg_name (i := 9) sc_law_task.nd rfl (.inl rfl) (.inr rfl))) (fun _ _ _ _ _ => pts_nil) (fun _ _ _ _ _ => (pe_call (ok_law_number T) (hr.mono (by decide)) (by rfl) T.m_law_number T.d_law_number.F.kp T.d_law_number.b .nil pass0 (pa_cons (pv 0) (pa_cons (pv 3) pa_nil))))) pa_nil)) (hf := .inr rfl))
      (pss_one (ps_expr (pe_bm PySem.F.plainAttrs_list PySem.F.slot_list_append PySem.F.type_list_append mt_append (pv 6) (pa_cons (pe_tup (pa_cons (pv 8) (pa_cons (pe_call (ok_law_number T) (hr.mono (by decide)) (by rfl) T.m_law_number T.d_law_number.F.kp T.d_law_number.b .nil pass0 (pa_cons (pv 0) (pa_cons (pv 3) pa_nil))) (pa_cons (pe_call (ok_law_number T) (hr.mono (by decide)) (by rfl) T.m_law_number T.d_law_number.F.kp T.d_law_number.b .nil pass0 (pa_cons (pv 0) (pa_cons pe_int pa_nil))) (pa_cons (pe_call (ok_law_number T) (hr.mono (by decide)) (by rfl) T.m_law_number T.d_law_number.F.kp T.d_law_number.b .nil pass0 (pa_cons (pv 0) (pa_cons pe_int pa_nil))) pa_nil))))) pa_nil))))))
    (pss_one (ps_ret (pe_tup (pa_cons (pv 5) (pa_cons (pe_callTy (k_tuple (K := K) rfl) (by rfl) T.b_tuple (by decide +kernel) (pa_cons (pv 6) pa_nil)) pa_nil))))))))), ?_⟩
  refine fin h fun ss μ O ⟨a, ns, st, e1, e2, ok, hl, e3⟩ => ?_
  subst e1 e2 e3
  have w1 := taken_rng (ns := ns) (st := st) (many := 3) (by decide)
  have k1 := taken_ok (ns := ns) (many := 3) ok
  refine q_set (μ1 := rowM a ns (takenM ns st 3).2) (ev_op ev_int (ev_tk (ρ := []) (st := st) ok (by decide) (by decide) hl (ev_varM rfl) (ev_varI rfl)) rv_add) ?_
  generalize hw : (1 + (takenM ns st 3).1).toNat = wd
  have hw2 : 1 + (takenM ns st 3).1 = (wd : Int) := by omega
  have hw3 : wd ≤ 3 := by omega
  rw [hw2]
  have cl : ∀ i, (costsM ns i (takenM ns st 3).2).1.length = i := fun i => (costs_ok i k1).2.1
  refine q_set (s := Tp (iD (costsM ns wd (takenM ns st 3).2).1)) (μ1 := rowM a ns (costsM ns wd (takenM ns st 3).2).2) (ev_cb (ea_cons ?_ ea_nil) rc_tupL) ?_
  · have key := ev_lc (K := K) (δ := [.mr a, I 3, I 3, I 3, I (wd : Int), .un, .un, .un, .un, .un]) (μ := rowM a ns (takenM ns st 3).2) (wi := iRng1 (tCons (tVar 4) tNil)) (g := gName 9) (ix := [9]) (vs := [9]) (t := tYes)
      (te := tOp (rI0 fun i j => V.int (i - j)) (tCall (SpW K pre_law_taken) [] E0 (tCons (tVar 0) (tCons (tOp (rAddA K) (tVar 3) (tC (.int 2))) tNil))) (tIf (tTest (tOp (rEqD K) (tCall (SpW K pre_law_taken) [] E0 (tCons (tVar 0) (tCons (tC (.int 5)) tNil))) (tC (.int 0)))) (tC (.int 1)) (tC (.int 0))))
      (ei_rng1 (ea_cons (ev_varI rfl) ea_nil) (by omega) (by omega)) (fun i => iD (costsM ns i (takenM ns st 3).2).1) (fun i => rowM a ns (costsM ns i (takenM ns st 3).2).2) rfl rfl (by rw [rngD_len]; omega) (fun j h => h) (fun i d hd => by
        obtain ⟨hi, rfl⟩ := rngD_get hd
        have q1 := (costs_ok (ns := ns) i k1).1
        have q2 := taken_ok (ns := ns) (many := 5) q1
        refine ⟨glin_nil, _, true, _, bnd_name, et_yes, fun _ => ⟨_, ev_op (ev_tk (ρ := []) (st := _) q1 (by decide) (by decide) hl (ev_varM rfl) (ev_op (ev_varI rfl) ev_int rv_add))
          (ev_if (s := I (if (takenM ns (takenM ns (costsM ns i (takenM ns st 3).2).2 5).2 5).1 = 0 then 1 else 0)) (et_op (ev_tk (ρ := []) (st := _) q2 (by decide) (by decide) hl (ev_varM rfl) ev_int) ev_int rv_eqI) (fun hc => ?_) (fun hc => ?_)) rv_sub, ?_⟩, fun z => nomatch z⟩
        · rw [if_pos (show (takenM ns (takenM ns (costsM ns i (takenM ns st 3).2).2 5).2 5).1 = 0 from of_decide_eq_true hc)]
          exact ev_int
        · rw [if_neg (show ¬ (takenM ns (takenM ns (costsM ns i (takenM ns st 3).2).2 5).2 5).1 = 0 from of_decide_eq_false hc)]
          exact ev_int
        · show iD ((costsM ns i (takenM ns st 3).2).1 ++ [_]) = _
          rw [iD_app]
          rfl) glin_nil
    have e : (rngD 0 ((wd : Int)).toNat).length = wd := by rw [rngD_len, Int.toNat_natCast]
    simp only [e] at key
    exact key
  obtain ⟨cc1, cc2, cc3⟩ := costs_ok (ns := ns) wd k1
  generalize hcs : costsM ns wd (takenM ns st 3).2 = cs at cc1 cc2 cc3
  refine ev_newM (xs := []) 6 ea_nil (by simp) fun f => ?_
  have h1 := taken_rng (ns := ns) (st := cs.2) (many := 3) (by decide)
  have k2 := taken_ok (ns := ns) (many := 3) cc1
  have em : taskM ns st = (⟨cs.1, (rowsM ns wd (1 + (takenM ns cs.2 3).1).toNat (takenM ns cs.2 3).2).1⟩, (rowsM ns wd (1 + (takenM ns cs.2 3).1).toNat (takenM ns cs.2 3).2).2) := by
    unfold taskM
    simp only [hw, hcs]
  rw [em]
  generalize hh : (1 + (takenM ns cs.2 3).1).toNat = hg
  have hg2 : 1 + (takenM ns cs.2 3).1 = (hg : Int) := by omega
  have hg3 : hg ≤ 3 := by omega
  let RW := fun i => rowsM ns wd i (takenM ns cs.2 3).2
  refine t_seq (M := fun x m => ∃ y z u, x = [.mr a, I 3, I 3, I 3, I wd, Tp (iD cs.1), .mr f, y, z, u] ∧ m = rowM a ns (RW hg).2 ++ [(f, .lst (ims ((RW hg).1.map dRow)))]) ?_ fun x m ⟨y, z, u, e1, e2⟩ => ?_
  · refine t_for (ix := [7]) (μ0 := rowM a ns (takenM ns cs.2 3).2 ++ [(f, .lst [])]) (ds := rngD 0 hg) ?_ (fun i x m => ∃ y z u, x = [.mr a, I 3, I 3, I 3, I wd, Tp (iD cs.1), .mr f, y, z, u] ∧ m = rowM a ns (RW i).2 ++ [(f, .lst (ims ((RW i).1.map dRow)))]) ⟨.un, .un, .un, rfl, rfl⟩ (fun _ _ _ _ => glin_nil) (fun i d x m hd ⟨y, z, u, e1, e2⟩ => ?_) fun x m ⟨y, z, u, e1, e2⟩ => ?_
    · have key := ei_rng1 (K := K) (δ := [.mr a, I 3, I 3, I 3, I wd, Tp (iD cs.1), .mr f, .un, .un, .un]) (μ := rowM a ns cs.2 ++ [(f, .lst [])]) (tr := tCons (tOp (rAddA K) (tC (.int 1)) (tCall (SpW K pre_law_taken) [] E0 (tCons (tVar 0) (tCons (tVar 2) tNil)))) tNil)
        (ea_cons (ev_op ev_int (ev_tk (ρ := [(f, .lst [])]) (st := cs.2) cc1 (by decide) (by decide) hl (ev_varM rfl) (ev_varI rfl)) rv_add) ea_nil) (by omega) (by omega)
      rw [hh] at key
      exact key
    · subst e1 e2
      obtain ⟨hi, rfl⟩ := rngD_get hd
      refine ⟨_, bnd_name, ?_⟩
      obtain ⟨r1, r2, r3⟩ := rows_ok (ns := ns) wd i k2
      obtain ⟨n1, n2, n3⟩ := nums_ok (ns := ns) wd r1
      refine q_set (s := Tp (iD (numsM ns wd (RW i).2).1)) (μ1 := rowM a ns (numsM ns wd (RW i).2).2 ++ [(f, .lst (ims ((RW i).1.map dRow)))]) (ev_cb (ea_cons ?_ ea_nil) rc_tupL) ?_
      · have key := ev_lc (K := K) (δ := [.mr a, I 3, I 3, I 3, I wd, Tp (iD cs.1), .mr f, I (0 + (i : Int)), z, u]) (μ := rowM a ns (RW i).2 ++ [(f, .lst (ims ((RW i).1.map dRow)))]) (wi := iRng1 (tCons (tVar 4) tNil)) (g := gName 9) (ix := [9]) (vs := [9]) (t := tYes)
          (te := tCall (SpW K pre_law_number) [] E0 (tCons (tVar 0) (tCons (tVar 3) tNil)))
          (ei_rng1 (ea_cons (ev_varI rfl) ea_nil) (by omega) (by omega)) (fun j => iD (numsM ns j (RW i).2).1) (fun j => rowM a ns (numsM ns j (RW i).2).2 ++ [(f, .lst (ims ((RW i).1.map dRow)))]) rfl rfl (by rw [rngD_len]; omega) (fun j h => h) (fun j d hd => by
            obtain ⟨hj, rfl⟩ := rngD_get hd
            have q1 := (nums_ok (ns := ns) j r1).1
            refine ⟨glin_nil, _, true, _, bnd_name, et_yes, fun _ => ⟨_, ev_call (ρ := [(f, .lst (ims ((RW i).1.map dRow)))]) (ea_cons (ev_varM rfl) (ea_cons (ev_varI rfl) ea_nil)) ⟨a, ns, _, 3, rfl, rfl, q1, by decide, by decide, hl, rfl⟩, ?_⟩, fun z => nomatch z⟩
            show iD ((numsM ns j (RW i).2).1 ++ [_]) = _
            rw [iD_app]
            rfl) glin_nil
        have e : (rngD 0 ((wd : Int)).toNat).length = wd := by rw [rngD_len, Int.toNat_natCast]
        simp only [e] at key
        exact key
      · have b1 := taken_ok (ns := ns) (many := 7) n1
        have c1 := taken_ok (ns := ns) (many := 5) b1
        refine t_app (xs := ims ((RW i).1.map dRow)) 1 (ev_varM rfl) (ev_tup (ds := [.tuple (iD (numsM ns wd (RW i).2).1), .int _, .int _, .int _]) (μ1 := rowM a ns (RW (i + 1)).2 ++ [(f, .lst (ims ((RW i).1.map dRow)))]) (ea_cons (ev_varI rfl) (ea_cons
          (ev_nm (ρ := [(f, .lst (ims ((RW i).1.map dRow)))]) (st := _) n1 (by decide) (by decide) hl (ev_varM rfl) (ev_varI rfl)) (ea_cons
          (ev_nm (ρ := [(f, .lst (ims ((RW i).1.map dRow)))]) (st := _) b1 (by decide) (by decide) hl (ev_varM rfl) ev_int) (ea_cons
          (ev_nm (ρ := [(f, .lst (ims ((RW i).1.map dRow)))]) (st := _) c1 (by decide) (by decide) hl (ev_varM rfl) ev_int) ea_nil)))) (by simp)) ⟨1, _, rfl⟩ rfl (by unfold ims; rw [List.length_map, List.length_map, r2]; omega) ?_
        refine ⟨_, _, _, rfl, ?_⟩
        show rowM a ns (RW (i + 1)).2 ++ [(f, MO.lst (ims ((RW i).1.map dRow) ++ [_]))] = rowM a ns (RW (i + 1)).2 ++ [(f, MO.lst (ims ((RW (i + 1)).1.map dRow)))]
        have er : (RW (i + 1)).1 = (RW i).1 ++ [⟨(numsM ns wd (RW i).2).1, _, _, _⟩] := rfl
        rw [er, List.map_append]
        unfold ims
        rw [List.map_append]
        rfl
    · subst e1 e2
      rw [rngD_len]
      exact ⟨_, _, _, rfl, rfl⟩
  · subst e1 e2
    refine t_ret (ev_drop (ev_tup (ds := [.tuple (iD cs.1), .tuple ((RW hg).1.map dRow)]) (ea_cons (ev_varI rfl) (ea_cons (ev_cb (ea_cons (ev_varM rfl) ea_nil) (rc_tupM 1 rfl)) ea_nil)) (by simp)) (List.sublist_append_left ..)) ⟨rfl, rfl⟩
end
end WM

set_option Elab.async false
set_option linter.all false
set_option maxRecDepth 100000
set_option maxHeartbeats 2000000
namespace WM
open PySem PySem.Spec PyProof.Rows L2 StX

/-! ### plans and papers as the law holds them -/
def Keeps (t : Tk) (p : Pl) (qs : List Rat) : Prop := (∀ q ∈ qs, 0 ≤ q) ∧ ∀ r ∈ t.rows, atR r.east r.north r.right p ≤ innerR r.nums qs
instance (t : Tk) (p : Pl) (qs : List Rat) : Decidable (Keeps t p qs) := by unfold Keeps; exact inferInstance
def colZ (t : Tk) (j : Nat) : List Int := t.rows.map fun r => r.nums.getD j 0
def Pays (t : Tk) (ys : List Rat) : Prop := (∀ y ∈ ys, 0 ≤ y) ∧ ∀ j, j < t.costs.length → innerR (colZ t j) ys ≤ ((t.costs.getD j 0 : Int) : Rat)
theorem pays_iff (t : Tk) (ys : List Rat) : Pays t ys ↔ (∀ y ∈ ys, 0 ≤ y) ∧ ∀ j ∈ List.range t.costs.length, innerR (colZ t j) ys ≤ ((t.costs.getD j 0 : Int) : Rat) := by
  unfold Pays
  simp only [List.mem_range]
instance (t : Tk) (ys : List Rat) : Decidable (Pays t ys) := decidable_of_iff' _ (pays_iff t ys)
def promR (t : Tk) (p : Pl) (ys : List Rat) : Rat := (List.zipWith (fun (a b : Rat) => a * b) (rightsR t p) ys).foldl (· + ·) 0
def pNeg : PyData → Bool
  | .tuple (.int n :: _) => decide (n < 0)
  | _ => false
theorem pNeg_dQ (q : Rat) : pNeg (dQ q) = !decide (0 ≤ q) := by
  show decide (q.num < 0) = !decide (0 ≤ q)
  by_cases h : 0 ≤ q
  · have := Rat.num_nonneg.mpr h
    rw [decide_eq_true h, decide_eq_false (by omega)]
    rfl
  · have : ¬ 0 ≤ q.num := fun z => h (Rat.num_nonneg.mp z)
    rw [decide_eq_false h, decide_eq_true (by omega)]
    rfl
theorem all_neg (qs : List Rat) : (dQs qs).all (fun d => !pNeg d) = decide (∀ q ∈ qs, 0 ≤ q) := by
  rw [Bool.eq_iff_iff, List.all_eq_true, decide_eq_true_iff]
  constructor
  · intro h q hq
    have := h (dQ q) (List.mem_map.mpr ⟨q, hq, rfl⟩)
    rw [pNeg_dQ, Bool.not_not] at this
    exact of_decide_eq_true this
  · intro h d hd
    obtain ⟨q, hq, rfl⟩ := List.mem_map.mp hd
    rw [pNeg_dQ, Bool.not_not]
    exact decide_eq_true (h q hq)
theorem col_len (t : Tk) (j : Nat) : (colZ t j).length = t.rows.length := List.length_map ..
theorem col_at {t : Tk} {j i : Nat} {r : Rw} (h : t.rows[i]? = some r) : (colZ t j)[i]? = some (r.nums.getD j 0) := by
  unfold colZ
  rw [List.getElem?_map, h]
  rfl
theorem getD_at {α : Type} {xs : List α} {j : Nat} {z : α} (h : j < xs.length) : xs[j]? = some (xs.getD j z) := by
  rw [List.getD_eq_getElem?_getD, List.getElem?_eq_getElem h]
  rfl
theorem RwOk.b8 {n : Nat} {r : Rw} (h : RwOk n r) : ∀ z ∈ r.nums, Bi 8 z := fun z hz => bi_small (by have := h.nums z hz; omega)
theorem RwOk.get8 {n : Nat} {r : Rw} (h : RwOk n r) (j : Nat) : -3 ≤ r.nums.getD j 0 ∧ r.nums.getD j 0 ≤ 3 := by
  rw [List.getD_eq_getElem?_getD]
  cases e : r.nums[j]? with
  | none => exact ⟨by decide, by decide⟩
  | some z => exact h.nums z (List.mem_of_getElem? e)
theorem TkOk.col8 {t : Tk} (h : TkOk t) (j : Nat) : ∀ z ∈ colZ t j, Bi 8 z := fun z hz => by
  obtain ⟨r, hr, rfl⟩ := List.mem_map.mp hz
  have := (h.rows r hr).get8 j
  exact bi_small (by omega)
theorem TkOk.cost8 {t : Tk} (h : TkOk t) : ∀ z ∈ t.costs, Bi 8 z := fun z hz => bi_small (by have := h.costs z hz; omega)

section
variable {P : Program} {w : World} {K : PySem.W.Frag} {mg : Str → Option Value} {base : Heap}
/-- whether some first number of fractions lies below 0 -/
theorem ev_negs {δ : DEnv} {te : TE} {qs : List Rat} {i : Nat} (hl : qs.length ≤ 1000) (h : Ev K te δ [] (Tp (dQs qs)) []) (hi : i < δ.length) :
    Ev K (tOp (rNeD K) (tLc (iTup K te) (gName i) (tTest (tOp (rI0 fun i j => V.bl (decide (i < j))) (tOp (rIx K) (tVar i) (tC (.int 0))) (tC (.int 0)))) (tC (.int 1)) [i]) (tLst tNil)) δ [] (B (!decide (∀ q ∈ qs, 0 ≤ q))) [] := by
  have key := ev_op (ev_filt (K := K) (te := tC (.int 1)) (t := tTest (tOp (rI0 fun i j => V.bl (decide (i < j))) (tOp (rIx K) (tVar i) (tC (.int 0))) (tC (.int 0)))) (g := gName i) (ix := [i]) (vs := [i]) pNeg (fun _ => .int 1) (ei_tup h) glin_nil (by rw [dQs_len]; omega) (fun j h => h) fun k d hd => by
      obtain ⟨q, hq, rfl⟩ := dQs_get hd
      have hlen : i < (wipeD δ [i]).length := by rw [wipeD_len]; exact hi
      have hv : ((wipeD δ [i]).set i (.im (dQ q)))[i]? = some (.im (dQ q)) := List.getElem?_set_self hlen
      exact ⟨_, bnd_name, et_op (ev_op (ev_varI hv) ev_int (rv_ixT (ix0 q))) ev_int rv_lt, fun _ => ev_int⟩) (ev_lst (ds := []) ea_nil (by simp)) (rv_ne shaped_filt (by decide +kernel))
  rw [eqv_nil, filt_empty, all_neg] at key
  exact key
def pLate (t : Tk) (p : Pl) (qs : List Rat) : PyData → Bool
  | .int k => decide (innerR (t.rows.getD k.toNat ⟨[], 0, 0, 0⟩).nums qs < (rightsR t p).getD k.toNat 0)
  | _ => false
theorem late_all {t : Tk} {p : Pl} {qs : List Rat} : (rngD 0 t.rows.length).all (fun d => !pLate t p qs d) = decide (∀ r ∈ t.rows, atR r.east r.north r.right p ≤ innerR r.nums qs) := by
  rw [Bool.eq_iff_iff, List.all_eq_true, decide_eq_true_iff]
  have at_ : ∀ (i : Nat) (r : Rw), t.rows[i]? = some r → (!pLate t p qs (.int (0 + (i : Int)))) = decide (atR r.east r.north r.right p ≤ innerR r.nums qs) := by
    intro i r hr
    have e0 : (0 + (i : Int)).toNat = i := by omega
    have e1 : t.rows.getD i ⟨[], 0, 0, 0⟩ = r := by rw [List.getD_eq_getElem?_getD, hr]; rfl
    have e2 : (rightsR t p).getD i 0 = atR r.east r.north r.right p := by rw [List.getD_eq_getElem?_getD, rights_at hr]; rfl
    show (!decide (innerR (t.rows.getD (0 + (i : Int)).toNat ⟨[], 0, 0, 0⟩).nums qs < (rightsR t p).getD (0 + (i : Int)).toNat 0)) = _
    rw [e0, e1, e2]
    by_cases h : atR r.east r.north r.right p ≤ innerR r.nums qs
    · rw [decide_eq_true h, decide_eq_false (Rat.not_lt.mpr h)]; rfl
    · rw [decide_eq_false h, decide_eq_true (Rat.not_le.mp h)]; rfl
  constructor
  · intro h r hr
    obtain ⟨i, hi⟩ := List.mem_iff_getElem?.mp hr
    have hil := (List.getElem?_eq_some_iff.mp hi).1
    have hm : PyData.int (0 + (i : Int)) ∈ rngD 0 t.rows.length := List.mem_map.mpr ⟨i, List.mem_range.mpr hil, rfl⟩
    have := h _ hm
    rw [at_ i r hi] at this
    exact of_decide_eq_true this
  · intro h d hd
    obtain ⟨i, hi⟩ := List.mem_iff_getElem?.mp hd
    obtain ⟨hil, rfl⟩ := rngD_get hi
    have g : t.rows[i]? = some t.rows[i] := List.getElem?_eq_getElem hil
    rw [at_ i _ g]
    exact decide_eq_true (h _ (List.mem_of_getElem? g))
def pre_law_keeps : PreT := fun ss μ O => ∃ t p qs, ss = [.im (dTask t), .im (dPl p), Tp (dQs qs)] ∧ μ = [] ∧ TkOk t ∧ PlOk p ∧ qs.length = t.costs.length ∧ (∀ q ∈ qs, Bq 700 q) ∧ O = Is (B (decide (Keeps t p qs))) []
theorem ok_law_keeps (T : Txt K mg) : FnOk P w K mg base CX0 (5 + 1) T.d_law_keeps.f T.d_law_keeps.fd P_law_keeps (SpW K pre_law_keeps) := by
  refine T.d_law_keeps.F.ok sc_law_keeps (sp_len fun ss μ O ⟨a, b, c, e, _⟩ => by rw [e]; rfl) (fun cdv A outer s H vs Q E hr h => ?_)
  refine ⟨_, (pss_cons (ps_set (i := 3) sc_law_keeps.nd rfl (.inr rfl) (pe_call (ok_law_rights T) (hr.mono (by decide)) (by rfl) T.m_law_rights T.d_law_rights.F.kp T.d_law_rights.b .nil pass0 (pa_cons (pv 0) (pa_cons (pv 1) pa_nil))) (hf := .inl rfl))
    (pss_cons (ps_if (pt_cmpR (k_neD (K := K) hr.units rfl) (pe_lc (own := [("_law_one", 4)]) rfl sc_law_keeps.nd (k_piT (K := K) rfl (pv 2)) (blkOk_by (N := N_law_keeps) (sc := defScope s_law_keeps) (by decide +kernel)) (fun _ _ _ _ _ => (pg_name (i := 4) sc_law_keeps.nd rfl (.inl rfl) (.inr rfl))) (fun _ _ _ _ _ => (pts_one (pt_cmpR op_lt (pe_ix (k_ix (K := K) rfl) (pv 4) pe_int (fun _ _ => rfl)) pe_int (nomark _)))) (fun _ _ _ _ _ => pe_int)) (pe_lst pa_nil) (nomark _))
      (pss_one (ps_ret pe_bl))
      pss_nil)
    (pss_one (ps_ret (pe_cmpR (k_eqD (K := K) hr.units rfl) (pe_lc (own := [("_law_at_here", 5)]) rfl sc_law_keeps.nd (pi_range1 (by rfl) T.b_range (pa_cons (pe_callB (k_len (K := K) rfl) (by rfl) T.b_len (by decide +kernel) (pa_cons (pv 3) pa_nil)) pa_nil)) (blkOk_by (N := N_law_keeps) (sc := defScope s_law_keeps) (by decide +kernel)) (fun _ _ _ _ _ => (pg_name (i := 5) sc_law_keeps.nd rfl (.inl rfl) (.inr rfl))) (fun _ _ _ _ _ => (pts_one (pt_val (pe_call (ok_law_below T) (hr.mono (by decide)) (by rfl) T.m_law_below T.d_law_below.F.kp T.d_law_below.b .nil pass0 (pa_cons (pe_call (ok_law_inner T) (hr.mono (by decide)) (by rfl) T.m_law_inner T.d_law_inner.F.kp T.d_law_inner.b .nil pass0 (pa_cons (pe_ix (k_ix (K := K) rfl) (pe_ix (k_ix (K := K) rfl) (pe_ix (k_ix (K := K) rfl) (pv 0) pe_int (fun _ _ => rfl)) (pv 5) (fun _ _ => rfl)) pe_int (fun _ _ => rfl)) (pa_cons (pv 2) pa_nil))) (pa_cons (pe_ix (k_ix (K := K) rfl) (pv 3) (pv 5) (fun _ _ => rfl)) pa_nil)))))) (fun _ _ _ _ _ => pe_int)) (pe_lst pa_nil) (nomark _)))))), ?_⟩
  refine fin h fun ss μ O ⟨t, p, qs, e1, e2, ht, hp, hl, hb, e3⟩ => ?_
  subst e1 e2 e3
  have hw := ht.wide
  have hh := ht.high
  refine q_set (ev_call0 (ea_cons (ev_varI rfl) (ea_cons (ev_varI rfl) ea_nil)) ⟨t, p, rfl, rfl, ht, hp, rfl⟩) ?_
  refine q_if (et_test (ev_negs (i := 4) (by omega) (ev_varI rfl) (show 4 < 6 by decide))) (fun hc => ?_) (fun hc => ?_)
  · have hn : ¬ ∀ q ∈ qs, 0 ≤ q := fun z => by rw [decide_eq_true z] at hc; cases hc
    refine q_retS (t_ret (s := B false) ev_bl ?_)
    have : decide (Keeps t p qs) = false := decide_eq_false fun z => hn z.1
    rw [this]
    exact is_refl
  · have hn : ∀ q ∈ qs, 0 ≤ q := by
      apply Classical.byContradiction
      intro z
      rw [decide_eq_false z] at hc
      cases hc
    refine q_next ?_
    have e : decide (Keeps t p qs) = decide (∀ r ∈ t.rows, atR r.east r.north r.right p ≤ innerR r.nums qs) := by
      rw [decide_eq_decide]
      exact ⟨fun z => z.2, fun z => ⟨hn, z⟩⟩
    rw [e, ← late_all]
    refine t_ret (s := B ((rngD 0 t.rows.length).all fun d => !pLate t p qs d)) ?_ is_refl
    rw [← filt_empty (f := fun _ => .int 1), ← eqv_nil]
    refine ev_op (ev_filt (ix := [5]) (ds := rngD 0 t.rows.length) (pLate t p qs) (fun _ => .int 1) ?_ glin_nil (by rw [rngD_len]; omega) (fun j h => h) fun i d hd => ?_) (ev_lst (ds := []) ea_nil (by simp)) (rv_eq shaped_filt (by decide +kernel))
    · have key := ei_rng1 (K := K) (δ := [.im (dTask t), .im (dPl p), Tp (dQs qs), Ls (dQs (rightsR t p)), .un, .un]) (μ := []) (tr := tCons (tCB (rLenQ K) (tCons (tVar 3) tNil)) tNil) (ea_cons (ev_cb (ea_cons (ev_varI rfl) ea_nil) rc_lenL) ea_nil) (by omega) (by rw [dQs_len, rightsR_len]; omega)
      rw [Int.toNat_natCast, dQs_len, rightsR_len] at key
      exact key
    · obtain ⟨hi, rfl⟩ := rngD_get hd
      obtain ⟨r, g⟩ : ∃ r, t.rows[i]? = some r := ⟨_, List.getElem?_eq_getElem hi⟩
      have ho := ht.rows r (List.mem_of_getElem? g)
      have zi : (0 : Int) + (i : Int) = (i : Int) := Int.zero_add _
      have ep : pLate t p qs (.int (0 + (i : Int))) = decide (innerR r.nums qs < atR r.east r.north r.right p) := by
        show decide (innerR (t.rows.getD (0 + (i : Int)).toNat ⟨[], 0, 0, 0⟩).nums qs < (rightsR t p).getD (0 + (i : Int)).toNat 0) = _
        rw [show (0 + (i : Int)).toNat = i by omega, show t.rows.getD i ⟨[], 0, 0, 0⟩ = r by rw [List.getD_eq_getElem?_getD, g]; rfl, show (rightsR t p).getD i 0 = atR r.east r.north r.right p by rw [List.getD_eq_getElem?_getD, rights_at g]; rfl]
      rw [ep, zi]
      have ib := inner_bq (k := 700) (by rw [ho.len]; omega) ho.b8 hb
      have rb := rights_bq ht hp _ (List.mem_of_getElem? (rights_at (p := p) g))
      refine ⟨_, bnd_name, et_val (ev_call0 (ea_cons (ev_call0 (ea_cons (ev_op (ev_op (ev_op (ev_varI rfl) ev_int (rv_ixT (d := .tuple (t.rows.map dRow)) rfl)) (ev_varI rfl) (rv_ixT (at_nat (rows_at g)))) ev_int (rv_ixT (d := .tuple (iD r.nums)) rfl)) (ea_cons (ev_varI rfl) ea_nil))
        ⟨r.nums, qs, _, _, rfl, seq_t, seq_t, rfl, by rw [ho.len]; omega, by rw [ho.len]; omega, ho.b8, hb, rfl⟩) (ea_cons (ev_op (ev_varI rfl) (ev_varI rfl) (rv_ixL (at_nat (dQs_at (rights_at g))))) ea_nil)) ⟨_, _, rfl, rfl, ib.mono (by decide), rb.mono (by decide), rfl⟩), fun _ => ev_int⟩
def pre_law_pays : PreT := fun ss μ O => ∃ t ys, ss = [.im (dTask t), Tp (dQs ys)] ∧ μ = [] ∧ TkOk t ∧ ys.length = t.rows.length ∧ (∀ q ∈ ys, Bq 700 q) ∧ O = Is (B (decide (Pays t ys))) []
theorem ok_law_pays (T : Txt K mg) : FnOk P w K mg base CX0 (4 + 1) T.d_law_pays.f T.d_law_pays.fd P_law_pays (SpW K pre_law_pays) := by
  refine T.d_law_pays.F.ok sc_law_pays (sp_len fun ss μ O ⟨a, b, e, _⟩ => by rw [e]; rfl) (fun cdv A outer s H vs Q E hr h => ?_)
  refine ⟨_, (pss_cons (ps_if (pt_cmpR (k_neD (K := K) hr.units rfl) (pe_lc (own := [("_law_one", 3)]) rfl sc_law_pays.nd (k_piT (K := K) rfl (pv 1)) (blkOk_by (N := N_law_pays) (sc := defScope s_law_pays) (by decide +kernel)) (fun _ _ _ _ _ => (pg_name (i := 3) sc_law_pays.nd rfl (.inl rfl) (.inr rfl))) (fun _ _ _ _ _ => (pts_one (pt_cmpR op_lt (pe_ix (k_ix (K := K) rfl) (pv 3) pe_int (fun _ _ => rfl)) pe_int (nomark _)))) (fun _ _ _ _ _ => pe_int)) (pe_lst pa_nil) (nomark _))
      (pss_one (ps_ret pe_bl))
      pss_nil)
    (pss_cons (ps_for PassesOwn.never rfl (pi_range1 (by rfl) T.b_range (pa_cons (pe_callB (k_len (K := K) rfl) (by rfl) T.b_len (by decide +kernel) (pa_cons (pe_ix (k_ix (K := K) rfl) (pv 0) pe_int (fun _ _ => rfl)) pa_nil)) pa_nil)) (pg_name (i := 2) sc_law_pays.nd rfl (.inr rfl) (.inl rfl))
      (pss_one (ps_if (pt_val (pe_call (ok_law_below T) (hr.mono (by decide)) (by rfl) T.m_law_below T.d_law_below.F.kp T.d_law_below.b .nil pass0 (pa_cons (pe_tup (pa_cons (pe_ix (k_ix (K := K) rfl) (pe_ix (k_ix (K := K) rfl) (pv 0) pe_int (fun _ _ => rfl)) (pv 2) (fun _ _ => rfl)) (pa_cons pe_int pa_nil))) (pa_cons (pe_call (ok_law_inner T) (hr.mono (by decide)) (by rfl) T.m_law_inner T.d_law_inner.F.kp T.d_law_inner.b .nil pass0 (pa_cons (pe_lc (own := [("_law_line", 4)]) rfl sc_law_pays.nd (k_piT (K := K) rfl (pe_ix (k_ix (K := K) rfl) (pv 0) pe_int (fun _ _ => rfl))) (blkOk_by (N := N_law_pays) (sc := defScope s_law_pays) (by decide +kernel)) (fun _ _ _ _ _ => (pg_name (i := 4) sc_law_pays.nd rfl (.inl rfl) (.inr rfl))) (fun _ _ _ _ _ => pts_nil) (fun _ _ _ _ _ => (pe_ix (k_ix (K := K) rfl) (pe_ix (k_ix (K := K) rfl) (pv 4) pe_int (fun _ _ => rfl)) (pv 2) (fun _ _ => rfl)))) (pa_cons (pv 1) pa_nil))) pa_nil))))
        (pss_one (ps_ret pe_bl))
        pss_nil)))
    (pss_one (ps_ret pe_bl)))), ?_⟩
  refine fin h fun ss μ O ⟨t, ys, e1, e2, ht, hl, hb, e3⟩ => ?_
  subst e1 e2 e3
  have hw := ht.wide
  have hh := ht.high
  refine q_if (et_test (ev_negs (i := 3) (by omega) (ev_varI rfl) (show 3 < 5 by decide))) (fun hc => ?_) (fun hc => ?_)
  · have hn : ¬ ∀ q ∈ ys, 0 ≤ q := fun z => by rw [decide_eq_true z] at hc; cases hc
    refine q_retS (t_ret (s := B false) ev_bl ?_)
    have : decide (Pays t ys) = false := decide_eq_false fun z => hn z.1
    rw [this]
    exact is_refl
  · have hn : ∀ q ∈ ys, 0 ≤ q := by
      apply Classical.byContradiction
      intro z
      rw [decide_eq_false z] at hc
      cases hc
    refine q_next ?_
    have ib : ∀ j, Bq 2200 (innerR (colZ t j) ys) := fun j => (inner_bq (k := 700) (by rw [col_len]; omega) (ht.col8 j) hb).mono (by decide)
    refine t_seq (M := fun a b => ∃ z u, a = [.im (dTask t), Tp (dQs ys), z, .un, u] ∧ b = [] ∧ ∀ j, j < t.costs.length → innerR (colZ t j) ys ≤ ((t.costs.getD j 0 : Int) : Rat)) ?_ fun a b ⟨z, u, e1, e2, hall⟩ => ?_
    · refine t_for (ix := [2]) (ds := rngD 0 t.costs.length) ?_ (fun i a b => ∃ z u, a = [.im (dTask t), Tp (dQs ys), z, .un, u] ∧ b = [] ∧ ∀ j, j < i → innerR (colZ t j) ys ≤ ((t.costs.getD j 0 : Int) : Rat)) ⟨.un, .un, rfl, rfl, fun j hj => absurd hj (Nat.not_lt_zero _)⟩ (fun _ _ _ _ => glin_nil) (fun i d a b hd ⟨z, u, e1, e2, hall⟩ => ?_) fun a b ⟨z, u, e1, e2, hall⟩ => ?_
      · have key := ei_rng1 (K := K) (δ := [.im (dTask t), Tp (dQs ys), .un, .un, .un]) (μ := []) (tr := tCons (tCB (rLenQ K) (tCons (tOp (rIx K) (tVar 0) (tC (.int 0))) tNil)) tNil) (ea_cons (ev_cb (ea_cons (ev_op (ev_varI rfl) ev_int (rv_ixT (d := .tuple (iD t.costs)) rfl)) ea_nil) rc_lenT) ea_nil) (by omega) (by rw [iD_len]; omega)
        rw [Int.toNat_natCast, iD_len] at key
        exact key
      · subst e1 e2
        obtain ⟨hi, rfl⟩ := rngD_get hd
        have zi : (0 : Int) + (i : Int) = (i : Int) := Int.zero_add _
        rw [zi]
        refine ⟨_, bnd_name, ?_⟩
        have g : t.costs[i]? = some (t.costs.getD i 0) := getD_at hi
        have cb : Bq 8 ((t.costs.getD i 0 : Int) : Rat) := Bq.ofInt (ht.cost8 _ (List.mem_of_getElem? g)) (by decide)
        have hcol : Ev K (tLc (iTup K (tOp (rIx K) (tVar 0) (tC (.int 1)))) (gName 4) tYes (tOp (rIx K) (tOp (rIx K) (tVar 4) (tC (.int 0))) (tVar 2)) [4]) [.im (dTask t), Tp (dQs ys), I (i : Int), .un, u] [] (Ls (iD (colZ t i))) [] := by
          refine ev_map (ix := [4]) (ei_tup (ds := t.rows.map dRow) (ev_op (ev_varI rfl) ev_int (rv_ixT (d := .tuple (t.rows.map dRow)) rfl))) glin_nil (by rw [List.length_map]; omega) (fun j h => h) (by rw [iD_len, col_len, List.length_map]) fun k d e hd he => ?_
          obtain ⟨r, hr', rfl⟩ := rows_get hd
          obtain ⟨n, hn', rfl⟩ := iD_get he
          rw [col_at hr'] at hn'
          cases hn'
          have ho := ht.rows r (List.mem_of_getElem? hr')
          exact ⟨_, bnd_name, ev_op (ev_op (ev_varI rfl) ev_int (rv_ixT (d := .tuple (iD r.nums)) rfl)) (ev_varI rfl) (rv_ixT (at_nat (iD_at (getD_at (by rw [ho.len]; exact hi)))))⟩
        refine t_if (et_val (ev_call0 (ea_cons (ev_q1 (ev_op (ev_op (ev_varI rfl) ev_int (rv_ixT (d := .tuple (iD t.costs)) rfl)) (ev_varI rfl) (rv_ixT (at_nat (iD_at g))))) (ea_cons (ev_call0 (ea_cons hcol (ea_cons (ev_varI rfl) ea_nil))
          ⟨colZ t i, ys, _, _, rfl, seq_l, seq_t, rfl, by rw [col_len]; omega, by rw [col_len]; omega, ht.col8 i, hb, rfl⟩) ea_nil)) ⟨_, _, rfl, rfl, cb.mono (by decide), (ib i).mono (by decide), rfl⟩)) (fun hc => ?_) (fun hc => ?_)
        · have hlt : ((t.costs.getD i 0 : Int) : Rat) < innerR (colZ t i) ys := of_decide_eq_true hc
          refine t_ret (s := B false) ev_bl ?_
          have : decide (Pays t ys) = false := decide_eq_false fun z => absurd (z.2 i hi) (Rat.not_le.mpr hlt)
          rw [this]
          exact is_refl
        · have hge : ¬ ((t.costs.getD i 0 : Int) : Rat) < innerR (colZ t i) ys := of_decide_eq_false hc
          refine t_next ⟨_, _, rfl, rfl, fun j hj => ?_⟩
          by_cases e : j = i
          · subst e
            exact Rat.not_lt.mp hge
          · exact hall j (by omega)
      · subst e1 e2
        rw [rngD_len] at hall
        exact ⟨z, u, rfl, rfl, hall⟩
    · subst e1 e2
      refine t_ret (s := B true) ev_bl ?_
      have : decide (Pays t ys) = true := decide_eq_true ⟨hn, hall⟩
      rw [this]
      exact is_refl
def pre_law_promise : PreT := fun ss μ O => ∃ t p ys, ss = [.im (dTask t), .im (dPl p), Tp (dQs ys)] ∧ μ = [] ∧ TkOk t ∧ PlOk p ∧ ys.length = t.rows.length ∧ (∀ q ∈ ys, Bq 700 q) ∧ O = Is (.im (dQ (promR t p ys))) []
theorem ok_law_promise (T : Txt K mg) : FnOk P w K mg base CX0 (5 + 1) T.d_law_promise.f T.d_law_promise.fd P_law_promise (SpW K pre_law_promise) := by
  refine T.d_law_promise.F.ok sc_law_promise (sp_len fun ss μ O ⟨a, b, c, e, _⟩ => by rw [e]; rfl) (fun cdv A outer s H vs Q E hr h => ?_)
  refine ⟨_, (pss_cons (ps_par (i := 4) (j := 5) rfl sc_law_promise.nd rfl rfl (by decide) rfl rfl (pa_cons (pe_tup (pa_cons pe_int (pa_cons pe_int pa_nil))) (pa_cons (pe_call (ok_law_rights T) (hr.mono (by decide)) (by rfl) T.m_law_rights T.d_law_rights.F.kp T.d_law_rights.b .nil pass0 (pa_cons (pv 0) (pa_cons (pv 1) pa_nil))) pa_nil)) (by rfl))
    (pss_cons (ps_for PassesOwn.never rfl (pi_range1 (by rfl) T.b_range (pa_cons (pe_callB (k_len (K := K) rfl) (by rfl) T.b_len (by decide +kernel) (pa_cons (pv 5) pa_nil)) pa_nil)) (pg_name (i := 3) sc_law_promise.nd rfl (.inl rfl) (.inr rfl))
      (pss_one (ps_set (i := 4) sc_law_promise.nd rfl (.inl rfl) (pe_call (ok_law_plus T) (hr.mono (by decide)) (by rfl) T.m_law_plus T.d_law_plus.F.kp T.d_law_plus.b .nil pass0 (pa_cons (pv 4) (pa_cons (pe_call (ok_law_times T) (hr.mono (by decide)) (by rfl) T.m_law_times T.d_law_times.F.kp T.d_law_times.b .nil pass0 (pa_cons (pe_ix (k_ix (K := K) rfl) (pv 5) (pv 3) (fun _ _ => rfl)) (pa_cons (pe_ix (k_ix (K := K) rfl) (pv 2) (pv 3) (fun _ _ => rfl)) pa_nil))) pa_nil))) (hf := .inr rfl))))
    (pss_one (ps_ret (pv 4))))), ?_⟩
  refine fin h fun ss μ O ⟨t, p, ys, e1, e2, ht, hp, hl, hb, e3⟩ => ?_
  subst e1 e2 e3
  have hh := ht.high
  generalize hz : List.zipWith (fun (a b : Rat) => a * b) (rightsR t p) ys = zs
  have hzl : zs.length = t.rows.length := by rw [← hz, List.length_zipWith, rightsR_len]; omega
  have hzb : ∀ x ∈ zs, Bq 720 x := fun x hx => by
    rw [← hz] at hx
    obtain ⟨i, hi⟩ := List.mem_iff_getElem?.mp hx
    rw [List.getElem?_zipWith] at hi
    cases e1 : (rightsR t p)[i]? with
    | none => rw [e1] at hi; cases hi
    | some n =>
      cases e2 : ys[i]? with
      | none => rw [e1, e2] at hi; cases hi
      | some q =>
        rw [e1, e2] at hi
        cases hi
        exact (rights_bq ht hp n (List.mem_of_getElem? e1)).mul (hb q (List.mem_of_getElem? e2))
  have hsum : ∀ i, i ≤ 3 → Bq 4000 ((zs.take i).foldl (· + ·) 0) := fun i hi => by
    refine (fold_bq (k := 720) (xs := zs.take i) 1 0 bq0 fun x hx => hzb x (List.mem_of_mem_take hx)).mono ?_
    have : (zs.take i).length ≤ 3 := by rw [List.length_take]; omega
    have := Nat.mul_le_mul_right 721 this
    omega
  refine q_par (ea_cons (ev_tup (ds := [.int 0, .int 1]) (ea_cons ev_int (ea_cons ev_int ea_nil)) (by simp)) (ea_cons (ev_call0 (ea_cons (ev_varI rfl) (ea_cons (ev_varI rfl) ea_nil)) ⟨t, p, rfl, rfl, ht, hp, rfl⟩) ea_nil)) ?_
  refine t_seq (M := fun a b => ∃ z, a = [.im (dTask t), .im (dPl p), Tp (dQs ys), z, .im (dQ (promR t p ys)), Ls (dQs (rightsR t p))] ∧ b = []) ?_ fun a b ⟨z, e1, e2⟩ => ?_
  · refine t_for (ix := [3]) (ds := rngD 0 t.rows.length) ?_ (fun i a b => ∃ z, a = [.im (dTask t), .im (dPl p), Tp (dQs ys), z, .im (dQ ((zs.take i).foldl (· + ·) 0)), Ls (dQs (rightsR t p))] ∧ b = []) ⟨.un, rfl, rfl⟩ (fun _ _ _ _ => glin_nil) (fun i d a b hd ⟨z, e1, e2⟩ => ?_) fun a b ⟨z, e1, e2⟩ => ?_
    · have key := ei_rng1 (K := K) (δ := [.im (dTask t), .im (dPl p), Tp (dQs ys), .un, .im (dQ 0), Ls (dQs (rightsR t p))]) (μ := []) (tr := tCons (tCB (rLenQ K) (tCons (tVar 5) tNil)) tNil) (ea_cons (ev_cb (ea_cons (ev_varI rfl) ea_nil) rc_lenL) ea_nil) (by omega) (by rw [dQs_len, rightsR_len]; omega)
      rw [Int.toNat_natCast, dQs_len, rightsR_len] at key
      exact key
    · subst e1 e2
      obtain ⟨hi, rfl⟩ := rngD_get hd
      have zi : (0 : Int) + (i : Int) = (i : Int) := Int.zero_add _
      rw [zi]
      obtain ⟨r, g⟩ : ∃ r, t.rows[i]? = some r := ⟨_, List.getElem?_eq_getElem hi⟩
      have g1 := rights_at (p := p) g
      obtain ⟨q0, g2⟩ : ∃ n, ys[i]? = some n := ⟨_, List.getElem?_eq_getElem (by omega)⟩
      have gz : zs[i]? = some (atR r.east r.north r.right p * q0) := by rw [← hz, List.getElem?_zipWith, g1, g2]
      refine ⟨_, bnd_name, ?_⟩
      refine t_set (ev_call0 (ea_cons (ev_varI rfl) (ea_cons (ev_call0 (ea_cons (ev_op (ev_varI rfl) (ev_varI rfl) (rv_ixL (at_nat (dQs_at g1)))) (ea_cons (ev_op (ev_varI rfl) (ev_varI rfl) (rv_ixT (at_nat (dQs_at g2)))) ea_nil))
        ⟨_, _, rfl, rfl, (rights_bq ht hp _ (List.mem_of_getElem? g1)).mono (by decide), (hb _ (List.mem_of_getElem? g2)).mono (by decide), rfl⟩) ea_nil)) ⟨_, _, rfl, rfl, hsum i (by omega), (hzb _ (List.mem_of_getElem? gz)).mono (by decide), rfl⟩) ⟨I (i : Int), ?_, rfl⟩
      rw [foldl_take gz]
      rfl
    · subst e1 e2
      refine ⟨z, ?_, rfl⟩
      rw [rngD_len, ← hzl, List.take_length, ← hz]
      rfl
  · subst e1 e2
    exact t_ret (ev_varI rfl) is_refl

/-! ### _law_lots -/
def startZ (lot : List Int) : Int := if lot = [] then 0 else lot.getLast?.getD 0 + 1
def extsZ (many : Int) (lot : List Int) : List (List Int) := (List.range (many - startZ lot).toNat).map fun k : Nat => lot ++ [startZ lot + (k : Int)]
def lotsM (many : Int) : Nat → List (List Int)
  | 0 => [[]]
  | n + 1 => (lotsM many n).flatMap (extsZ many)
abbrev dLots (ls : List (List Int)) : List PyData := ls.map fun l => .tuple (iD l)
structure LotOk (many : Int) (n : Nat) (l : List Int) : Prop where
  len : l.length = n
  rng : ∀ z ∈ l, 0 ≤ z ∧ z < many
theorem last_mem {l : List Int} {z : Int} (h : l.getLast? = some z) : z ∈ l := List.mem_of_getLast? h
theorem start_rng {many : Int} {n : Nat} {l : List Int} (hm : 0 ≤ many) (h : LotOk many n l) : 0 ≤ startZ l ∧ startZ l ≤ many := by
  unfold startZ
  split
  · omega
  · cases e : l.getLast? with
    | none => show 0 ≤ (0 : Int) + 1 ∧ (0 : Int) + 1 ≤ many; rename_i hne; exact absurd (List.getLast?_eq_none_iff.mp e) hne
    | some z =>
      have := h.rng z (last_mem e)
      show 0 ≤ z + 1 ∧ z + 1 ≤ many
      omega
theorem exts_ok {many : Int} {n : Nat} {l : List Int} (hm : 0 ≤ many) (h : LotOk many n l) : ∀ l' ∈ extsZ many l, LotOk many (n + 1) l' := fun l' hl => by
  obtain ⟨k, hk, rfl⟩ := List.mem_map.mp hl
  have hk := List.mem_range.mp hk
  have hs := start_rng hm h
  refine ⟨by rw [List.length_append, h.len]; rfl, fun z hz => ?_⟩
  rcases List.mem_append.mp hz with hz | hz
  · exact h.rng z hz
  · have := List.mem_singleton.mp hz
    omega
theorem lots_ok {many : Int} (hm : 0 ≤ many) : ∀ n, ∀ l ∈ lotsM many n, LotOk many n l
  | 0, l, hl => by
    have e : l = [] := by simpa [lotsM] using hl
    subst e
    exact ⟨rfl, fun _ z => nomatch z⟩
  | n + 1, l, hl => by
    obtain ⟨l0, h0, h1⟩ := List.mem_flatMap.mp hl
    exact exts_ok hm (lots_ok hm n l0 h0) l h1
theorem exts_len {many : Int} {n : Nat} {l : List Int} (hm : 0 ≤ many) (h : LotOk many n l) : (extsZ many l).length ≤ many.toNat := by
  have := start_rng hm h
  unfold extsZ
  rw [List.length_map, List.length_range]
  omega
theorem flat_len {many : Int} {n : Nat} (hm : 0 ≤ many) : ∀ ls : List (List Int), (∀ l ∈ ls, LotOk many n l) → (ls.flatMap (extsZ many)).length ≤ ls.length * many.toNat
  | [], _ => by simp
  | l :: ls, h => by
    have h1 := exts_len hm (h l (by simp))
    have h2 := flat_len hm ls fun x hx => h x (by simp [hx])
    rw [List.flatMap_cons, List.length_append, List.length_cons, Nat.add_mul]
    omega
theorem lots_len {many : Int} (hm : 0 ≤ many) : ∀ n, (lotsM many n).length ≤ many.toNat ^ n
  | 0 => by simp [lotsM]
  | n + 1 => by
    have h1 := flat_len (n := n) hm (lotsM many n) (lots_ok hm n)
    have h2 := Nat.mul_le_mul_right many.toNat (lots_len hm n)
    rw [Nat.pow_succ]
    exact Nat.le_trans h1 h2
theorem flat_take {α β : Type} {f : α → List β} {xs : List α} {i : Nat} {x : α} (h : xs[i]? = some x) : (xs.take (i + 1)).flatMap f = (xs.take i).flatMap f ++ f x := by
  rw [List.take_add_one, h, List.flatMap_append]
  simp
def pre_law_lots : PreT := fun ss μ O => ∃ (many : Int) (n : Nat), ss = [I many, I (n : Int)] ∧ μ = [] ∧ 0 ≤ many ∧ many ≤ 6 ∧ n ≤ 3 ∧ O = Is (Ls (dLots (lotsM many n))) []
theorem shaped_iDt (l : List Int) : SeqAt.shaped (.tuple (iD l)) = true := shaped_tup fun d hd => by
  obtain ⟨n, _, rfl⟩ := List.mem_map.mp hd
  exact ⟨rfl, dep_int n⟩
theorem eqv_tnil (ds : List PyData) : PyData.eqv (.tuple ds) (.tuple []) = ds.isEmpty := by
  cases ds with
  | nil => simp [PyData.eqv, PyData.eqvAll]
  | cons d ds => simp [PyData.eqv, PyData.eqvAll]
theorem pow6 {many : Int} {n : Nat} (h0 : 0 ≤ many) (h : many ≤ 6) (hn : n ≤ 3) : many.toNat ^ n ≤ 216 := by
  have h1 : many.toNat ^ n ≤ 6 ^ n := Nat.pow_le_pow_left (by omega) n
  have h2 : 6 ^ n ≤ 6 ^ 3 := Nat.pow_le_pow_right (by decide) hn
  exact Nat.le_trans h1 (Nat.le_trans h2 (by decide))
theorem ok_law_lots (T : Txt K mg) : FnOk P w K mg base CX0 (1 + 1) T.d_law_lots.f T.d_law_lots.fd P_law_lots (SpW K pre_law_lots) := by
  refine T.d_law_lots.F.ok sc_law_lots (sp_len fun ss μ O ⟨a, b, e, _⟩ => by rw [e]; rfl) (fun cdv A outer s H vs Q E hr h => ?_)
  refine ⟨_, (pss_cons (ps_set (i := 2) sc_law_lots.nd rfl (.inl rfl) (pe_lst (pa_cons (pe_tup pa_nil) pa_nil)) (hf := .inr rfl))
    (pss_cons (ps_for PassesOwn.never rfl (pi_range1 (by rfl) T.b_range (pa_cons (pv 1) pa_nil)) (pg_name (i := 3) sc_law_lots.nd rfl (.inl rfl) (.inr rfl))
      (pss_cons (ps_set (i := 4) sc_law_lots.nd rfl (.inl rfl) (pe_lst pa_nil) (hf := .inr rfl))
      (pss_cons (ps_for PassesOwn.never rfl (k_piL (K := K) rfl (pv 2)) (pg_name (i := 5) sc_law_lots.nd rfl (.inr rfl) (.inl rfl))
        (pss_cons (ps_set (i := 6) sc_law_lots.nd rfl (.inl rfl) (pe_ifExp (pt_cmpR (k_neD (K := K) hr.units rfl) (pv 5) (pe_tup pa_nil) (nomark _)) (pe_op (k_add (K := K) rfl) (pe_ix (k_ix (K := K) rfl) (pv 5) (pe_un un_neg pe_int) (fun _ _ => rfl)) pe_int) pe_int) (hf := .inr rfl))
        (pss_one (ps_set (i := 4) sc_law_lots.nd rfl (.inl rfl) (pe_op (k_add (K := K) rfl) (pv 4) (pe_lc (own := [("_law_one", 7)]) rfl sc_law_lots.nd (pi_range2 (by rfl) T.b_range (pa_cons (pv 6) (pa_cons (pv 0) pa_nil))) (blkOk_by (N := N_law_lots) (sc := defScope s_law_lots) (by decide +kernel)) (fun _ _ _ _ _ => (pg_name (i := 7) sc_law_lots.nd rfl (.inl rfl) (.inr rfl))) (fun _ _ _ _ _ => pts_nil) (fun _ _ _ _ _ => (pe_op (k_add (K := K) rfl) (pv 5) (pe_tup (pa_cons (pv 7) pa_nil)))))) (hf := .inr rfl)))))
      (pss_one (ps_set (i := 2) sc_law_lots.nd rfl (.inl rfl) (pv 4) (hf := .inr rfl))))))
    (pss_one (ps_ret (pv 2))))), ?_⟩
  refine fin h fun ss μ O ⟨many, n, e1, e2, h0, h6, hn, e3⟩ => ?_
  subst e1 e2 e3
  refine q_set (s := Ls (dLots (lotsM many 0))) (ev_lst (ds := [.tuple []]) (ea_cons (ev_tup (ds := []) ea_nil (by simp)) ea_nil) (by simp)) ?_
  refine t_seq (M := fun a b => ∃ y z u v o, a = [I many, I (n : Int), Ls (dLots (lotsM many n)), y, z, u, v, o] ∧ b = []) ?_ fun a b ⟨y, z, u, v, o, e1, e2⟩ => ?_
  · refine t_for (ix := [3]) (ds := rngD 0 n) ?_ (fun i a b => ∃ y z u v o, a = [I many, I (n : Int), Ls (dLots (lotsM many i)), y, z, u, v, o] ∧ b = []) ⟨.un, .un, .un, .un, .un, rfl, rfl⟩ (fun _ _ _ _ => glin_nil) (fun i d a b hd ⟨y, z, u, v, o, e1, e2⟩ => ?_) fun a b ⟨y, z, u, v, o, e1, e2⟩ => ?_
    · have key := ei_rng1 (K := K) (δ := [I many, I (n : Int), Ls (dLots (lotsM many 0)), .un, .un, .un, .un, .un]) (μ := []) (tr := tCons (tVar 1) tNil) (ea_cons (ev_varI rfl) ea_nil) (by omega) (by omega)
      rw [Int.toNat_natCast] at key
      exact key
    · subst e1 e2
      obtain ⟨hi, rfl⟩ := rngD_get hd
      refine ⟨_, bnd_name, ?_⟩
      refine q_set (s := Ls (dLots [])) (ev_lst (ds := []) ea_nil (by simp)) ?_
      have hlen := lots_len h0 i
      have h216 := pow6 h0 h6 (show i ≤ 3 by omega)
      have hlen2 := lots_len h0 (i + 1)
      have h216' := pow6 h0 h6 (show i + 1 ≤ 3 by omega)
      refine t_seq (M := fun a b => ∃ u v o, a = [I many, I (n : Int), Ls (dLots (lotsM many i)), I (0 + (i : Int)), Ls (dLots (lotsM many (i + 1))), u, v, o] ∧ b = []) ?_ fun a b ⟨u, v, o, e1, e2⟩ => ?_
      · refine t_for (ix := [5]) (ei_list (ev_varI rfl)) (fun k a b => ∃ u v o, a = [I many, I (n : Int), Ls (dLots (lotsM many i)), I (0 + (i : Int)), Ls (dLots (((lotsM many i).take k).flatMap (extsZ many))), u, v, o] ∧ b = []) ⟨_, _, _, rfl, rfl⟩ (fun _ _ _ _ => glin_nil) (fun k d a b hd ⟨u, v, o, e1, e2⟩ => ?_) fun a b ⟨u, v, o, e1, e2⟩ => ?_
        · subst e1 e2
          obtain ⟨l, hl, rfl⟩ : ∃ l, (lotsM many i)[k]? = some l ∧ d = .tuple (iD l) := by
            unfold dLots at hd
            rw [List.getElem?_map] at hd
            cases e : (lotsM many i)[k]? with
            | none => rw [e] at hd; cases hd
            | some l => rw [e] at hd; cases hd; exact ⟨l, rfl, rfl⟩
          have lo := lots_ok h0 i l (List.mem_of_getElem? hl)
          have sr := start_rng h0 lo
          have ll : l.length ≤ 3 := by rw [lo.len]; omega
          refine ⟨_, bnd_name, ?_⟩
          refine q_set (s := I (startZ l)) (μ1 := []) (ev_if (μ1 := []) (c := !PyData.eqv (.tuple (iD l)) (.tuple [])) (et_op (ev_varI rfl) (ev_tup (ds := []) ea_nil (by simp)) (rv_ne (shaped_iDt l) (by decide +kernel))) (fun hc => ?_) (fun hc => ?_)) ?_
          · rw [eqv_tnil] at hc
            have hne : l ≠ [] := by
              intro e
              subst e
              cases hc
            obtain ⟨z, hz⟩ : ∃ z, l[l.length - 1]? = some z := ⟨_, List.getElem?_eq_getElem (by have := List.length_pos_iff.mpr hne; omega)⟩
            have e : startZ l = z + 1 := by
              unfold startZ
              rw [if_neg hne, List.getLast?_eq_getElem?, hz]
              rfl
            rw [e]
            exact ev_op (ev_op (ev_varI rfl) (ev_neg ev_int) (rv_ixT (at_last (by rw [iD_len]; exact iD_at hz)))) ev_int rv_add
          · rw [eqv_tnil] at hc
            have he : l = [] := by
              cases l with
              | nil => rfl
              | cons x l => cases hc
            subst he
            exact ev_int
          · have hk := (List.getElem?_eq_some_iff.mp hl).1
            have hin : ((lotsM many i).take (k + 1)).flatMap (extsZ many) = ((lotsM many i).take k).flatMap (extsZ many) ++ extsZ many l := flat_take hl
            have hf1 := flat_len (n := i) h0 ((lotsM many i).take k) (fun x hx => lots_ok h0 i x (List.mem_of_mem_take hx))
            have hf2 : ((lotsM many i).take k).length * many.toNat ≤ 216 * 6 := Nat.mul_le_mul (by rw [List.length_take]; omega) (by omega)
            have he := exts_len h0 lo
            refine t_set (ev_op (ev_varI rfl) (ev_map (ix := [7]) (es := dLots (extsZ many l)) (ei_rng2 (ea_cons (ev_varI rfl) (ea_cons (ev_varI rfl) ea_nil)) ⟨by omega, by omega, by omega⟩ (by omega)) glin_nil (by rw [rngD_len]; omega) (fun j h => h) (by unfold dLots extsZ; rw [List.length_map, List.length_map, List.length_range, rngD_len]) fun j d e hd he => ?_) (rv_cat (by unfold dLots; rw [List.length_map, List.length_map]; omega))) ⟨Tp (iD l), I (startZ l), o, ?_, rfl⟩
            · obtain ⟨hj, rfl⟩ := rngD_get hd
              have : e = .tuple (iD (l ++ [startZ l + (j : Int)])) := by
                unfold dLots extsZ at he
                rw [List.getElem?_map, List.getElem?_map, List.getElem?_range hj] at he
                cases he
                rfl
              rw [this, iD_app]
              exact ⟨_, bnd_name, ev_op (ev_varI rfl) (ev_tup (ds := [.int _]) (ea_cons (ev_varI rfl) ea_nil) (by simp)) (rv_catT (by rw [iD_len]; simp; omega))⟩
            · rw [hin]
              unfold dLots
              rw [List.map_append]
              rfl
        · subst e1 e2
          refine ⟨u, v, o, ?_, rfl⟩
          have e : (dLots (lotsM many i)).length = (lotsM many i).length := List.length_map ..
          rw [e, List.take_length]
          rfl
      · subst e1 e2
        exact t_set (ev_varI rfl) ⟨_, _, _, _, _, rfl, rfl⟩
    · subst e1 e2
      rw [rngD_len]
      exact ⟨_, _, _, _, _, rfl, rfl⟩
  · subst e1 e2
    exact t_ret (ev_varI rfl) is_refl
end
end WM

set_option Elab.async false
set_option linter.all false
set_option maxRecDepth 100000
set_option maxHeartbeats 2000000
namespace WM
open PySem PySem.Spec PyProof.Rows L2 StX

/-! ### the law's equations, solved -/
abbrev RF := Nat → List Rat
def mkM (n : Nat) (F : RF) : List (List Rat) := (List.range n).map F
def rowOp (m : Rat) (lead row : List Rat) : List Rat := List.zipWith (fun x l => x + m * l) row lead
def nzs (n at_ : Nat) (F : RF) : List Nat := ((List.range (n - at_)).map (at_ + ·)).filter fun s => decide ((F s).getD at_ 0 ≠ 0)
def leadF (F : RF) (s0 at_ : Nat) : List Rat := (F s0).map fun x => x * ((F s0).getD at_ 0)⁻¹
def swapF (F : RF) (s0 at_ : Nat) : RF := fun s => if s = at_ then leadF F s0 at_ else if s = s0 then F at_ else F s
def elimF (lead : List Rat) (at_ : Nat) (F : RF) (k : Nat) : RF := fun s => if s < k ∧ s ≠ at_ then rowOp (-((F s).getD at_ 0)) lead (F s) else F s
def gstep (n at_ : Nat) (F : RF) : Option RF :=
  match nzs n at_ F with
  | [] => none
  | s0 :: _ => some (elimF (leadF F s0 at_) at_ (swapF F s0 at_) n)
def gauss (n : Nat) : Nat → RF → Option RF
  | 0, F => some F
  | k + 1, F => (gauss n k F).bind (gstep n k)
def startF (rows : List (List Int)) (rights : List Int) : RF := fun s => ((rows.getD s []) ++ [rights.getD s 0]).map fun z : Int => (z : Rat)
def solvedR (rows : List (List Int)) (rights : List Int) : Option (List Rat) :=
  (gauss rows.length rows.length (startF rows rights)).map fun F => (List.range rows.length).map fun s => (F s).getD rows.length 0
theorem gauss_none {n : Nat} {F : RF} {k : Nat} (h : gauss n k F = none) : ∀ m, k ≤ m → gauss n m F = none := by
  intro m hm
  induction m with
  | zero => have e : k = 0 := by omega
            subst e; exact h
  | succ m ih =>
    by_cases e : k = m + 1
    · subst e; exact h
    · show (gauss n m F).bind _ = none
      rw [ih (by omega)]
      rfl
/-- sizes: the left part within a bits, the right ones within b -/
structure SzR (n a b : Nat) (r : List Rat) : Prop where
  len : r.length = n + 1
  l : ∀ i, i < n → Bq a (r.getD i 0)
  r : Bq b (r.getD n 0)
theorem getD_map {r : List Rat} {f : Rat → Rat} {i : Nat} (h : i < r.length) : (r.map f).getD i 0 = f (r.getD i 0) := by
  rw [List.getD_eq_getElem?_getD, List.getD_eq_getElem?_getD, List.getElem?_map, List.getElem?_eq_getElem h]
  rfl
theorem getD_op {m : Rat} {lead row : List Rat} {i : Nat} (h1 : i < lead.length) (h2 : i < row.length) : (rowOp m lead row).getD i 0 = row.getD i 0 + m * lead.getD i 0 := by
  unfold rowOp
  rw [List.getD_eq_getElem?_getD, List.getD_eq_getElem?_getD, List.getD_eq_getElem?_getD, List.getElem?_zipWith, List.getElem?_eq_getElem h1, List.getElem?_eq_getElem h2]
  rfl
theorem op_len {m : Rat} {lead row : List Rat} : (rowOp m lead row).length = min row.length lead.length := by unfold rowOp; rw [List.length_zipWith]
theorem nzs_mem {n at_ : Nat} {F : RF} {s : Nat} (h : s ∈ nzs n at_ F) : at_ ≤ s ∧ s < n ∧ (F s).getD at_ 0 ≠ 0 := by
  unfold nzs at h
  obtain ⟨h1, h2⟩ := List.mem_filter.mp h
  obtain ⟨k, hk, rfl⟩ := List.mem_map.mp h1
  have := List.mem_range.mp hk
  exact ⟨by omega, by omega, of_decide_eq_true h2⟩
theorem SzR.lead {n a b at_ : Nat} {r : List Rat} (h : SzR n a b r) (ha : at_ < n) (hz : r.getD at_ 0 ≠ 0) : SzR n (a + a) (b + a) (r.map fun x => x * (r.getD at_ 0)⁻¹) := by
  refine ⟨by rw [List.length_map]; exact h.len, fun i hi => ?_, ?_⟩
  · rw [getD_map (by rw [h.len]; omega)]
    exact (h.l i hi).mul ((h.l at_ ha).inv hz)
  · rw [getD_map (by rw [h.len]; omega)]
    exact h.r.mul ((h.l at_ ha).inv hz)
theorem SzR.op {n a b at_ : Nat} {lead r : List Rat} (hl : SzR n (a + a) (b + a) lead) (h : SzR n a b r) (ha : at_ < n) : SzR n (4 * a + 1) (2 * b + 2 * a + 1) (rowOp (-(r.getD at_ 0)) lead r) := by
  refine ⟨by rw [op_len, h.len, hl.len]; omega, fun i hi => ?_, ?_⟩
  · rw [getD_op (by rw [hl.len]; omega) (by rw [h.len]; omega)]
    exact ((h.l i hi).add ((h.l at_ ha).neg.mul (hl.l i hi))).mono (by omega)
  · rw [getD_op (by rw [hl.len]; omega) (by rw [h.len]; omega)]
    exact (h.r.add ((h.l at_ ha).neg.mul hl.r)).mono (by omega)
theorem SzR.mono {n a b a' b' : Nat} {r : List Rat} (h : SzR n a b r) (h1 : a ≤ a') (h2 : b ≤ b') : SzR n a' b' r := ⟨h.len, fun i hi => (h.l i hi).mono h1, h.r.mono h2⟩
theorem elim_n {lead : List Rat} {at_ n : Nat} {F : RF} {s : Nat} (hs : s < n) : elimF lead at_ F n s = if s = at_ then F s else rowOp (-((F s).getD at_ 0)) lead (F s) := by
  unfold elimF
  by_cases e : s = at_
  · rw [if_neg (fun z => z.2 e), if_pos e]
  · rw [if_pos ⟨hs, e⟩, if_neg e]
theorem swap_sz {n a b at_ s0 : Nat} {F : RF} (h : ∀ s, s < n → SzR n a b (F s)) (ha : at_ < n) (h0 : s0 < n) (s : Nat) (hs : s < n) (e : s ≠ at_) : SzR n a b (swapF F s0 at_ s) := by
  unfold swapF
  rw [if_neg e]
  split
  · exact h at_ ha
  · exact h s hs
theorem gstep_sz {n a b at_ : Nat} {F F' : RF} (ha : at_ < n) (h : ∀ s, s < n → SzR n a b (F s)) (hg : gstep n at_ F = some F') : ∀ s, s < n → SzR n (4 * a + 1) (2 * b + 2 * a + 1) (F' s) := by
  unfold gstep at hg
  cases e : nzs n at_ F with
  | nil => rw [e] at hg; cases hg
  | cons s0 r =>
    rw [e] at hg
    cases hg
    obtain ⟨h1, h2, h3⟩ := nzs_mem (F := F) (show s0 ∈ nzs n at_ F by rw [e]; simp)
    have hl := (h s0 h2).lead ha h3
    intro s hs
    rw [elim_n hs]
    split
    · rename_i es
      subst es
      show SzR n _ _ (swapF F s0 s s)
      unfold swapF
      rw [if_pos rfl]
      exact hl.mono (by omega) (by omega)
    · rename_i es
      exact hl.op (swap_sz h ha h2 s hs es) ha
def kA : Nat → Nat
  | 0 => 2
  | k + 1 => 4 * kA k + 1
def kB : Nat → Nat
  | 0 => 57
  | k + 1 => 2 * kB k + 2 * kA k + 1
theorem gauss_sz {n : Nat} {F : RF} (h : ∀ s, s < n → SzR n 2 57 (F s)) : ∀ (k : Nat) {F' : RF}, k ≤ n → gauss n k F = some F' → ∀ s, s < n → SzR n (kA k) (kB k) (F' s)
  | 0, F', _, e => by cases e; exact h
  | k + 1, F', hk, e => by
    cases e1 : gauss n k F with
    | none => rw [show gauss n (k + 1) F = (gauss n k F).bind (gstep n k) from rfl, e1] at e; cases e
    | some F1 =>
      rw [show gauss n (k + 1) F = (gauss n k F).bind (gstep n k) from rfl, e1] at e
      exact gstep_sz (by omega) (gauss_sz h k (by omega) e1) e
structure EqOk (n : Nat) (rows : List (List Int)) (rights : List Int) : Prop where
  n3 : 1 ≤ n ∧ n ≤ 3
  len : rows.length = n
  rl : ∀ r ∈ rows, r.length = n ∧ ∀ z ∈ r, Bi 2 z
  right : rights.length = n ∧ ∀ z ∈ rights, Bi 57 z
theorem bi0 {k : Nat} : Bi k 0 := Nat.two_pow_pos k
theorem getD_ints {xs : List Int} {i : Nat} (h : i < xs.length) : (xs.map fun z : Int => (z : Rat)).getD i 0 = ((xs.getD i 0 : Int) : Rat) := by
  rw [List.getD_eq_getElem?_getD, List.getD_eq_getElem?_getD, List.getElem?_map, List.getElem?_eq_getElem h]
  rfl
theorem getD_apL {α} {xs ys : List α} {i : Nat} {d : α} (h : i < xs.length) : (xs ++ ys).getD i d = xs.getD i d := by
  rw [List.getD_eq_getElem?_getD, List.getD_eq_getElem?_getD, List.getElem?_append_left h]
theorem getD_apR {α} {xs ys : List α} {i : Nat} {d : α} (h : xs.length ≤ i) : (xs ++ ys).getD i d = ys.getD (i - xs.length) d := by
  rw [List.getD_eq_getElem?_getD, List.getD_eq_getElem?_getD, List.getElem?_append_right h]
theorem start_sz {n : Nat} {rows : List (List Int)} {rights : List Int} (h : EqOk n rows rights) : ∀ s, s < n → SzR n 2 57 (startF rows rights s) := fun s hs => by
  have g : rows[s]? = some (rows.getD s []) := getD_at (by rw [h.len]; exact hs)
  obtain ⟨h1, h2⟩ := h.rl _ (List.mem_of_getElem? g)
  have gr : rights[s]? = some (rights.getD s 0) := getD_at (by rw [h.right.1]; exact hs)
  have l : (rows.getD s [] ++ [rights.getD s 0]).length = n + 1 := by rw [List.length_append, h1]; rfl
  refine ⟨by unfold startF; rw [List.length_map]; exact l, fun i hi => ?_, ?_⟩
  · unfold startF
    rw [getD_ints (by omega), getD_apL (by omega)]
    exact Bq.ofInt (h2 _ (List.mem_of_getElem? (getD_at (by omega)))) (by decide)
  · unfold startF
    rw [getD_ints (by omega), getD_apR (by omega), h1, Nat.sub_self]
    exact Bq.ofInt (h.right.2 _ (List.mem_of_getElem? gr)) (by decide)
theorem kA_le {k : Nat} (h : k ≤ 3) : kA k ≤ 149 := by
  match k, h with
  | 0, _ => decide
  | 1, _ => decide
  | 2, _ => decide
  | 3, _ => decide
theorem kB_le {k : Nat} (h : k ≤ 3) : kB k ≤ 589 := by
  match k, h with
  | 0, _ => decide
  | 1, _ => decide
  | 2, _ => decide
  | 3, _ => decide
theorem solved_sz {n : Nat} {rows : List (List Int)} {rights : List Int} {xs : List Rat} (h : EqOk n rows rights) (e : solvedR rows rights = some xs) : xs.length = n ∧ ∀ x ∈ xs, Bq 589 x := by
  unfold solvedR at e
  rw [h.len] at e
  cases e1 : gauss n n (startF rows rights) with
  | none => rw [e1] at e; cases e
  | some F =>
    rw [e1] at e
    cases e
    have hs := gauss_sz (start_sz h) n (Nat.le_refl n) e1
    refine ⟨by rw [List.length_map, List.length_range], fun x hx => ?_⟩
    obtain ⟨s, hm, rfl⟩ := List.mem_map.mp hx
    exact (hs s (List.mem_range.mp hm)).r.mono (kB_le h.n3.2)

/-! ### the walk -/
abbrev rowsD (M : List (List Rat)) : List PyData := M.map fun r => .list (dQs r)
theorem mk_get {n s : Nat} {F : RF} (h : s < n) : (mkM n F)[s]? = some (F s) := by
  unfold mkM
  rw [List.getElem?_map, List.getElem?_range h]
  rfl
theorem mkD_get {n s : Nat} {F : RF} (h : s < n) : (rowsD (mkM n F))[s]? = some (.list (dQs (F s))) := by
  unfold rowsD
  rw [List.getElem?_map, mk_get h]
  rfl
theorem mkS_get {n s : Nat} {F : RF} (h : s < n) : (ims (rowsD (mkM n F)))[s]? = some (Ls (dQs (F s))) := by
  unfold ims
  rw [List.getElem?_map, mkD_get h]
  rfl
theorem mkS_len {n : Nat} {F : RF} : (ims (rowsD (mkM n F))).length = n := by unfold ims rowsD mkM; simp
theorem mkS_set {n s : Nat} {F : RF} {r : List Rat} (h : s < n) : (ims (rowsD (mkM n F))).set s (Ls (dQs r)) = ims (rowsD (mkM n fun k => if k = s then r else F k)) := by
  apply List.ext_getElem?
  intro i
  by_cases e : s = i
  · subst e
    rw [List.getElem?_set_self (by rw [mkS_len]; exact h), mkS_get h, if_pos rfl]
  · rw [List.getElem?_set_ne e]
    by_cases hi : i < n
    · rw [mkS_get hi, mkS_get hi, if_neg (Ne.symm e)]
    · rw [List.getElem?_eq_none (by rw [mkS_len]; omega), List.getElem?_eq_none (by rw [mkS_len]; omega)]
theorem mkM_congr {n : Nat} {F G : RF} (h : ∀ s, s < n → F s = G s) : mkM n F = mkM n G := by
  unfold mkM
  exact List.map_congr_left fun s hs => h s (List.mem_range.mp hs)
theorem ixN_nat {n j : Nat} (h : j < n) : ixN n (j : Int) = some j := by
  unfold ixN
  rw [if_pos (by omega), if_pos (by omega), Int.toNat_natCast]
theorem dQ_getD {r : List Rat} {i : Nat} (h : i < r.length) : (dQs r)[i]? = some (dQ (r.getD i 0)) := dQs_at (getD_at h)
abbrev seqd (b : Bool) (l : List Int) : PyData := if b then .tuple (iD l) else .list (iD l)
def resS : Option (List Rat) → PyData
  | none => .none
  | some xs => .list (dQs xs)
section
variable {P : Program} {w : World} {K : PySem.W.Frag} {mg : Str → Option Value} {base : Heap}
theorem rc_listQ {μ : Mu} {b : Bool} {l : List Int} : RC K (rListO K) μ [.im (seqd b l)] (Ls (iD l)) := by
  cases b with
  | true => exact rc_listT
  | false => exact rc_listL
abbrev sheetM (S : Addr) (n : Nat) (F : RF) : Mu := [(S, .lst (ims (rowsD (mkM n F))))]
/-- sheet[spot][at] -/
theorem ev_cell {δ : DEnv} {S : Addr} {n s a : Nat} {F : RF} {t1 t2 t3 : TE} (hs : s < n) (ha : a < (F s).length) (h1 : Ev K t1 δ (sheetM S n F) (.mr S) (sheetM S n F)) (h2 : Ev K t2 δ (sheetM S n F) (I (s : Int)) (sheetM S n F)) (h3 : Ev K t3 δ (sheetM S n F) (I (a : Int)) (sheetM S n F)) :
    Ev K (tOp (rIx K) (tOp (rIx K) t1 t2) t3) δ (sheetM S n F) (.im (dQ ((F s).getD a 0))) (sheetM S n F) :=
  ev_op (ev_op h1 h2 (rv_ixM 0 rfl (at_nat (mkS_get hs)))) h3 (rv_ixL (at_nat (dQ_getD ha)))
def pre_law_solved : PreT := fun ss μ O => ∃ (n : Nat) (bs : List Bool) (rows : List (List Int)) (rights : List Int), ss = [Ls (List.zipWith seqd bs rows), Ls (iD rights)] ∧ μ = [] ∧ bs.length = n ∧ EqOk n rows rights ∧ O = Is (.im (resS (solvedR rows rights))) []
theorem num_ne {q : Rat} : (!decide (q.num = 0)) = decide (q ≠ 0) := by
  by_cases h : q = 0
  · rw [decide_eq_true (Rat.num_eq_zero.mpr h), decide_eq_false (fun z => z h)]; rfl
  · rw [decide_eq_false (fun z => h (Rat.num_eq_zero.mp z)), decide_eq_true h]; rfl
def pNz (F : RF) (a : Nat) : PyData → Bool
  | .int k => decide ((F k.toNat).getD a 0 ≠ 0)
  | _ => false
theorem nzs_eq (n a : Nat) (F : RF) : (((rngD (a : Int) (n - a)).filter (pNz F a)).map id) = (nzs n a F).map fun s : Nat => PyData.int ((s : Nat) : Int) := by
  rw [List.map_id]
  unfold rngD nzs
  rw [List.filter_map, List.filter_map, List.map_map]
  have e1 : (pNz F a ∘ fun i : Nat => PyData.int ((a : Int) + ((i : Nat) : Int))) = ((fun s => decide ((F s).getD a 0 ≠ 0)) ∘ fun x => a + x) := by
    funext i
    show decide ((F ((a : Int) + (i : Int)).toNat).getD a 0 ≠ 0) = _
    rw [show ((a : Int) + (i : Int)).toNat = a + i by omega]
    rfl
  rw [e1]
  refine List.map_congr_left fun i _ => ?_
  show PyData.int ((a : Int) + (i : Int)) = PyData.int (((a + i : Nat)) : Int)
  rw [Int.natCast_add]
theorem ok_law_solved (T : Txt K mg) : FnOk P w K mg base CX0 (3 + 1) T.d_law_solved.f T.d_law_solved.fd P_law_solved (SpW K pre_law_solved) := by
  refine T.d_law_solved.F.ok sc_law_solved (sp_len fun ss μ O ⟨a, b, c, d, e, _⟩ => by rw [e]; rfl) (fun cdv A outer s H vs Q E hr h => ?_)
  refine ⟨_, (pss_cons (ps_set (i := 2) sc_law_solved.nd rfl (.inr rfl) (pe_callB (k_len (K := K) rfl) (by rfl) T.b_len (by decide +kernel) (pa_cons (pv 0) pa_nil)) (hf := .inl rfl))
    (pss_cons (ps_set (i := 3) sc_law_solved.nd rfl (.inr rfl) (pe_lc (own := [("_law_at_here", 4)]) rfl sc_law_solved.nd (pi_range1 (by rfl) T.b_range (pa_cons (pv 2) pa_nil)) (blkOk_by (N := N_law_solved) (sc := defScope s_law_solved) (by decide +kernel)) (fun _ _ _ _ _ => (pg_name (i := 4) sc_law_solved.nd rfl (.inl rfl) (.inr rfl))) (fun _ _ _ _ _ => pts_nil) (fun _ _ _ _ _ => (pe_lc (own := [("_law_one", 9)]) rfl sc_law_solved.nd (k_piL (K := K) rfl (pe_op (k_add (K := K) rfl) (pe_callTy (k_list (K := K) rfl) (by rfl) T.b_list (by decide +kernel) (pa_cons (pe_ix (k_ix (K := K) rfl) (pv 0) (pv 4) (fun _ _ => rfl)) pa_nil)) (pe_lst (pa_cons (pe_ix (k_ix (K := K) rfl) (pv 1) (pv 4) (fun _ _ => rfl)) pa_nil)))) (blkOk_by (N := N_law_solved) (sc := relS _ (defScope s_law_solved)) (by decide +kernel)) (fun _ _ _ _ _ => (pg_name (i := 9) sc_law_solved.nd rfl (.inl rfl) (.inr rfl))) (fun _ _ _ _ _ => pts_nil) (fun _ _ _ _ _ => (pe_tup (pa_cons (pv 9) (pa_cons pe_int pa_nil))))))) (hf := .inl rfl))
    (pss_cons (ps_for PassesOwn.never rfl (pi_range1 (by rfl) T.b_range (pa_cons (pv 2) pa_nil)) (pg_name (i := 4) sc_law_solved.nd rfl (.inr rfl) (.inl rfl))
      (pss_cons (ps_setLc (i := 5) (own := [("_law_spot", 7)]) rfl sc_law_solved.nd rfl rfl (sw_true rfl rfl rfl (by decide +kernel)) (pi_range2 (by rfl) T.b_range (pa_cons (pv 4) (pa_cons (pv 2) pa_nil))) (blkOk_by (N := N_law_solved) (sc := defScope s_law_solved) (by decide +kernel)) (fun _ _ _ _ _ => (pg_name (i := 7) sc_law_solved.nd rfl (.inl rfl) (.inr rfl))) (fun _ _ _ _ _ => (pts_one (pt_cmpR (k_neD (K := K) hr.units rfl) (pe_ix (k_ix (K := K) rfl) (pe_ix (k_ix (K := K) rfl) (pe_ix (k_ix (K := K) rfl) (pv 3) (pv 7) (fun _ _ => rfl)) (pv 4) (fun _ _ => rfl)) pe_int (fun _ _ => rfl)) pe_int (nomark _)))) (fun _ _ _ _ _ => (pv 7)))
      (pss_cons (ps_if (pt_cmpR (k_eqD (K := K) hr.units rfl) (pv 5) (pe_lst pa_nil) (nomark _))
        (pss_one (ps_ret pe_non))
        pss_nil)
      (pss_cons (ps_set (i := 6) sc_law_solved.nd rfl (.inr rfl) (pe_ix (k_ix (K := K) rfl) (pv 3) (pe_ix (k_ix (K := K) rfl) (pv 5) pe_int (fun _ _ => rfl)) (fun _ _ => rfl)) (hf := .inl rfl))
      (pss_cons (ps_asg (pe_ix (k_ix (K := K) rfl) (pv 3) (pv 4) (fun _ _ => rfl)) (pg_sub (pv 3) (pe_ix (k_ix (K := K) rfl) (pv 5) pe_int (fun _ _ => rfl)) set_list))
      (pss_cons (ps_set (i := 6) sc_law_solved.nd rfl (.inr rfl) (pe_lc (own := [("_law_one", 9)]) rfl sc_law_solved.nd (k_piL (K := K) rfl (pv 6)) (blkOk_by (N := N_law_solved) (sc := defScope s_law_solved) (by decide +kernel)) (fun _ _ _ _ _ => (pg_name (i := 9) sc_law_solved.nd rfl (.inl rfl) (.inr rfl))) (fun _ _ _ _ _ => pts_nil) (fun _ _ _ _ _ => (pe_call (ok_law_times T) (hr.mono (by decide)) (by rfl) T.m_law_times T.d_law_times.F.kp T.d_law_times.b .nil pass0 (pa_cons (pv 9) (pa_cons (pe_call (ok_law_fr T) (hr.mono (by decide)) (by rfl) T.m_law_fr T.d_law_fr.F.kp T.d_law_fr.b .nil pass0 (pa_cons (pe_ix (k_ix (K := K) rfl) (pe_ix (k_ix (K := K) rfl) (pv 6) (pv 4) (fun _ _ => rfl)) pe_int (fun _ _ => rfl)) (pa_cons (pe_ix (k_ix (K := K) rfl) (pe_ix (k_ix (K := K) rfl) (pv 6) (pv 4) (fun _ _ => rfl)) pe_int (fun _ _ => rfl)) pa_nil))) pa_nil))))) (hf := .inl rfl))
      (pss_cons (ps_asg (pv 6) (pg_sub (pv 3) (pv 4) set_list))
      (pss_one (ps_for PassesOwn.never rfl (pi_range1 (by rfl) T.b_range (pa_cons (pv 2) pa_nil)) (pg_name (i := 7) sc_law_solved.nd rfl (.inr rfl) (.inl rfl))
        (pss_one (ps_if (pt_cmpR (k_neD (K := K) hr.units rfl) (pv 7) (pv 4) (nomark _))
          (pss_cons (ps_set (i := 10) sc_law_solved.nd rfl (.inr rfl) (pe_tup (pa_cons (pe_op op_sub pe_int (pe_ix (k_ix (K := K) rfl) (pe_ix (k_ix (K := K) rfl) (pe_ix (k_ix (K := K) rfl) (pv 3) (pv 7) (fun _ _ => rfl)) (pv 4) (fun _ _ => rfl)) pe_int (fun _ _ => rfl))) (pa_cons (pe_ix (k_ix (K := K) rfl) (pe_ix (k_ix (K := K) rfl) (pe_ix (k_ix (K := K) rfl) (pv 3) (pv 7) (fun _ _ => rfl)) (pv 4) (fun _ _ => rfl)) pe_int (fun _ _ => rfl)) pa_nil))) (hf := .inl rfl))
          (pss_one (ps_asg (pe_lc (own := [("_law_k", 11)]) rfl sc_law_solved.nd (pi_range1 (by rfl) T.b_range (pa_cons (pe_op (k_add (K := K) rfl) (pv 2) pe_int) pa_nil)) (blkOk_by (N := N_law_solved) (sc := defScope s_law_solved) (by decide +kernel)) (fun _ _ _ _ _ => (pg_name (i := 11) sc_law_solved.nd rfl (.inl rfl) (.inr rfl))) (fun _ _ _ _ _ => pts_nil) (fun _ _ _ _ _ => (pe_call (ok_law_plus T) (hr.mono (by decide)) (by rfl) T.m_law_plus T.d_law_plus.F.kp T.d_law_plus.b .nil pass0 (pa_cons (pe_ix (k_ix (K := K) rfl) (pe_ix (k_ix (K := K) rfl) (pv 3) (pv 7) (fun _ _ => rfl)) (pv 11) (fun _ _ => rfl)) (pa_cons (pe_call (ok_law_times T) (hr.mono (by decide)) (by rfl) T.m_law_times T.d_law_times.F.kp T.d_law_times.b .nil pass0 (pa_cons (pv 10) (pa_cons (pe_ix (k_ix (K := K) rfl) (pv 6) (pv 11) (fun _ _ => rfl)) pa_nil))) pa_nil))))) (pg_sub (pv 3) (pv 7) set_list))))
          pss_nil)))))))))))
    (pss_one (ps_ret (pe_lc (own := [("_law_line", 8)]) rfl sc_law_solved.nd (k_piL (K := K) rfl (pv 3)) (blkOk_by (N := N_law_solved) (sc := defScope s_law_solved) (by decide +kernel)) (fun _ _ _ _ _ => (pg_name (i := 8) sc_law_solved.nd rfl (.inl rfl) (.inr rfl))) (fun _ _ _ _ _ => pts_nil) (fun _ _ _ _ _ => (pe_ix (k_ix (K := K) rfl) (pv 8) (pv 2) (fun _ _ => rfl))))))))), ?_⟩
  refine fin h fun ss μ O ⟨n, bs, rows, rights, e1, e2, hbl, ok, e3⟩ => ?_
  subst e1 e2 e3
  have hn := ok.n3
  have hzl : (List.zipWith seqd bs rows).length = n := by rw [List.length_zipWith, hbl, ok.len]; omega
  refine q_set (s := I (n : Int)) (μ1 := []) ?_ ?_
  · have key := ev_cb (K := K) (ea_cons (ev_varI (δ := [Ls (List.zipWith seqd bs rows), Ls (iD rights), .un, .un, .un, .un, .un, .un, .un, .un, .un, .un]) (μ := []) (i := 0) rfl) ea_nil) (rc_lenL (K := K))
    rw [hzl] at key
    exact key
  refine q_setF (xs := ims (rowsD (mkM n (startF rows rights)))) (μ1 := []) 3 ?_ fun S => ?_
  · refine ef_map (ix := [4]) (ds := rngD 0 n) ?_ glin_nil (by rw [rngD_len]; omega) (fun j h => h) (by rw [rngD_len]; unfold rowsD mkM; simp) fun i d e hd he => ?_
    · have key := ei_rng1 (K := K) (δ := [Ls (List.zipWith seqd bs rows), Ls (iD rights), I (n : Int), .un, .un, .un, .un, .un, .un, .un, .un, .un]) (μ := []) (tr := tCons (tVar 2) tNil) (ea_cons (ev_varI rfl) ea_nil) (by omega) (by omega)
      rw [Int.toNat_natCast] at key
      exact key
    · obtain ⟨hi, rfl⟩ := rngD_get hd
      rw [mkD_get hi] at he
      cases he
      have zi : (0 : Int) + (i : Int) = (i : Int) := Int.zero_add _
      rw [zi]
      have g : rows[i]? = some (rows.getD i []) := getD_at (by rw [ok.len]; exact hi)
      obtain ⟨b, hb⟩ : ∃ b, bs[i]? = some b := ⟨_, List.getElem?_eq_getElem (by omega)⟩
      have gz : (List.zipWith seqd bs rows)[i]? = some (seqd b (rows.getD i [])) := by rw [List.getElem?_zipWith, hb, g]
      have gr : rights[i]? = some (rights.getD i 0) := getD_at (by rw [ok.right.1]; exact hi)
      obtain ⟨l1, _⟩ := ok.rl _ (List.mem_of_getElem? g)
      refine ⟨_, bnd_name, ev_map (ix := [9]) (es := dQs (startF rows rights i)) (ei_list (ds := iD (rows.getD i [] ++ [rights.getD i 0])) ?_) glin_nil (by rw [iD_len, List.length_append, l1]; simp; omega) (fun j h => h) (by unfold dQs startF; rw [iD_len, List.length_map, List.length_map]) fun k d e hd he => ?_⟩
      · rw [iD_app]
        exact ev_op (ev_cb (ea_cons (ev_op (ev_varI rfl) (ev_varI rfl) (rv_ixL (at_nat gz))) ea_nil) rc_listQ) (ev_lst (ds := [.int _]) (ea_cons (ev_op (ev_varI rfl) (ev_varI rfl) (rv_ixL (at_nat (iD_at gr)))) ea_nil) (by simp)) (rv_cat (by rw [iD_len, l1]; simp; omega))
      · obtain ⟨z, hz, rfl⟩ := iD_get hd
        have ee : e = dQ (z : Rat) := by
          unfold dQs startF at he
          rw [List.getElem?_map, List.getElem?_map, hz] at he
          cases he
          rfl
        rw [ee]
        exact ⟨_, bnd_name, ev_q1 (ev_varI rfl)⟩
  · have sz := fun k F' hk e => gauss_sz (start_sz ok) k (F' := F') hk e
    refine t_seq (M := fun a b => ∃ F x4 x5 x6 x7 x10, a = [Ls (List.zipWith seqd bs rows), Ls (iD rights), I (n : Int), .mr S, x4, x5, x6, x7, .un, .un, x10, .un] ∧ b = sheetM S n F ∧ gauss n n (startF rows rights) = some F) ?_ fun a b ⟨F, x4, x5, x6, x7, x10, e1, e2, hF⟩ => ?_
    · refine t_for (ix := [4]) (ds := rngD 0 n) (μ0 := sheetM S n (startF rows rights)) ?_ (fun i a b => ∃ F x4 x5 x6 x7 x10, a = [Ls (List.zipWith seqd bs rows), Ls (iD rights), I (n : Int), .mr S, x4, x5, x6, x7, .un, .un, x10, .un] ∧ b = sheetM S n F ∧ gauss n i (startF rows rights) = some F) ⟨_, _, _, _, _, _, rfl, rfl, rfl⟩ (fun _ _ _ _ => glin_nil) (fun i d a b hd ⟨F, x4, x5, x6, x7, x10, e1, e2, hF⟩ => ?_) fun a b ⟨F, x4, x5, x6, x7, x10, e1, e2, hF⟩ => ?_
      · have key := ei_rng1 (K := K) (δ := [Ls (List.zipWith seqd bs rows), Ls (iD rights), I (n : Int), .mr S, .un, .un, .un, .un, .un, .un, .un, .un]) (μ := sheetM S n (startF rows rights)) (tr := tCons (tVar 2) tNil) (ea_cons (ev_varI rfl) ea_nil) (by omega) (by omega)
        rw [Int.toNat_natCast] at key
        exact key
      · subst e1 e2
        obtain ⟨hi, rfl⟩ := rngD_get hd
        have zi : (0 : Int) + (i : Int) = (i : Int) := Int.zero_add _
        rw [zi]
        have hsz := sz i F (by omega) hF
        have ka := kA_le (show i ≤ 3 by omega)
        have kb := kB_le (show i ≤ 3 by omega)
        refine ⟨_, bnd_name, ?_⟩
        -- the rows that are not 0 there
        refine q_set (s := Ls ((nzs n i F).map fun s : Nat => PyData.int ((s : Nat) : Int))) (μ1 := sheetM S n F) ?_ ?_
        · rw [← nzs_eq]
          refine ev_filt (ix := [7]) (pNz F i) id ?_ glin_nil (by rw [rngD_len]; omega) (fun j h => h) fun k d hd => ?_
          · have key := ei_rng2 (K := K) (δ := [Ls (List.zipWith seqd bs rows), Ls (iD rights), I (n : Int), .mr S, I (i : Int), x5, x6, x7, .un, .un, x10, .un]) (μ := sheetM S n F) (tr := tCons (tVar 4) (tCons (tVar 2) tNil)) (ea_cons (ev_varI rfl) (ea_cons (ev_varI rfl) ea_nil)) ⟨by omega, by omega, by omega⟩ (by omega)
            rw [show ((n : Int) - (i : Int)).toNat = n - i by omega] at key
            exact key
          · obtain ⟨hk, rfl⟩ := rngD_get hd
            have hkk : (i : Int) + (k : Int) = ((i + k : Nat) : Int) := by omega
            rw [hkk]
            have hs2 : i + k < n := by omega
            have hl := (hsz (i + k) hs2).len
            have ep : pNz F i (.int ((i + k : Nat) : Int)) = !decide (((F (i + k)).getD i 0).num = 0) := by
              rw [num_ne]
              show decide ((F ((i + k : Nat) : Int).toNat).getD i 0 ≠ 0) = _
              rw [Int.toNat_natCast]
            rw [ep]
            exact ⟨_, bnd_name, et_op (ev_op (ev_cell hs2 (by omega) (ev_varM rfl) (ev_varI rfl) (ev_varI rfl)) ev_int (rv_ixT (ix0 _))) ev_int rv_neI, fun _ => ev_varI rfl⟩
        · cases hnz : nzs n i F with
          | nil =>
            refine q_if (b := true) (et_op (ev_varI rfl) (ev_lst (ds := []) ea_nil (by simp)) (rv_eq (by decide +kernel) (by decide +kernel))) (fun _ => ?_) (fun z => nomatch z)
            refine q_retS (t_ret (s := .im .none) ev_non ?_)
            have e1 : gauss n (i + 1) (startF rows rights) = none := by
              show (gauss n i _).bind _ = none
              rw [hF]
              show gstep n i F = none
              unfold gstep
              rw [hnz]
            have e2 : solvedR rows rights = none := by
              unfold solvedR
              rw [ok.len, gauss_none e1 n (by omega)]
              rfl
            rw [e2]
            exact ⟨rfl, List.nil_sublist _⟩
          | cons s0 rest =>
            obtain ⟨g1, g2, g3⟩ := nzs_mem (F := F) (show s0 ∈ nzs n i F by rw [hnz]; simp)
            refine q_if (b := false) (et_op (ev_varI rfl) (ev_lst (ds := []) ea_nil (by simp)) ?_) (fun z => nomatch z) (fun _ => ?_)
            · have := rv_eq (K := K) (μ := sheetM S n F) (d := .list ((s0 :: rest).map fun s : Nat => PyData.int ((s : Nat) : Int))) (e := .list []) (shaped_list fun d hd => by
                obtain ⟨s, _, rfl⟩ := List.mem_map.mp hd
                exact ⟨rfl, dep_int _⟩) (by decide +kernel)
              rw [eqv_nil] at this
              exact this
            refine q_next ?_
            have hs0 : atI (((s0 :: rest).map fun s : Nat => PyData.int ((s : Nat) : Int))) 0 = some (.int (s0 : Int)) := by show atI _ ((0 : Nat) : Int) = _; exact at_nat rfl
            have hl0 := hsz s0 g2
            have hli := hsz i hi
            -- lead = sheet[some[0]]; sheet[some[0]] = sheet[at]
            refine q_set (ev_op (ev_varM rfl) (ev_op (ev_varI rfl) ev_int (rv_ixL hs0)) (rv_ixM 0 rfl (at_nat (mkS_get g2)))) ?_
            refine t_seq (t_setI (N := At _ (sheetM S n fun k => if k = s0 then F i else F k)) (i := (s0 : Int)) (j := s0) 0 (ev_op (ev_varM rfl) (ev_varI rfl) (rv_ixM 0 rfl (at_nat (mkS_get hi)))) (ev_varM rfl) (ev_op (ev_varI rfl) ev_int (rv_ixL hs0)) rfl (by rw [mkS_len]; exact ixN_nat g2) ⟨rfl, by rw [mkS_set g2]; rfl⟩) fun _ _ ⟨e1, e2⟩ => ?_
            subst e1 e2
            -- lead times its own first one's inverse
            have hinv : Bq (kA i) (((F s0).getD i 0)⁻¹) := (hl0.l i hi).inv g3
            have hlead := hl0.lead hi g3
            refine q_set (s := Ls (dQs (leadF F s0 i))) (μ1 := sheetM S n fun k => if k = s0 then F i else F k) (ev_map (ix := [9]) (ei_list (ev_varI rfl)) glin_nil (by rw [dQs_len, hl0.len]; omega) (fun j h => h) (by unfold leadF; rw [dQs_len, dQs_len, List.length_map]) fun k d e hd he => ?_) ?_
            · obtain ⟨q, hq, rfl⟩ := dQs_get hd
              have ee : e = dQ (q * ((F s0).getD i 0)⁻¹) := by
                unfold dQs leadF at he
                rw [List.getElem?_map, List.getElem?_map, hq] at he
                cases he
                rfl
              rw [ee]
              have hk := (List.getElem?_eq_some_iff.mp hq).1
              have hbq : Bq 700 q := by
                have e0 : (F s0).getD k 0 = q := by rw [List.getD_eq_getElem?_getD, hq]; rfl
                by_cases hkn : k < n
                · rw [← e0]; exact (hl0.l k hkn).mono (by omega)
                · have : k = n := by rw [hl0.len] at hk; omega
                  subst this
                  rw [← e0]; exact hl0.r.mono (by omega)
              have gi := dQ_getD (r := F s0) (i := i) (by rw [hl0.len]; omega)
              refine ⟨_, bnd_name, ev_call0 (ea_cons (ev_varI rfl) (ea_cons (ev_call0 (s := .im (dQ ((F s0).getD i 0)⁻¹)) (ea_cons (ev_op (ev_op (ev_varI rfl) (ev_varI rfl) (rv_ixL (at_nat gi))) ev_int (rv_ixT (ix1 _))) (ea_cons (ev_op (ev_op (ev_varI rfl) (ev_varI rfl) (rv_ixL (at_nat gi))) ev_int (rv_ixT (ix0 _))) ea_nil)) ?_) ea_nil)) ⟨_, _, rfl, rfl, hbq.mono (by decide), hinv.mono (by omega), rfl⟩⟩
              refine ⟨_, _, rfl, rfl, fun z => g3 (Rat.num_eq_zero.mp z), (hl0.l i hi).dz.mono (by omega), (hl0.l i hi).n.mono (by omega), .inr ?_, ?_⟩
              · rw [Int.natAbs_natCast, Nat.gcd_comm]
                exact red_gcd _
              · rw [inv_eq]
            -- sheet[at] = lead
            refine t_seq (t_setI (N := At _ (sheetM S n (swapF F s0 i))) (i := (i : Int)) (j := i) 0 (ev_varI rfl) (ev_varM rfl) (ev_varI rfl) rfl (by rw [mkS_len]; exact ixN_nat hi) ⟨rfl, by rw [mkS_set hi]; rfl⟩) fun _ _ ⟨e1, e2⟩ => ?_
            subst e1 e2
            have hsw := swap_sz (s0 := s0) hsz hi g2
            have hswi : swapF F s0 i i = leadF F s0 i := by unfold swapF; rw [if_pos rfl]
            have hF2 : gauss n (i + 1) (startF rows rights) = some (elimF (leadF F s0 i) i (swapF F s0 i) n) := by
              show (gauss n i _).bind _ = _
              rw [hF]
              show gstep n i F = _
              unfold gstep
              rw [hnz]
            refine t_for (ix := [7]) (ds := rngD 0 n) (μ0 := sheetM S n (swapF F s0 i)) ?_ (fun k a b => ∃ x7 x10, a = [Ls (List.zipWith seqd bs rows), Ls (iD rights), I (n : Int), .mr S, I (i : Int), Ls ((s0 :: rest).map fun s : Nat => PyData.int ((s : Nat) : Int)), Ls (dQs (leadF F s0 i)), x7, .un, .un, x10, .un] ∧ b = sheetM S n (elimF (leadF F s0 i) i (swapF F s0 i) k)) ⟨_, _, rfl, ?_⟩ (fun _ _ _ _ => glin_nil) (fun k d a b hd ⟨x7, x10, e1, e2⟩ => ?_) fun a b ⟨x7, x10, e1, e2⟩ => ?_
            · have key := ei_rng1 (K := K) (δ := [Ls (List.zipWith seqd bs rows), Ls (iD rights), I (n : Int), .mr S, I (i : Int), Ls ((s0 :: rest).map fun s : Nat => PyData.int ((s : Nat) : Int)), Ls (dQs (leadF F s0 i)), x7, .un, .un, x10, .un]) (μ := sheetM S n (swapF F s0 i)) (tr := tCons (tVar 2) tNil) (ea_cons (ev_varI rfl) ea_nil) (by omega) (by omega)
              rw [Int.toNat_natCast] at key
              exact key
            · have : elimF (leadF F s0 i) i (swapF F s0 i) 0 = swapF F s0 i := by
                funext s
                unfold elimF
                rw [if_neg (fun z => Nat.not_lt_zero _ z.1)]
              rw [this]
            · subst e1 e2
              obtain ⟨hk, rfl⟩ := rngD_get hd
              have zk : (0 : Int) + (k : Int) = (k : Int) := Int.zero_add _
              rw [zk]
              refine ⟨_, bnd_name, ?_⟩
              have same : k ≠ i → elimF (leadF F s0 i) i (swapF F s0 i) k k = swapF F s0 i k := fun _ => by
                unfold elimF
                rw [if_neg (fun z => Nat.lt_irrefl _ z.1)]
              refine t_if (et_op (ev_varI rfl) (ev_varI rfl) rv_neI) (fun hc => ?_) (fun hc => ?_)
              · have hne : k ≠ i := by
                  intro e
                  subst e
                  simp at hc
                have hk2 := hsw k hk hne
                rw [← same hne] at hk2
                generalize hE : elimF (leadF F s0 i) i (swapF F s0 i) k = EF at hk2
                have hmuch : Bq (kA i) ((EF k).getD i 0) := hk2.l i hi
                have hmi : Bq (kA i) (-((EF k).getD i 0)) := hmuch.neg
                refine q_set (s := .im (dQ (-((EF k).getD i 0)))) (ev_tup (ds := [.int (-((EF k).getD i 0)).num, .int ((-((EF k).getD i 0)).den : Int)]) (ea_cons ?_ (ea_cons (ev_op (ev_cell hk (by rw [hk2.len]; omega) (ev_varM rfl) (ev_varI rfl) (ev_varI rfl)) ev_int (rv_ixT (ix1 _))) ea_nil)) (by simp)) ?_
                · have key := ev_op (K := K) (ev_int (δ := [Ls (List.zipWith seqd bs rows), Ls (iD rights), I (n : Int), .mr S, I (i : Int), Ls ((s0 :: rest).map fun s : Nat => PyData.int ((s : Nat) : Int)), Ls (dQs (leadF F s0 i)), I (k : Int), .un, .un, x10, .un]) (μ := sheetM S n EF) (i := 0)) (ev_op (ev_cell (t1 := tVar 3) (t2 := tVar 7) (t3 := tVar 4) hk (by rw [hk2.len]; omega) (ev_varM rfl) (ev_varI rfl) (ev_varI rfl)) (ev_int (i := 0)) (rv_ixT (ix0 _))) rv_sub
                  rw [show (0 : Int) - ((EF k).getD i 0).num = (-((EF k).getD i 0)).num by rw [Rat.neg_num]; omega] at key
                  exact key
                refine t_setI (s := Ls (dQs (rowOp (-((EF k).getD i 0)) (leadF F s0 i) (EF k)))) (μ1 := sheetM S n EF) (μ2 := sheetM S n EF) (μ3 := sheetM S n EF) (i := (k : Int)) (j := k) 0 (ev_map (ix := [11]) (ds := rngD 0 (n + 1)) ?_ glin_nil (by rw [rngD_len]; omega) (fun j h => h) (by rw [rngD_len, dQs_len, op_len, hk2.len, show (leadF F s0 i).length = n + 1 from hlead.len]; omega) fun j d e hd he => ?_) (ev_varM rfl) (ev_varI rfl) rfl (by rw [mkS_len (F := EF)]; exact ixN_nat hk) ⟨_, _, rfl, ?_⟩
                · have key := ei_rng1 (K := K) (δ := [Ls (List.zipWith seqd bs rows), Ls (iD rights), I (n : Int), .mr S, I (i : Int), Ls ((s0 :: rest).map fun s : Nat => PyData.int ((s : Nat) : Int)), Ls (dQs (leadF F s0 i)), I (k : Int), .un, .un, .im (dQ (-((EF k).getD i 0))), .un]) (μ := sheetM S n EF) (tr := tCons (tOp (rAddA K) (tVar 2) (tC (.int 1))) tNil) (ea_cons (ev_op (ev_varI rfl) ev_int rv_add) ea_nil) (by omega) (by omega)
                  rw [show ((n : Int) + 1).toNat = n + 1 by omega] at key
                  exact key
                · obtain ⟨hj, rfl⟩ := rngD_get hd
                  have zj : (0 : Int) + (j : Int) = (j : Int) := Int.zero_add _
                  rw [zj]
                  have hlj : j < (leadF F s0 i).length := by rw [show (leadF F s0 i).length = n + 1 from hlead.len]; exact hj
                  have hrj : j < (EF k).length := by rw [hk2.len]; exact hj
                  have ee : e = dQ ((EF k).getD j 0 + (-((EF k).getD i 0)) * (leadF F s0 i).getD j 0) := by
                    obtain ⟨q, hq, rfl⟩ := dQs_get he
                    have : (rowOp (-((EF k).getD i 0)) (leadF F s0 i) (EF k)).getD j 0 = q := by rw [List.getD_eq_getElem?_getD, hq]; rfl
                    rw [← this, getD_op hlj hrj]
                  rw [ee]
                  have b1 : Bq 700 ((EF k).getD j 0) := by
                    by_cases hjn : j < n
                    · exact (hk2.l j hjn).mono (by omega)
                    · have : j = n := by omega
                      subst this
                      exact hk2.r.mono (by omega)
                  have b2 : Bq 900 ((leadF F s0 i).getD j 0) := by
                    by_cases hjn : j < n
                    · exact (hlead.l j hjn).mono (by omega)
                    · have : j = n := by omega
                      subst this
                      exact hlead.r.mono (by omega)
                  exact ⟨_, bnd_name, ev_call0 (ea_cons (ev_cell hk hrj (ev_varM rfl) (ev_varI rfl) (ev_varI rfl)) (ea_cons (ev_call0 (ea_cons (ev_varI rfl) (ea_cons (ev_op (ev_varI rfl) (ev_varI rfl) (rv_ixL (at_nat (dQ_getD hlj)))) ea_nil)) ⟨_, _, rfl, rfl, hmi.mono (by omega), b2.mono (by decide), rfl⟩) ea_nil))
                    ⟨_, _, rfl, rfl, b1.mono (by decide), (hmi.mul b2).mono (by omega), rfl⟩⟩
                · rw [mkS_set hk]
                  show sheetM S n _ = sheetM S n _
                  have : mkM n (fun k_1 => if k_1 = k then rowOp (-((EF k).getD i 0)) (leadF F s0 i) (EF k) else EF k_1) = mkM n (elimF (leadF F s0 i) i (swapF F s0 i) (k + 1)) := mkM_congr fun s hs => by
                    by_cases es : s = k
                    · subst es
                      rw [if_pos rfl]
                      have e0 : EF s = swapF F s0 i s := by rw [← hE]; exact same hne
                      unfold elimF
                      rw [if_pos ⟨Nat.lt_succ_self s, hne⟩, e0]
                    · rw [if_neg es, ← hE]
                      unfold elimF
                      by_cases hlt : s < k ∧ s ≠ i
                      · rw [if_pos hlt, if_pos ⟨by omega, hlt.2⟩]
                      · rw [if_neg hlt, if_neg (fun z => hlt ⟨by omega, z.2⟩)]
                  unfold sheetM
                  rw [this]
              · have hik : k = i := by
                  apply Classical.byContradiction
                  intro z
                  have : (!decide ((k : Int) = (i : Int))) = true := by
                    rw [decide_eq_false (by omega)]; rfl
                  rw [this] at hc
                  cases hc
                refine t_next ⟨_, _, rfl, ?_⟩
                have : mkM n (elimF (leadF F s0 i) i (swapF F s0 i) k) = mkM n (elimF (leadF F s0 i) i (swapF F s0 i) (k + 1)) := mkM_congr fun s hs => by
                  unfold elimF
                  by_cases hlt : s < k ∧ s ≠ i
                  · rw [if_pos hlt, if_pos ⟨by omega, hlt.2⟩]
                  · rw [if_neg hlt, if_neg (fun z => hlt ⟨by omega, z.2⟩)]
                unfold sheetM
                rw [this]
            · subst e1 e2
              rw [rngD_len]
              exact ⟨_, _, _, _, _, _, rfl, rfl, hF2⟩
      · subst e1 e2
        rw [rngD_len] at hF
        exact ⟨_, _, _, _, _, _, rfl, rfl, hF⟩
    · subst e1 e2
      have hsz := sz n F (Nat.le_refl n) hF
      have er : solvedR rows rights = some ((List.range n).map fun s => (F s).getD n 0) := by
        unfold solvedR
        rw [ok.len, hF]
        rfl
      rw [er]
      refine t_ret (s := Ls (dQs ((List.range n).map fun s => (F s).getD n 0))) (μ1 := sheetM S n F) ?_ ⟨rfl, List.nil_sublist _⟩
      refine ev_map (ix := [8]) (ei_listM (ds := rowsD (mkM n F)) 0 (ev_varM rfl) rfl) (glin_one 0 rfl) (by unfold rowsD mkM; simp; omega) (fun j h => h) (by unfold rowsD mkM dQs; simp) fun k d e hd he => ?_
      have hk : k < n := by
        have := (List.getElem?_eq_some_iff.mp hd).1
        unfold rowsD mkM at this
        simpa using this
      rw [mkD_get hk] at hd
      cases hd
      have ee : e = dQ ((F k).getD n 0) := by
        unfold dQs at he
        rw [List.getElem?_map, List.getElem?_map, List.getElem?_range hk] at he
        cases he
        rfl
      rw [ee]
      exact ⟨_, bnd_name, ev_op (ev_varI rfl) (ev_varI rfl) (rv_ixL (at_nat (dQ_getD (by rw [(hsz k hk).len]; omega))))⟩
end
end WM

set_option Elab.async false
set_option linter.all false
set_option maxRecDepth 100000
set_option maxHeartbeats 2000000
namespace WM
open PySem PySem.Spec PyProof.Rows L2 StX

/-! ### the law's corners -/
section
variable {K : PySem.W.Frag} {δ : DEnv} {μ μ1 μ2 : Mu} {ta tb : TE} {tz : TS} {N : DEnv → Mu → Prop} {R : Slot → Mu → Prop}
/-- a, b = (frozen, a new list) -/
theorem q_asgTF {d : PyData} {xs : List Slot} (i j : Nat) (ha : Ev K ta δ μ (.im d) μ1) (hb : EvF K tb δ μ1 xs μ2) (k : ∀ a, Tri K tz ((δ.set i (.im d)).set j (.mr a)) (μ2 ++ [(a, .lst xs)]) N R) :
    Tri K (tSeq (tAsg (tTup (tCons ta (tCons tb tNil))) (gTup K 2 (gCons (gName i) (gCons (gName j) gNil)))) tz) δ μ N R := fun F H σ o D hN hR =>
  ha F H σ o _ fun v F1 H1 p1 r1 => hb F1 H1 σ (o.post p1) _ fun a F2 H2 p2 => by
    refine ⟨sz_le (show 2 ≤ 100000 by decide), fun p hp => ?_⟩
    have L := Post.lay (K := K) (o := .tup [v, .ref a]) p2.sub p2.mu hp
    have PP := (p1.trans p2).trans L
    refine ⟨p, [v, .ref a], rfl, sqt_of upd_same, rfl, ?_⟩
    refine ⟨_, _, rfl, ?_⟩
    refine ⟨_, _, rfl, ?_⟩
    refine ⟨rfl, ?_⟩
    exact k a _ _ _ (((o.post PP).set i (s := .im d) (Rep.mono (p2.gr.f.trans L.gr.f) r1)).set j (s := .mr a) rfl) D (fun a2 b2 σ2 F2 H2 n p2 o2 => hN a2 b2 σ2 F2 H2 n (PP.trans p2) o2) fun a2 b2 v F2 H2 r p2 o2 => hR a2 b2 v F2 H2 r (PP.trans p2) o2
theorem rv_notInM {d : PyData} {ds : List PyData} {a : Addr} (j : Nat) (hj : μ[j]? = some (a, .lst (ims ds))) (h1 : SeqAt.shaped d = true) (h2 : SeqAt.shaped (.list ds) = true) : RV K (rNotInD K) μ (.im d) (.mr a) (B (!(ds.any fun z => PyData.eqv z d))) := fun F H v w s m r1 r2 Q q => by
  have e : w = .ref a := r2
  subst e
  obtain ⟨vs, hv, r⟩ := (m.ok _ (List.mem_of_getElem? hj)).2
  exact ⟨d, ds, (Rep.mono s r1).dp, (Rep.lst hv (Reps.mono s (slots_ims r))).dp, h1, h2, q _ F H (.refl s m) (.bl _)⟩
end
abbrev dCs (cs : List (List Rat)) : List PyData := cs.map fun qs => .list (dQs qs)
theorem eqvAll_dQs : ∀ (a b : List Rat), PyData.eqvAll (dQs a) (dQs b) = decide (a = b)
  | [], [] => by simp [PyData.eqvAll]
  | [], b :: bs => by simp [PyData.eqvAll]
  | a :: as, [] => by simp [PyData.eqvAll]
  | a :: as, b :: bs => by
    show PyData.eqvAll (dQ a :: dQs as) (dQ b :: dQs bs) = _
    simp only [PyData.eqvAll]
    rw [eqv_dQ, eqvAll_dQs as bs]
    by_cases h : a = b
    · subst h; simp
    · simp [h]
theorem eqv_dQs (a b : List Rat) : PyData.eqv (.list (dQs a)) (.list (dQs b)) = decide (a = b) := by
  rw [← eqvAll_dQs]
  simp only [PyData.eqv]
theorem any_dCs (cs : List (List Rat)) (qs : List Rat) : ((dCs cs).any fun z => PyData.eqv z (.list (dQs qs))) = decide (qs ∈ cs) := by
  rw [Bool.eq_iff_iff, List.any_eq_true, decide_eq_true_iff]
  constructor
  · rintro ⟨d, hd, he⟩
    obtain ⟨c, hc, rfl⟩ := List.mem_map.mp hd
    rw [eqv_dQs] at he
    rw [← of_decide_eq_true he]
    exact hc
  · intro h
    exact ⟨_, List.mem_map.mpr ⟨qs, h, rfl⟩, by rw [eqv_dQs]; exact decide_eq_true rfl⟩
theorem dep3_dQ (q : Rat) : (dQ q).depth ≤ 3 := by
  unfold dQ
  simp only [PyData.depth, PyData.depthAll]
  omega
theorem shaped_dQs (qs : List Rat) : SeqAt.shaped (.list (dQs qs)) = true := shaped_list fun d hd => by
  obtain ⟨q, _, rfl⟩ := List.mem_map.mp hd
  exact ⟨shaped_dQ q, dep_dQ q⟩
theorem dep_dQs (qs : List Rat) : (PyData.list (dQs qs)).depth ≤ 20 := by
  have h := depthAll_le (k := 3) (ds := dQs qs) fun d hd => by
    obtain ⟨q, _, rfl⟩ := List.mem_map.mp hd
    exact dep3_dQ q
  simp only [PyData.depth]
  omega
theorem shaped_dCs (cs : List (List Rat)) : SeqAt.shaped (.list (dCs cs)) = true := shaped_list fun d hd => by
  obtain ⟨q, _, rfl⟩ := List.mem_map.mp hd
  exact ⟨shaped_dQs q, dep_dQs q⟩

def unitZ (wide k : Nat) : List Int := (List.range wide).map fun s => if s = k then 1 else 0
def unitsZ (wide : Nat) : List (List Int) := (List.range wide).map (unitZ wide)
def sheetZ (rows : List (List Int)) (wide : Nat) : List (List Int) := rows ++ unitsZ wide
def endsR (rights : List Rat) (wide : Nat) : List Rat := rights ++ List.replicate wide 0
def lowZ (ends : List Rat) (lot : List Int) : Int := lot.foldl (fun acc k => acc * ((ends.getD k.toNat 0).den : Int)) 1
def wholeZ (ends : List Rat) (lot : List Int) : List Int := lot.map fun k => (ends.getD k.toNat 0).num * (lowZ ends lot / ((ends.getD k.toNat 0).den : Int))
def lotRows (sheet : List (List Int)) (lot : List Int) : List (List Int) := lot.map fun k => sheet.getD k.toNat []
def cornerR (sheet : List (List Int)) (ends : List Rat) (lot : List Int) : Option (List Rat) :=
  (solvedR (lotRows sheet lot) (wholeZ ends lot)).map fun qs => qs.map fun q => q * Rat.divInt 1 (lowZ ends lot)
def okC (sheet : List (List Int)) (ends : List Rat) (qs : List Rat) : Prop := ∀ k ∈ List.range sheet.length, ends.getD k 0 ≤ innerR (sheet.getD k []) qs
instance (sheet : List (List Int)) (ends : List Rat) (qs : List Rat) : Decidable (okC sheet ends qs) := by unfold okC; exact inferInstance
def cornStep (sheet : List (List Int)) (ends : List Rat) (found : List (List Rat)) (lot : List Int) : List (List Rat) :=
  match cornerR sheet ends lot with
  | none => found
  | some qs => if okC sheet ends qs ∧ qs ∉ found then found ++ [qs] else found
def cornersR (rows : List (List Int)) (rights : List Rat) (wide : Nat) : List (List Rat) :=
  (lotsM (((sheetZ rows wide).length : Nat) : Int) wide).foldl (cornStep (sheetZ rows wide) (endsR rights wide)) []
theorem unitZ_len (wide k : Nat) : (unitZ wide k).length = wide := by unfold unitZ; simp
theorem unitsZ_len (wide : Nat) : (unitsZ wide).length = wide := by unfold unitsZ; simp
theorem sheetZ_len (rows : List (List Int)) (wide : Nat) : (sheetZ rows wide).length = rows.length + wide := by unfold sheetZ; rw [List.length_append, unitsZ_len]
theorem endsR_len (rights : List Rat) (wide : Nat) : (endsR rights wide).length = rights.length + wide := by unfold endsR; rw [List.length_append, List.length_replicate]
structure CnOk (rows : List (List Int)) (rights : List Rat) (wide : Nat) : Prop where
  w : 1 ≤ wide ∧ wide ≤ 3
  h : 1 ≤ rows.length ∧ rows.length ≤ 3
  rl : ∀ r ∈ rows, r.length = wide ∧ ∀ z ∈ r, Bi 2 z
  rr : rights.length = rows.length
  rb : ∀ q ∈ rights, Bq 14 q
theorem CnOk.sheet {rows : List (List Int)} {rights : List Rat} {wide : Nat} (h : CnOk rows rights wide) {k : Nat} (hk : k < (sheetZ rows wide).length) : ((sheetZ rows wide).getD k []).length = wide ∧ ∀ z ∈ (sheetZ rows wide).getD k [], Bi 2 z := by
  have g := getD_at (z := ([] : List Int)) hk
  have m := List.mem_of_getElem? g
  unfold sheetZ at m
  rcases List.mem_append.mp m with m | m
  · exact h.rl _ m
  · unfold unitsZ at m
    obtain ⟨s, _, e⟩ := List.mem_map.mp m
    show ((sheetZ rows wide).getD k []).length = wide ∧ ∀ z ∈ (sheetZ rows wide).getD k [], Bi 2 z
    unfold sheetZ unitsZ
    rw [← e]
    refine ⟨unitZ_len _ _, fun z hz => ?_⟩
    unfold unitZ at hz
    obtain ⟨j, _, rfl⟩ := List.mem_map.mp hz
    split
    · show (1 : Int).natAbs < 2 ^ 2; decide
    · exact bi0
theorem CnOk.ends {rows : List (List Int)} {rights : List Rat} {wide : Nat} (h : CnOk rows rights wide) (k : Nat) : Bq 14 ((endsR rights wide).getD k 0) := by
  rw [List.getD_eq_getElem?_getD]
  cases e : (endsR rights wide)[k]? with
  | none => exact bq0.mono (by decide)
  | some q =>
    have m := List.mem_of_getElem? e
    unfold endsR at m
    rcases List.mem_append.mp m with m | m
    · exact h.rb _ m
    · have := List.eq_of_mem_replicate m
      subst this
      exact bq0.mono (by decide)
theorem low_ok {ends : List Rat} (h : ∀ k, Bq 14 (ends.getD k 0)) : ∀ (lot : List Int) (acc : Int) (a : Nat), 0 < acc → Bi a acc → 0 < lot.foldl (fun acc k => acc * ((ends.getD k.toNat 0).den : Int)) acc ∧ Bi (a + 14 * lot.length) (lot.foldl (fun acc k => acc * ((ends.getD k.toNat 0).den : Int)) acc)
  | [], acc, a, h0, hb => ⟨h0, hb.mono (by omega)⟩
  | k :: lot, acc, a, h0, hb => by
    obtain ⟨h1, h2⟩ := low_ok h lot (acc * ((ends.getD k.toNat 0).den : Int)) (a + 14) (Int.mul_pos h0 (den_pos _)) (hb.mul (h k.toNat).dz)
    exact ⟨h1, h2.mono (by rw [List.length_cons]; omega)⟩
theorem lowZ_ok {ends : List Rat} (h : ∀ k, Bq 14 (ends.getD k 0)) {lot : List Int} (hl : lot.length ≤ 3) : 0 < lowZ ends lot ∧ Bi 43 (lowZ ends lot) := by
  obtain ⟨h1, h2⟩ := low_ok h lot 1 1 (by decide) (show (1 : Int).natAbs < 2 ^ 1 by decide)
  exact ⟨h1, h2.mono (by omega)⟩

theorem CnOk.lotEq {rows : List (List Int)} {rights : List Rat} {wide : Nat} (h : CnOk rows rights wide) {lot : List Int} (lo : LotOk (((sheetZ rows wide).length : Nat) : Int) wide lot) :
    EqOk wide (lotRows (sheetZ rows wide) lot) (wholeZ (endsR rights wide) lot) := by
  have hl := lowZ_ok h.ends (lot := lot) (by rw [lo.len]; exact h.w.2)
  refine ⟨h.w, by unfold lotRows; rw [List.length_map, lo.len], fun r hr => ?_, by unfold wholeZ; rw [List.length_map, lo.len], fun z hz => ?_⟩
  · unfold lotRows at hr
    obtain ⟨k, hk, rfl⟩ := List.mem_map.mp hr
    have := lo.rng k hk
    exact h.sheet (by omega)
  · unfold wholeZ at hz
    obtain ⟨k, hk, rfl⟩ := List.mem_map.mp hz
    have b1 : Bi 43 (lowZ (endsR rights wide) lot / ((((endsR rights wide).getD k.toNat 0).den : Nat) : Int)) := Bi.div hl.2
    exact ((h.ends k.toNat).n.mul b1).mono (by decide)
theorem inv_num {low : Int} (h : 0 < low) : dQ (Rat.divInt 1 low) = .tuple [.int 1, .int low] := by
  obtain ⟨h1, h2⟩ := divInt_pos (a := 1) h
  have e : Nat.gcd (1 : Int).natAbs low.natAbs = 1 := by simp
  unfold dQ
  rw [h1, h2, e]
  simp
theorem corner_bq {rows : List (List Int)} {rights : List Rat} {wide : Nat} (h : CnOk rows rights wide) {lot : List Int} (lo : LotOk (((sheetZ rows wide).length : Nat) : Int) wide lot) {qs : List Rat} (e : cornerR (sheetZ rows wide) (endsR rights wide) lot = some qs) :
    qs.length = wide ∧ ∀ q ∈ qs, Bq 700 q := by
  have hl := lowZ_ok h.ends (lot := lot) (by rw [lo.len]; exact h.w.2)
  unfold cornerR at e
  cases e1 : solvedR (lotRows (sheetZ rows wide) lot) (wholeZ (endsR rights wide) lot) with
  | none => rw [e1] at e; cases e
  | some xs =>
    rw [e1] at e
    cases e
    obtain ⟨g1, g2⟩ := solved_sz (h.lotEq lo) e1
    refine ⟨by rw [List.length_map]; exact g1, fun q hq => ?_⟩
    obtain ⟨x, hx, rfl⟩ := List.mem_map.mp hq
    have b1 : Bq 43 (Rat.divInt 1 (lowZ (endsR rights wide) lot)) := bq_divInt (by omega) (show (1 : Int).natAbs < 2 ^ 43 by decide) hl.2
    exact ((g2 x hx).mul b1).mono (by decide)
theorem corners_take {sheet : List (List Int)} {ends : List Rat} {lots : List (List Int)} {i : Nat} {lot : List Int} (h : lots[i]? = some lot) :
    (lots.take (i + 1)).foldl (cornStep sheet ends) [] = cornStep sheet ends ((lots.take i).foldl (cornStep sheet ends) []) lot := by
  rw [List.take_add_one, h, List.foldl_append]
  rfl
theorem fold_inv {α β : Type} {f : β → α → β} {Q : β → Prop} {xs : List α} (h : ∀ b, ∀ x ∈ xs, Q b → Q (f b x)) : ∀ (b : β), Q b → Q (xs.foldl f b) := by
  induction xs with
  | nil => exact fun b hb => hb
  | cons x xs ih => exact fun b hb => ih (fun b y hy => h b y (by simp [hy])) _ (h b x (by simp) hb)
theorem cornStep_mem {sheet : List (List Int)} {ends : List Rat} {found : List (List Rat)} {lot : List Int} {qs : List Rat} (h : qs ∈ cornStep sheet ends found lot) : qs ∈ found ∨ (cornerR sheet ends lot = some qs ∧ okC sheet ends qs) := by
  unfold cornStep at h
  cases e : cornerR sheet ends lot with
  | none => rw [e] at h; exact .inl h
  | some xs =>
    rw [e] at h
    have h : qs ∈ (if okC sheet ends xs ∧ xs ∉ found then found ++ [xs] else found) := h
    split at h
    · rename_i hc
      rcases List.mem_append.mp h with h | h
      · exact .inl h
      · have e2 := List.mem_singleton.mp h
        subst e2
        exact .inr ⟨rfl, hc.1⟩
    · exact .inl h
theorem corners_sz {rows : List (List Int)} {rights : List Rat} {wide : Nat} (h : CnOk rows rights wide) : ∀ qs ∈ cornersR rows rights wide, qs.length = wide ∧ ∀ q ∈ qs, Bq 700 q := by
  unfold cornersR
  refine fold_inv (Q := fun found : List (List Rat) => ∀ qs ∈ found, qs.length = wide ∧ ∀ q ∈ qs, Bq 700 q) (fun found lot hlot ih qs hq => ?_) [] (fun _ z => nomatch z)
  rcases cornStep_mem hq with hq | ⟨hq, _⟩
  · exact ih qs hq
  · exact corner_bq h (lots_ok (by omega) wide lot hlot) hq
theorem take_len {found : List (List Rat)} {sheet : List (List Int)} {ends : List Rat} {lot : List Int} : (cornStep sheet ends found lot).length ≤ found.length + 1 := by
  unfold cornStep
  split
  · omega
  · split
    · rw [List.length_append]; exact Nat.le_refl _
    · omega
theorem fold_len {sheet : List (List Int)} {ends : List Rat} : ∀ (lots : List (List Int)) (found : List (List Rat)), (lots.foldl (cornStep sheet ends) found).length ≤ found.length + lots.length
  | [], found => by simp
  | l :: lots, found => by
    have h1 := fold_len (sheet := sheet) (ends := ends) lots (cornStep sheet ends found l)
    have h2 := take_len (sheet := sheet) (ends := ends) (found := found) (lot := l)
    rw [List.foldl_cons, List.length_cons]
    omega

theorem flat_rep {α : Type} (x : α) : ∀ n : Nat, (List.replicate n [x]).flatten = List.replicate n x
  | 0 => rfl
  | n + 1 => by rw [List.replicate_succ, List.replicate_succ, List.flatten_cons, flat_rep x n]; rfl
/-- the sheet as data -/
def sheetD (b : Bool) (rows : List (List Int)) (wide : Nat) : List PyData := rows.map (seqd b) ++ (unitsZ wide).map (seqd false)
theorem sheetD_len (b : Bool) (rows : List (List Int)) (wide : Nat) : (sheetD b rows wide).length = (sheetZ rows wide).length := by
  unfold sheetD sheetZ
  rw [List.length_append, List.length_append, List.length_map, List.length_map]
def bAt (b : Bool) (rows : List (List Int)) (k : Int) : Bool := if k.toNat < rows.length then b else false
theorem sheetD_at {b : Bool} {rows : List (List Int)} {wide k : Nat} (h : k < (sheetZ rows wide).length) : (sheetD b rows wide)[k]? = some (seqd (bAt b rows (k : Int)) ((sheetZ rows wide).getD k [])) := by
  have g := getD_at (z := ([] : List Int)) h
  unfold sheetD
  unfold sheetZ at g ⊢
  unfold bAt
  rw [Int.toNat_natCast]
  by_cases hk : k < rows.length
  · rw [List.getElem?_append_left hk] at g
    rw [List.getElem?_append_left (by rw [List.length_map]; exact hk), List.getElem?_map, if_pos hk, g]
    rfl
  · rw [List.getElem?_append_right (by omega)] at g
    rw [List.getElem?_append_right (by rw [List.length_map]; omega), List.length_map, List.getElem?_map, if_neg hk, g]
    rfl
theorem seqS_seqd (b : Bool) (l : List Int) : SeqS (.im (seqd b l)) (iD l) := by
  cases b
  · exact seq_l
  · exact seq_t
def pLateC (sheet : List (List Int)) (ends qs : List Rat) : PyData → Bool
  | .int k => decide (innerR (sheet.getD k.toNat []) qs < ends.getD k.toNat 0)
  | _ => false
theorem late_ok (sheet : List (List Int)) (ends qs : List Rat) : (rngD 0 sheet.length).all (fun d => !pLateC sheet ends qs d) = decide (okC sheet ends qs) := by
  rw [Bool.eq_iff_iff, List.all_eq_true, decide_eq_true_iff]
  have at_ : ∀ i : Nat, (!pLateC sheet ends qs (.int (0 + (i : Int)))) = decide (ends.getD i 0 ≤ innerR (sheet.getD i []) qs) := by
    intro i
    show (!decide (innerR (sheet.getD (0 + (i : Int)).toNat []) qs < ends.getD (0 + (i : Int)).toNat 0)) = _
    rw [show (0 + (i : Int)).toNat = i by omega]
    by_cases h : ends.getD i 0 ≤ innerR (sheet.getD i []) qs
    · rw [decide_eq_true h, decide_eq_false (Rat.not_lt.mpr h)]; rfl
    · rw [decide_eq_false h, decide_eq_true (Rat.not_le.mp h)]; rfl
  constructor
  · intro h k hk
    have hm : PyData.int (0 + (k : Int)) ∈ rngD 0 sheet.length := List.mem_map.mpr ⟨k, hk, rfl⟩
    have := h _ hm
    rw [at_] at this
    exact of_decide_eq_true this
  · intro h d hd
    obtain ⟨i, hi⟩ := List.mem_iff_getElem?.mp hd
    obtain ⟨hil, rfl⟩ := rngD_get hi
    rw [at_]
    exact decide_eq_true (h i (List.mem_range.mpr hil))
section
variable {P : Program} {w : World} {K : PySem.W.Frag} {mg : Str → Option Value} {base : Heap}
abbrev foundM (S : Addr) (cs : List (List Rat)) : Mu := [(S, .lst (ims (dCs cs)))]
def pre_law_corners : PreT := fun ss μ O => ∃ (b : Bool) (rows : List (List Int)) (rights : List Rat) (wide : Nat), ss = [Ls (rows.map (seqd b)), Ls (dQs rights), I (wide : Int)] ∧ μ = [] ∧ CnOk rows rights wide ∧ O = Is (Ls (dCs (cornersR rows rights wide))) []
theorem ok_law_corners (T : Txt K mg) : FnOk P w K mg base CX0 (4 + 1) T.d_law_corners.f T.d_law_corners.fd P_law_corners (SpW K pre_law_corners) := by
  refine T.d_law_corners.F.ok sc_law_corners (sp_len fun ss μ O ⟨a, b, c, d, e, _⟩ => by rw [e]; rfl) (fun cdv A outer s H vs Q E hr h => ?_)
  refine ⟨_, (pss_cons (ps_set (i := 3) sc_law_corners.nd rfl (.inr rfl) (pe_op (k_add (K := K) rfl) (pe_callTy (k_list (K := K) rfl) (by rfl) T.b_list (by decide +kernel) (pa_cons (pv 0) pa_nil)) (pe_lc (own := [("_law_at_here", 8)]) rfl sc_law_corners.nd (pi_range1 (by rfl) T.b_range (pa_cons (pv 2) pa_nil)) (blkOk_by (N := N_law_corners) (sc := defScope s_law_corners) (by decide +kernel)) (fun _ _ _ _ _ => (pg_name (i := 8) sc_law_corners.nd rfl (.inr rfl) (.inl rfl))) (fun _ _ _ _ _ => pts_nil) (fun _ _ _ _ _ => (pe_lc (own := [("_law_spot", 12)]) rfl sc_law_corners.nd (pi_range1 (by rfl) T.b_range (pa_cons (pv 2) pa_nil)) (blkOk_by (N := N_law_corners) (sc := relS _ (defScope s_law_corners)) (by decide +kernel)) (fun _ _ _ _ _ => (pg_name (i := 12) sc_law_corners.nd rfl (.inl rfl) (.inr rfl))) (fun _ _ _ _ _ => pts_nil) (fun _ _ _ _ _ => (pe_ifExp (pt_cmpR (k_eqD (K := K) hr.units rfl) (pv 12) (pv 8) (nomark _)) pe_int pe_int)))))) (hf := .inl rfl))
    (pss_cons (ps_asg (pe_tup (pa_cons (pe_op (k_add (K := K) rfl) (pe_callTy (k_list (K := K) rfl) (by rfl) T.b_list (by decide +kernel) (pa_cons (pv 1) pa_nil)) (pe_op op_mulA (pe_lst (pa_cons (pe_tup (pa_cons pe_int (pa_cons pe_int pa_nil))) pa_nil)) (pv 2))) (pa_cons (pe_lst pa_nil) pa_nil))) (k_gtup (K := K) (n := 2) rfl rfl (pgs_cons (pg_name (i := 5) sc_law_corners.nd rfl (.inr rfl) (.inl rfl)) (pgs_cons (pg_name (i := 6) sc_law_corners.nd rfl (.inl rfl) (.inr rfl)) pgs_nil))))
    (pss_cons (ps_for PassesOwn.never rfl (k_piL (K := K) rfl (pe_call (ok_law_lots T) (hr.mono (by decide)) (by rfl) T.m_law_lots T.d_law_lots.F.kp T.d_law_lots.b .nil pass0 (pa_cons (pe_callB (k_len (K := K) rfl) (by rfl) T.b_len (by decide +kernel) (pa_cons (pv 3) pa_nil)) (pa_cons (pv 2) pa_nil)))) (pg_name (i := 4) sc_law_corners.nd rfl (.inl rfl) (.inr rfl))
      (pss_cons (ps_set (i := 7) sc_law_corners.nd rfl (.inr rfl) pe_int (hf := .inl rfl))
      (pss_cons (ps_for PassesOwn.never rfl (k_piT (K := K) rfl (pv 4)) (pg_name (i := 8) sc_law_corners.nd rfl (.inl rfl) (.inr rfl))
        (pss_one (ps_set (i := 7) sc_law_corners.nd rfl (.inr rfl) (pe_op op_mulA (pv 7) (pe_ix (k_ix (K := K) rfl) (pe_ix (k_ix (K := K) rfl) (pv 5) (pv 8) (fun _ _ => rfl)) pe_int (fun _ _ => rfl))) (hf := .inl rfl))))
      (pss_cons (ps_setLc (i := 9) (own := [("_law_at_here", 8)]) rfl sc_law_corners.nd rfl rfl (sw_true rfl rfl rfl (by decide +kernel)) (k_piT (K := K) rfl (pv 4)) (blkOk_by (N := N_law_corners) (sc := defScope s_law_corners) (by decide +kernel)) (fun _ _ _ _ _ => (pg_name (i := 8) sc_law_corners.nd rfl (.inl rfl) (.inr rfl))) (fun _ _ _ _ _ => pts_nil) (fun _ _ _ _ _ => (pe_op op_mulA (pe_ix (k_ix (K := K) rfl) (pe_ix (k_ix (K := K) rfl) (pv 5) (pv 8) (fun _ _ => rfl)) pe_int (fun _ _ => rfl)) (pe_op op_divA (pv 7) (pe_ix (k_ix (K := K) rfl) (pe_ix (k_ix (K := K) rfl) (pv 5) (pv 8) (fun _ _ => rfl)) pe_int (fun _ _ => rfl))))))
      (pss_cons (ps_set (i := 10) sc_law_corners.nd rfl (.inr rfl) (pe_call (ok_law_solved T) (hr.mono (by decide)) (by rfl) T.m_law_solved T.d_law_solved.F.kp T.d_law_solved.b .nil pass0 (pa_cons (pe_lc (own := [("_law_at_here", 8)]) rfl sc_law_corners.nd (k_piT (K := K) rfl (pv 4)) (blkOk_by (N := N_law_corners) (sc := defScope s_law_corners) (by decide +kernel)) (fun _ _ _ _ _ => (pg_name (i := 8) sc_law_corners.nd rfl (.inl rfl) (.inr rfl))) (fun _ _ _ _ _ => pts_nil) (fun _ _ _ _ _ => (pe_ix (k_ix (K := K) rfl) (pv 3) (pv 8) (fun _ _ => rfl)))) (pa_cons (pv 9) pa_nil))) (hf := .inl rfl))
      (pss_one (ps_if (pt_cmpR op_notNn (pv 10) pe_non (nomark _))
        (pss_cons (ps_set (i := 10) sc_law_corners.nd rfl (.inr rfl) (pe_lc (own := [("_law_one", 13)]) rfl sc_law_corners.nd (k_piL (K := K) rfl (pv 10)) (blkOk_by (N := N_law_corners) (sc := defScope s_law_corners) (by decide +kernel)) (fun _ _ _ _ _ => (pg_name (i := 13) sc_law_corners.nd rfl (.inl rfl) (.inr rfl))) (fun _ _ _ _ _ => pts_nil) (fun _ _ _ _ _ => (pe_call (ok_law_times T) (hr.mono (by decide)) (by rfl) T.m_law_times T.d_law_times.F.kp T.d_law_times.b .nil pass0 (pa_cons (pv 13) (pa_cons (pe_tup (pa_cons pe_int (pa_cons (pv 7) pa_nil))) pa_nil))))) (hf := .inl rfl))
        (pss_cons (ps_setLc (i := 11) (own := [("_law_at_here", 8)]) rfl sc_law_corners.nd rfl rfl (sw_true rfl rfl rfl (by decide +kernel)) (pi_range1 (by rfl) T.b_range (pa_cons (pe_callB (k_len (K := K) rfl) (by rfl) T.b_len (by decide +kernel) (pa_cons (pv 3) pa_nil)) pa_nil)) (blkOk_by (N := N_law_corners) (sc := defScope s_law_corners) (by decide +kernel)) (fun _ _ _ _ _ => (pg_name (i := 8) sc_law_corners.nd rfl (.inl rfl) (.inr rfl))) (fun _ _ _ _ _ => (pts_one (pt_val (pe_call (ok_law_below T) (hr.mono (by decide)) (by rfl) T.m_law_below T.d_law_below.F.kp T.d_law_below.b .nil pass0 (pa_cons (pe_call (ok_law_inner T) (hr.mono (by decide)) (by rfl) T.m_law_inner T.d_law_inner.F.kp T.d_law_inner.b .nil pass0 (pa_cons (pe_ix (k_ix (K := K) rfl) (pv 3) (pv 8) (fun _ _ => rfl)) (pa_cons (pv 10) pa_nil))) (pa_cons (pe_ix (k_ix (K := K) rfl) (pv 5) (pv 8) (fun _ _ => rfl)) pa_nil)))))) (fun _ _ _ _ _ => (pv 8)))
        (pss_one (ps_if (PW.pt (pw_and (pt_cmpR (k_eqD (K := K) hr.units rfl) (pv 11) (pe_lst pa_nil) (nomark _)) (pw_and1 (pt_cmpR (k_notInD (K := K) hr.units65 rfl) (pv 10) (pv 6) (by rfl)))))
          (pss_one (ps_expr (pe_bm PySem.F.plainAttrs_list PySem.F.slot_list_append PySem.F.type_list_append mt_append (pv 6) (pa_cons (pv 10) pa_nil))))
          pss_nil))))
        pss_nil)))))))
    (pss_one (ps_ret (pv 6)))))), ?_⟩
  refine fin h fun ss μ O ⟨b, rows, rights, wide, e1, e2, ok, e3⟩ => ?_
  subst e1 e2 e3
  have hw := ok.w
  have hh := ok.h
  have hsl := sheetZ_len rows wide
  have hel := endsR_len rights wide
  have hrr := ok.rr
  have hend := ok.ends
  have hsheet : ∀ k, k < (sheetZ rows wide).length → ((sheetZ rows wide).getD k []).length = wide ∧ ∀ z ∈ (sheetZ rows wide).getD k [], Bi 2 z := fun k hk => ok.sheet hk
  -- the sheet
  refine q_set (s := Ls (sheetD b rows wide)) (μ1 := []) (ev_op (ev_cb (ea_cons (ev_varI rfl) ea_nil) rc_listL) (ev_map (ix := [8]) (ds := rngD 0 wide) (es := (unitsZ wide).map (seqd false)) ?_ glin_nil (by rw [rngD_len]; omega) (fun j h => h) (by rw [List.length_map, unitsZ_len, rngD_len]) fun k d e hd he => ?_) (rv_cat (by rw [List.length_map, List.length_map, unitsZ_len]; omega))) ?_
  · have key := ei_rng1 (K := K) (δ := [Ls (rows.map (seqd b)), Ls (dQs rights), I (wide : Int), .un, .un, .un, .un, .un, .un, .un, .un, .un, .un, .un]) (μ := []) (tr := tCons (tVar 2) tNil) (ea_cons (ev_varI rfl) ea_nil) (by omega) (by omega)
    rw [Int.toNat_natCast] at key
    exact key
  · obtain ⟨hk, rfl⟩ := rngD_get hd
    have zk : (0 : Int) + (k : Int) = (k : Int) := Int.zero_add _
    rw [zk]
    have ee : e = .list (iD (unitZ wide k)) := by
      unfold unitsZ at he
      rw [List.getElem?_map, List.getElem?_map, List.getElem?_range hk] at he
      cases he
      rfl
    rw [ee]
    refine ⟨_, bnd_name, ev_map (ix := [12]) (ds := rngD 0 wide) ?_ glin_nil (by rw [rngD_len]; omega) (fun j h => h) (by rw [rngD_len, iD_len, unitZ_len]) fun i d e hd he => ?_⟩
    · have key := ei_rng1 (K := K) (δ := [Ls (rows.map (seqd b)), Ls (dQs rights), I (wide : Int), .un, .un, .un, .un, .un, I (k : Int), .un, .un, .un, .un, .un]) (μ := []) (tr := tCons (tVar 2) tNil) (ea_cons (ev_varI rfl) ea_nil) (by omega) (by omega)
      rw [Int.toNat_natCast] at key
      exact key
    · obtain ⟨hi, rfl⟩ := rngD_get hd
      have zi : (0 : Int) + (i : Int) = (i : Int) := Int.zero_add _
      rw [zi]
      have ee : e = .int (if i = k then 1 else 0) := by
        unfold unitZ iD at he
        rw [List.getElem?_map, List.getElem?_map, List.getElem?_range hi] at he
        cases he
        rfl
      rw [ee]
      refine ⟨_, bnd_name, ev_if (et_op (ev_varI rfl) (ev_varI rfl) rv_eqI) (fun hc => ?_) (fun hc => ?_)⟩
      · have := of_decide_eq_true hc
        rw [if_pos (by omega)]
        exact ev_int
      · have := of_decide_eq_false hc
        rw [if_neg (by omega)]
        exact ev_int
  -- the ends, and what is found
  refine q_asgTF (d := .list (dQs (endsR rights wide))) (xs := []) (μ1 := []) (μ2 := []) 5 6 ?_ (ef_lst ea_nil (by simp)) fun S => ?_
  · have key := ev_op (K := K) (δ := [Ls (rows.map (seqd b)), Ls (dQs rights), I (wide : Int), Ls (sheetD b rows wide), .un, .un, .un, .un, .un, .un, .un, .un, .un, .un]) (μ := [])
      (ev_cb (ea_cons (ev_varI (i := 1) rfl) ea_nil) rc_listL) (ev_op (ev_lst (ds := [dQ 0]) (ea_cons (ev_tup (ds := [.int 0, .int 1]) (ea_cons (ev_int (i := 0)) (ea_cons (ev_int (i := 1)) ea_nil)) (by simp)) ea_nil) (by simp)) (ev_varI (i := 2) rfl) (rv_rep (by omega) (by omega) (by simp))) (rv_cat (by rw [dQs_len, Int.toNat_natCast]; simp; omega))
    have e : dQs rights ++ (List.replicate ((wide : Int)).toNat [dQ 0]).flatten = dQs (endsR rights wide) := by
      rw [Int.toNat_natCast]
      unfold endsR dQs
      rw [List.map_append, List.map_replicate]
      rw [flat_rep]
    rw [e] at key
    exact key
  have hlots := lots_ok (many := (((sheetZ rows wide).length : Nat) : Int)) (by omega) wide
  have hll := lots_len (many := (((sheetZ rows wide).length : Nat) : Int)) (by omega) wide
  have h216 := pow6 (many := (((sheetZ rows wide).length : Nat) : Int)) (n := wide) (by omega) (by omega) hw.2
  refine t_seq (M := fun a c => ∃ x4 x7 x8 x9 x10 x11, a = [Ls (rows.map (seqd b)), Ls (dQs rights), I (wide : Int), Ls (sheetD b rows wide), x4, Ls (dQs (endsR rights wide)), .mr S, x7, x8, x9, x10, x11, .un, .un] ∧ c = foundM S (cornersR rows rights wide)) ?_ fun a c ⟨x4, x7, x8, x9, x10, x11, e1, e2⟩ => ?_
  · refine t_for (ix := [4]) (ds := dLots (lotsM (((sheetZ rows wide).length : Nat) : Int) wide)) (μ0 := foundM S []) (ei_list ?_) (fun i a c => ∃ x4 x7 x8 x9 x10 x11, a = [Ls (rows.map (seqd b)), Ls (dQs rights), I (wide : Int), Ls (sheetD b rows wide), x4, Ls (dQs (endsR rights wide)), .mr S, x7, x8, x9, x10, x11, .un, .un] ∧ c = foundM S (((lotsM (((sheetZ rows wide).length : Nat) : Int) wide).take i).foldl (cornStep (sheetZ rows wide) (endsR rights wide)) [])) ⟨.un, .un, .un, .un, .un, .un, rfl, rfl⟩ (fun _ _ _ _ => glin_nil) (fun i d a c hd ⟨x4, x7, x8, x9, x10, x11, e1, e2⟩ => ?_) fun a c ⟨x4, x7, x8, x9, x10, x11, e1, e2⟩ => ?_
    · refine ev_call0 (ea_cons (ev_cb (ea_cons (ev_varI rfl) ea_nil) rc_lenL) (ea_cons (ev_varI rfl) ea_nil)) ⟨(((sheetZ rows wide).length : Nat) : Int), wide, ?_, rfl, by omega, by omega, hw.2, rfl⟩
      rw [sheetD_len]
    · subst e1 e2
      obtain ⟨lot, hlot, rfl⟩ : ∃ l, (lotsM (((sheetZ rows wide).length : Nat) : Int) wide)[i]? = some l ∧ d = .tuple (iD l) := by
        unfold dLots at hd
        rw [List.getElem?_map] at hd
        cases e : (lotsM (((sheetZ rows wide).length : Nat) : Int) wide)[i]? with
        | none => rw [e] at hd; cases hd
        | some l => rw [e] at hd; cases hd; exact ⟨l, rfl, rfl⟩
      have lo := hlots lot (List.mem_of_getElem? hlot)
      have hlen := lo.len
      rw [corners_take hlot]
      generalize hfd : ((lotsM (((sheetZ rows wide).length : Nat) : Int) wide).take i).foldl (cornStep (sheetZ rows wide) (endsR rights wide)) [] = found
      have hfl : found.length ≤ 216 := by
        rw [← hfd]
        have h1 := fold_len (sheet := sheetZ rows wide) (ends := endsR rights wide) ((lotsM (((sheetZ rows wide).length : Nat) : Int) wide).take i) []
        have h2 : ((lotsM (((sheetZ rows wide).length : Nat) : Int) wide).take i).length ≤ (lotsM (((sheetZ rows wide).length : Nat) : Int) wide).length := by rw [List.length_take]; omega
        rw [List.length_nil] at h1
        omega
      generalize hendE : endsR rights wide = ends at *
      generalize hsheetE : sheetZ rows wide = sheet at *
      have hlow := lowZ_ok hend (lot := lot) (by omega)
      have ixn : ∀ z ∈ lot, ∃ k : Nat, z = (k : Int) ∧ k < sheet.length := fun z hz => ⟨z.toNat, by have := lo.rng z hz; omega, by have := lo.rng z hz; omega⟩
      refine ⟨_, bnd_name, ?_⟩
      refine q_set ev_int ?_
      -- the shared low
      refine t_seq (M := fun a c => ∃ x8, a = [Ls (rows.map (seqd b)), Ls (dQs rights), I (wide : Int), Ls (sheetD b rows wide), Tp (iD lot), Ls (dQs ends), .mr S, I (lowZ ends lot), x8, x9, x10, x11, .un, .un] ∧ c = foundM S found) ?_ fun a c ⟨x8, e1, e2⟩ => ?_
      · refine t_for (ix := [8]) (ei_tup (ev_varI rfl)) (fun k a c => ∃ x8, a = [Ls (rows.map (seqd b)), Ls (dQs rights), I (wide : Int), Ls (sheetD b rows wide), Tp (iD lot), Ls (dQs ends), .mr S, I (lowZ ends (lot.take k)), x8, x9, x10, x11, .un, .un] ∧ c = foundM S found) ⟨_, rfl, rfl⟩ (fun _ _ _ _ => glin_nil) (fun k d a c hd ⟨x8, e1, e2⟩ => ?_) fun a c ⟨x8, e1, e2⟩ => ?_
        · subst e1 e2
          obtain ⟨z, hz, rfl⟩ := iD_get hd
          obtain ⟨j, rfl, hj⟩ := ixn z (List.mem_of_getElem? hz)
          have hlo := lowZ_ok hend (lot := lot.take k) (by rw [List.length_take]; omega)
          refine ⟨_, bnd_name, t_set (ev_op (ev_varI rfl) (ev_op (ev_op (ev_varI rfl) (ev_varI rfl) (rv_ixL (at_nat (dQ_getD (by omega))))) ev_int (rv_ixT (ix1 _))) (rv_mul (cmul_of hlo.2 (hend j).dz (by decide) (by decide) (by decide)))) ⟨I (j : Int), ?_, rfl⟩⟩
          have e : lowZ ends (lot.take (k + 1)) = lowZ ends (lot.take k) * ((ends.getD j 0).den : Int) := by
            unfold lowZ
            rw [List.take_add_one, hz, List.foldl_append]
            rfl
          rw [e]
          rfl
        · subst e1 e2
          refine ⟨x8, ?_, rfl⟩
          rw [iD_len, List.take_length]
      · subst e1 e2
        -- the right sides, whole
        refine q_set (s := Ls (iD (wholeZ ends lot))) (ev_map (ix := [8]) (ei_tup (ev_varI rfl)) glin_nil (by rw [iD_len]; omega) (fun j h => h) (by unfold wholeZ; rw [iD_len, iD_len, List.length_map]) fun k d e hd he => ?_) ?_
        · obtain ⟨z, hz, rfl⟩ := iD_get hd
          obtain ⟨j, rfl, hj⟩ := ixn z (List.mem_of_getElem? hz)
          have ee : e = .int ((ends.getD j 0).num * (lowZ ends lot / ((ends.getD j 0).den : Int))) := by
            unfold wholeZ iD at he
            rw [List.getElem?_map, List.getElem?_map, hz] at he
            cases he
            rfl
          rw [ee]
          refine ⟨_, bnd_name, ev_op (ev_op (ev_op (ev_varI rfl) (ev_varI rfl) (rv_ixL (at_nat (dQ_getD (by omega))))) ev_int (rv_ixT (ix0 _))) (ev_op (ev_varI rfl) (ev_op (ev_op (ev_varI rfl) (ev_varI rfl) (rv_ixL (at_nat (dQ_getD (by omega))))) ev_int (rv_ixT (ix1 _))) (rv_div (cdiv_of (Rat.den_pos _) (hend j).d (by decide) (by decide)))) (rv_mul (cmul_of (hend j).n (hlow.2.div (g := (ends.getD j 0).den)) (by decide) (by decide) (by decide)))⟩
        -- the equations' solution
        have heq : EqOk wide (lotRows sheet lot) (wholeZ ends lot) := by
          rw [← hsheetE, ← hendE]
          exact ok.lotEq (by rw [hsheetE]; exact lo)
        have hzip : (List.zipWith seqd (lot.map (bAt b rows)) (lotRows sheet lot)) = lot.map fun k => seqd (bAt b rows k) (sheet.getD k.toNat []) := by
          unfold lotRows
          rw [List.zipWith_map, List.zipWith_self]
        refine q_set (s := .im (resS (solvedR (lotRows sheet lot) (wholeZ ends lot)))) (μ1 := foundM S found) (ev_call0 (μ1 := foundM S found) (ea_cons (μ1 := foundM S found) (s := Ls (List.zipWith seqd (lot.map (bAt b rows)) (lotRows sheet lot))) ?_ (ea_cons (ev_varI rfl) ea_nil)) ⟨wide, lot.map (bAt b rows), lotRows sheet lot, wholeZ ends lot, rfl, rfl, by rw [List.length_map]; exact hlen, heq, rfl⟩) ?_
        · rw [hzip]
          refine ev_map (ix := [8]) (ei_tup (ev_varI rfl)) glin_nil (by rw [iD_len]; omega) (fun j h => h) (by rw [iD_len, List.length_map]) fun k d e hd he => ?_
          obtain ⟨z, hz, rfl⟩ := iD_get hd
          obtain ⟨j, rfl, hj⟩ := ixn z (List.mem_of_getElem? hz)
          have ee : e = seqd (bAt b rows (j : Int)) (sheet.getD j []) := by
            rw [List.getElem?_map, hz] at he
            cases he
            rfl
          rw [ee]
          have hat := sheetD_at (b := b) (rows := rows) (wide := wide) (k := j) (by rw [hsheetE]; exact hj)
          rw [hsheetE] at hat
          exact ⟨_, bnd_name, ev_op (ev_varI rfl) (ev_varI rfl) (rv_ixL (at_nat hat))⟩
        cases hsv : solvedR (lotRows sheet lot) (wholeZ ends lot) with
        | none =>
          have hst : cornStep sheet ends found lot = found := by
            unfold cornStep cornerR
            rw [hsv]
            rfl
          rw [hst]
          exact t_if (b := false) (et_op (ev_varI rfl) ev_non rv_notN) (fun z => nomatch z) fun _ => t_next ⟨_, _, _, _, _, _, rfl, rfl⟩
        | some xs =>
          obtain ⟨xl, xb⟩ := solved_sz heq hsv
          refine t_if (b := true) (et_op (ev_varI rfl) ev_non rv_notN) (fun _ => ?_) (fun z => nomatch z)
          generalize hqs : (xs.map fun q => q * Rat.divInt 1 (lowZ ends lot)) = qs
          have hcr : cornerR sheet ends lot = some qs := by
            unfold cornerR
            rw [hsv, ← hqs]
            rfl
          have hql : qs.length = wide := by rw [← hqs, List.length_map]; exact xl
          have b1 : Bq 43 (Rat.divInt 1 (lowZ ends lot)) := bq_divInt (by omega) (show (1 : Int).natAbs < 2 ^ 43 by decide) hlow.2
          have hqb : ∀ q ∈ qs, Bq 700 q := fun q hq => by
            rw [← hqs] at hq
            obtain ⟨x, hx, rfl⟩ := List.mem_map.mp hq
            exact ((xb x hx).mul b1).mono (by decide)
          refine q_set (s := Ls (dQs qs)) (ev_map (ix := [13]) (ei_list (ds := dQs xs) (ev_varI rfl)) glin_nil (by rw [dQs_len]; omega) (fun j h => h) (by rw [dQs_len, dQs_len, xl, hql]) fun k d e hd he => ?_) ?_
          · obtain ⟨x, hx, rfl⟩ := dQs_get hd
            have ee : e = dQ (x * Rat.divInt 1 (lowZ ends lot)) := by
              unfold dQs at he
              rw [← hqs, List.getElem?_map, List.getElem?_map, hx] at he
              cases he
              rfl
            rw [ee]
            refine ⟨_, bnd_name, ev_call0 (ea_cons (ev_varI rfl) (ea_cons (μ1 := foundM S found) (s := .im (dQ (Rat.divInt 1 (lowZ ends lot)))) ?_ ea_nil)) ⟨_, _, rfl, rfl, (xb x (List.mem_of_getElem? hx)).mono (by decide), b1.mono (by decide), rfl⟩⟩
            rw [inv_num hlow.1]
            exact ev_tup (ds := [.int 1, .int (lowZ ends lot)]) (ea_cons ev_int (ea_cons (ev_varI rfl) ea_nil)) (by simp)
          have hib : ∀ j, j < sheet.length → Bq 3000 (innerR (sheet.getD j []) qs) := fun j hj => by
            obtain ⟨h1, h2⟩ := hsheet j hj
            exact (inner_bq (k := 700) (by omega) (fun n hn => (h2 n hn).mono (by decide)) hqb).mono (by decide)
          refine q_set (s := Ls (((rngD 0 sheet.length).filter (pLateC sheet ends qs)).map id)) (μ1 := foundM S found) (ev_filt (μ0 := foundM S found) (ix := [8]) (ds := rngD 0 sheet.length) (pLateC sheet ends qs) id ?_ glin_nil (by rw [rngD_len]; omega) (fun j h => h) fun k d hd => ?_) ?_
          · have key := ei_rng1 (K := K) (δ := [Ls (rows.map (seqd b)), Ls (dQs rights), I (wide : Int), Ls (sheetD b rows wide), Tp (iD lot), Ls (dQs ends), .mr S, I (lowZ ends lot), x8, Ls (iD (wholeZ ends lot)), Ls (dQs qs), x11, .un, .un]) (μ := foundM S found) (tr := tCons (tCB (rLenQ K) (tCons (tVar 3) tNil)) tNil) (ea_cons (ev_cb (ea_cons (ev_varI rfl) ea_nil) rc_lenL) ea_nil) (by omega) (by rw [sheetD_len, hsheetE]; omega)
            rw [Int.toNat_natCast, sheetD_len, hsheetE] at key
            exact key
          · obtain ⟨hk, rfl⟩ := rngD_get hd
            have zk : (0 : Int) + (k : Int) = (k : Int) := Int.zero_add _
            rw [zk]
            have ep : pLateC sheet ends qs (.int (k : Int)) = decide (innerR (sheet.getD k []) qs < ends.getD k 0) := by
              show decide (innerR (sheet.getD ((k : Int)).toNat []) qs < ends.getD ((k : Int)).toNat 0) = _
              rw [Int.toNat_natCast]
            rw [ep]
            obtain ⟨h1, h2⟩ := hsheet k hk
            have hat := sheetD_at (b := b) (rows := rows) (wide := wide) (k := k) (by rw [hsheetE]; exact hk)
            rw [hsheetE] at hat
            refine ⟨_, bnd_name, et_val (ev_call0 (ea_cons (ev_call0 (ea_cons (ev_op (ev_varI rfl) (ev_varI rfl) (rv_ixL (at_nat hat))) (ea_cons (ev_varI rfl) ea_nil))
              ⟨sheet.getD k [], qs, _, _, rfl, seqS_seqd _ _, seq_l, rfl, by omega, by omega, fun n hn => (h2 n hn).mono (by decide), hqb, rfl⟩) (ea_cons (ev_op (ev_varI rfl) (ev_varI rfl) (rv_ixL (at_nat (dQ_getD (by omega))))) ea_nil)) ⟨_, _, rfl, rfl, (hib k hk).mono (by decide), (hend k).mono (by decide), rfl⟩), fun _ => ev_varI rfl⟩
          have hlate : PyData.eqv (.list (((rngD 0 sheet.length).filter (pLateC sheet ends qs)).map id)) (.list []) = decide (okC sheet ends qs) := by
            rw [eqv_nil, filt_empty, late_ok]
          have hshl : SeqAt.shaped (.list (((rngD 0 sheet.length).filter (pLateC sheet ends qs)).map id)) = true := shaped_list fun d hd => by
            obtain ⟨x, hx, rfl⟩ := List.mem_map.mp hd
            obtain ⟨k, hk⟩ := List.mem_iff_getElem?.mp (List.mem_filter.mp hx).1
            obtain ⟨_, rfl⟩ := rngD_get hk
            exact ⟨rfl, dep_int _⟩
          refine t_if (b := decide (okC sheet ends qs) && !decide (qs ∈ found)) (et_and (et_op (ev_varI rfl) (ev_lst (ds := []) ea_nil (by simp)) ?_) fun _ => et_op (ev_varI rfl) (ev_varM rfl) ?_) (fun hc => ?_) (fun hc => ?_)
          · have := rv_eq (K := K) (μ := foundM S found) hshl (show SeqAt.shaped (.list []) = true by decide +kernel)
            rw [hlate] at this
            exact this
          · have := rv_notInM (K := K) (μ := foundM S found) (a := S) (d := .list (dQs qs)) (ds := dCs found) 0 rfl (shaped_dQs qs) (shaped_dCs found)
            rw [any_dCs] at this
            exact this
          · have hcc : okC sheet ends qs ∧ qs ∉ found := by
              rw [Bool.and_eq_true] at hc
              refine ⟨of_decide_eq_true hc.1, fun z => ?_⟩
              rw [decide_eq_true z] at hc
              exact absurd hc.2 (by decide)
            have hst : cornStep sheet ends found lot = found ++ [qs] := by
              unfold cornStep
              rw [hcr]
              show (if okC sheet ends qs ∧ qs ∉ found then found ++ [qs] else found) = _
              rw [if_pos hcc]
            rw [hst]
            refine t_app 0 (ev_varM rfl) (ev_varI rfl) ⟨0, _, rfl⟩ rfl (by unfold ims dCs; rw [List.length_map, List.length_map]; omega) ⟨_, _, _, _, _, _, rfl, ?_⟩
            show [(S, MO.lst (ims (dCs found) ++ [Ls (dQs qs)]))] = foundM S (found ++ [qs])
            unfold foundM ims dCs
            rw [List.map_append, List.map_append]
            rfl
          · have hcc : ¬ (okC sheet ends qs ∧ qs ∉ found) := fun z => by
              rw [decide_eq_true z.1, decide_eq_false z.2] at hc
              cases hc
            have hst : cornStep sheet ends found lot = found := by
              unfold cornStep
              rw [hcr]
              show (if okC sheet ends qs ∧ qs ∉ found then found ++ [qs] else found) = _
              rw [if_neg hcc]
            rw [hst]
            exact t_next ⟨_, _, _, _, _, _, rfl, rfl⟩
    · subst e1 e2
      refine ⟨x4, x7, x8, x9, x10, x11, rfl, ?_⟩
      have e : (dLots (lotsM (((sheetZ rows wide).length : Nat) : Int) wide)).length = (lotsM (((sheetZ rows wide).length : Nat) : Int) wide).length := List.length_map ..
      rw [e, List.take_length]
      rfl
  · subst e1 e2
    exact t_ret (ev_freeze 0 (ev_varM rfl) rfl) ⟨rfl, List.nil_sublist _⟩
end
end WM

set_option Elab.async false
set_option linter.all false
set_option maxRecDepth 100000
set_option maxHeartbeats 2000000
namespace WM
open PySem PySem.Spec PyProof.Rows L2 StX

/-! ### the law's best -/
inductive Due where
  | none | endless | worth (q : Rat)
def dDue : Due → PyData
  | .none => .str "none"
  | .endless => .str "endless"
  | .worth q => dQ q
def plansR (t : Tk) (p : Pl) : List (List Rat) := cornersR (t.rows.map (·.nums)) (rightsR t p) t.costs.length
def turnedZ (t : Tk) : List (List Int) := (List.range t.costs.length).map fun j => t.rows.map fun r => 0 - r.nums.getD j 0
def costEnds (t : Tk) : List Rat := t.costs.map fun c : Int => ((0 - c : Int) : Rat)
def papersR (t : Tk) : List (List Rat) := cornersR (turnedZ t) (costEnds t) t.rows.length
def minR (ws : List Rat) : Rat := ws.foldl (fun f w => if w < f then w else f) (ws.getD 0 0)
def bestR (t : Tk) (p : Pl) : Due :=
  if plansR t p = [] then .none else if papersR t = [] then .endless else .worth (minR ((plansR t p).map (innerR t.costs)))
theorem rights_bq14 {t : Tk} {p : Pl} (ht : TkOk t) (hp : PlOk p) : ∀ q ∈ rightsR t p, Bq 14 q := fun q hq => by
  obtain ⟨r, hr, rfl⟩ := List.mem_map.mp hq
  have h := ht.rows r hr
  have b2 : ∀ z : Int, -3 ≤ z ∧ z ≤ 3 → Bq 2 (z : Rat) := fun z h => Bq.ofInt (show z.natAbs < 2 ^ 2 by omega) (by decide)
  have he := h.east
  have hn := h.north
  exact (((b2 r.east (by omega)).mul hp.e).add ((b2 r.north (by omega)).mul hp.n)).add (b2 r.right h.right) |>.mono (by decide)
theorem TkOk.plans {t : Tk} {p : Pl} (ht : TkOk t) (hp : PlOk p) : CnOk (t.rows.map (·.nums)) (rightsR t p) t.costs.length := by
  refine ⟨ht.wide, by rw [List.length_map]; exact ht.high, fun r hr => ?_, by rw [List.length_map]; exact rightsR_len t p, rights_bq14 ht hp⟩
  obtain ⟨x, hx, rfl⟩ := List.mem_map.mp hr
  have ho := ht.rows x hx
  refine ⟨ho.len, fun z hz => ?_⟩
  have := ho.nums z hz
  show z.natAbs < 2 ^ 2
  omega
theorem turned_len (t : Tk) : (turnedZ t).length = t.costs.length := by unfold turnedZ; simp
theorem TkOk.papers {t : Tk} (ht : TkOk t) : CnOk (turnedZ t) (costEnds t) t.rows.length := by
  refine ⟨ht.high, by rw [turned_len]; exact ht.wide, fun r hr => ?_, by rw [turned_len]; unfold costEnds; rw [List.length_map], fun q hq => ?_⟩
  · unfold turnedZ at hr
    obtain ⟨j, _, rfl⟩ := List.mem_map.mp hr
    refine ⟨by rw [List.length_map], fun z hz => ?_⟩
    obtain ⟨x, hx, rfl⟩ := List.mem_map.mp hz
    have := (ht.rows x hx).get8 j
    show (0 - x.nums.getD j 0).natAbs < 2 ^ 2
    omega
  · unfold costEnds at hq
    obtain ⟨c, hc, rfl⟩ := List.mem_map.mp hq
    have := ht.costs c hc
    exact Bq.ofInt (show (0 - c).natAbs < 2 ^ 14 by omega) (by decide)
theorem eqv_dCs_nil (cs : List (List Rat)) : PyData.eqv (.list (dCs cs)) (.list []) = decide (cs = []) := by
  rw [eqv_nil]
  cases cs with
  | nil => rfl
  | cons c cs => rfl
theorem min_take {ws : List Rat} {i : Nat} {x f0 : Rat} (h : ws[i]? = some x) : (ws.take (i + 1)).foldl (fun f w => if w < f then w else f) f0 = (if x < (ws.take i).foldl (fun f w => if w < f then w else f) f0 then x else (ws.take i).foldl (fun f w => if w < f then w else f) f0) := by
  rw [List.take_add_one, h, List.foldl_append]
  rfl
section
variable {P : Program} {w : World} {K : PySem.W.Frag} {mg : Str → Option Value} {base : Heap}
def pre_law_best : PreT := fun ss μ O => ∃ t p, ss = [.im (dTask t), .im (dPl p)] ∧ μ = [] ∧ TkOk t ∧ PlOk p ∧ O = Is (.im (dDue (bestR t p))) []
theorem ok_law_best (T : Txt K mg) : FnOk P w K mg base CX0 (5 + 1) T.d_law_best.f T.d_law_best.fd P_law_best (SpW K pre_law_best) := by
  refine T.d_law_best.F.ok sc_law_best (sp_len fun ss μ O ⟨a, b, e, _⟩ => by rw [e]; rfl) (fun cdv A outer s H vs Q E hr h => ?_)
  refine ⟨_, (pss_cons (ps_par (i := 9) (j := 10) rfl sc_law_best.nd rfl rfl (by decide) rfl rfl (pa_cons (pe_callB (k_len (K := K) rfl) (by rfl) T.b_len (by decide +kernel) (pa_cons (pe_ix (k_ix (K := K) rfl) (pv 0) pe_int (fun _ _ => rfl)) pa_nil)) (pa_cons (pe_callB (k_len (K := K) rfl) (by rfl) T.b_len (by decide +kernel) (pa_cons (pe_ix (k_ix (K := K) rfl) (pv 0) pe_int (fun _ _ => rfl)) pa_nil)) pa_nil)) (by rfl))
    (pss_cons (ps_set (i := 2) sc_law_best.nd rfl (.inl rfl) (pe_call (ok_law_rights T) (hr.mono (by decide)) (by rfl) T.m_law_rights T.d_law_rights.F.kp T.d_law_rights.b .nil pass0 (pa_cons (pv 0) (pa_cons (pv 1) pa_nil))) (hf := .inr rfl))
    (pss_cons (ps_set (i := 3) sc_law_best.nd rfl (.inl rfl) (pe_call (ok_law_corners T) (hr.mono (by decide)) (by rfl) T.m_law_corners T.d_law_corners.F.kp T.d_law_corners.b .nil pass0 (pa_cons (pe_lc (own := [("_law_one", 8)]) rfl sc_law_best.nd (k_piT (K := K) rfl (pe_ix (k_ix (K := K) rfl) (pv 0) pe_int (fun _ _ => rfl))) (blkOk_by (N := N_law_best) (sc := defScope s_law_best) (by decide +kernel)) (fun _ _ _ _ _ => (pg_name (i := 8) sc_law_best.nd rfl (.inl rfl) (.inr rfl))) (fun _ _ _ _ _ => pts_nil) (fun _ _ _ _ _ => (pe_ix (k_ix (K := K) rfl) (pv 8) pe_int (fun _ _ => rfl)))) (pa_cons (pv 2) (pa_cons (pv 9) pa_nil)))) (hf := .inr rfl))
    (pss_cons (ps_if (pt_cmpR (k_eqD (K := K) hr.units rfl) (pv 3) (pe_lst pa_nil) (nomark _))
      (pss_one (ps_ret pe_str))
      pss_nil)
    (pss_cons (ps_setLc (i := 4) (own := [("_law_at_here", 11)]) rfl sc_law_best.nd rfl rfl (sw_true rfl rfl rfl (by decide +kernel)) (pi_range1 (by rfl) T.b_range (pa_cons (pv 9) pa_nil)) (blkOk_by (N := N_law_best) (sc := defScope s_law_best) (by decide +kernel)) (fun _ _ _ _ _ => (pg_name (i := 11) sc_law_best.nd rfl (.inr rfl) (.inl rfl))) (fun _ _ _ _ _ => pts_nil) (fun _ _ _ _ _ => (pe_lc (own := [("_law_one", 8)]) rfl sc_law_best.nd (k_piT (K := K) rfl (pe_ix (k_ix (K := K) rfl) (pv 0) pe_int (fun _ _ => rfl))) (blkOk_by (N := N_law_best) (sc := relS _ (defScope s_law_best)) (by decide +kernel)) (fun _ _ _ _ _ => (pg_name (i := 8) sc_law_best.nd rfl (.inl rfl) (.inr rfl))) (fun _ _ _ _ _ => pts_nil) (fun _ _ _ _ _ => (pe_op op_sub pe_int (pe_ix (k_ix (K := K) rfl) (pe_ix (k_ix (K := K) rfl) (pv 8) pe_int (fun _ _ => rfl)) (pv 11) (fun _ _ => rfl)))))))
    (pss_cons (ps_set (i := 5) sc_law_best.nd rfl (.inl rfl) (pe_call (ok_law_corners T) (hr.mono (by decide)) (by rfl) T.m_law_corners T.d_law_corners.F.kp T.d_law_corners.b .nil pass0 (pa_cons (pv 4) (pa_cons (pe_lc (own := [("_law_cost", 13)]) rfl sc_law_best.nd (k_piT (K := K) rfl (pe_ix (k_ix (K := K) rfl) (pv 0) pe_int (fun _ _ => rfl))) (blkOk_by (N := N_law_best) (sc := defScope s_law_best) (by decide +kernel)) (fun _ _ _ _ _ => (pg_name (i := 13) sc_law_best.nd rfl (.inl rfl) (.inr rfl))) (fun _ _ _ _ _ => pts_nil) (fun _ _ _ _ _ => (pe_tup (pa_cons (pe_op op_sub pe_int (pv 13)) (pa_cons pe_int pa_nil))))) (pa_cons (pv 10) pa_nil)))) (hf := .inr rfl))
    (pss_cons (ps_if (pt_cmpR (k_eqD (K := K) hr.units rfl) (pv 5) (pe_lst pa_nil) (nomark _))
      (pss_one (ps_ret pe_str))
      pss_nil)
    (pss_cons (ps_setLc (i := 6) (own := [("_law_plan", 12)]) rfl sc_law_best.nd rfl rfl (sw_true rfl rfl rfl (by decide +kernel)) (k_piL (K := K) rfl (pv 3)) (blkOk_by (N := N_law_best) (sc := defScope s_law_best) (by decide +kernel)) (fun _ _ _ _ _ => (pg_name (i := 12) sc_law_best.nd rfl (.inl rfl) (.inr rfl))) (fun _ _ _ _ _ => pts_nil) (fun _ _ _ _ _ => (pe_call (ok_law_inner T) (hr.mono (by decide)) (by rfl) T.m_law_inner T.d_law_inner.F.kp T.d_law_inner.b .nil pass0 (pa_cons (pe_ix (k_ix (K := K) rfl) (pv 0) pe_int (fun _ _ => rfl)) (pa_cons (pv 12) pa_nil)))))
    (pss_cons (ps_set (i := 7) sc_law_best.nd rfl (.inl rfl) (pe_ix (k_ix (K := K) rfl) (pv 6) pe_int (fun _ _ => rfl)) (hf := .inr rfl))
    (pss_cons (ps_for PassesOwn.never rfl (k_piL (K := K) rfl (pv 6)) (pg_name (i := 8) sc_law_best.nd rfl (.inl rfl) (.inr rfl))
      (pss_one (ps_set (i := 7) sc_law_best.nd rfl (.inl rfl) (pe_ifExp (pt_val (pe_call (ok_law_below T) (hr.mono (by decide)) (by rfl) T.m_law_below T.d_law_below.F.kp T.d_law_below.b .nil pass0 (pa_cons (pv 8) (pa_cons (pv 7) pa_nil)))) (pv 8) (pv 7)) (hf := .inr rfl))))
    (pss_one (ps_ret (pv 7))))))))))))), ?_⟩
  refine fin h fun ss μ O ⟨t, p, e1, e2, ht, hp, e3⟩ => ?_
  subst e1 e2 e3
  have hw := ht.wide
  have hh := ht.high
  have ok1 := ht.plans hp
  have ok2 := ht.papers
  refine q_par (x := I (t.costs.length : Int)) (y := I (t.rows.length : Int)) (μ1 := []) ?_ ?_
  · have key := ea_cons (K := K) (δ := [.im (dTask t), .im (dPl p), .un, .un, .un, .un, .un, .un, .un, .un, .un, .un, .un, .un]) (μ := []) (ev_cb (ea_cons (ev_op (ev_varI (δ := [.im (dTask t), .im (dPl p), .un, .un, .un, .un, .un, .un, .un, .un, .un, .un, .un, .un]) (μ := []) (i := 0) rfl) (ev_int (i := 0)) (rv_ixT (d := .tuple (iD t.costs)) rfl)) ea_nil) rc_lenT) (ea_cons (ev_cb (ea_cons (ev_op (ev_varI (i := 0) rfl) (ev_int (i := 1)) (rv_ixT (d := .tuple (t.rows.map dRow)) rfl)) ea_nil) rc_lenT) ea_nil)
    rw [iD_len, List.length_map] at key
    exact key
  refine q_set (s := Ls (dQs (rightsR t p))) (μ1 := []) (ev_call0 (ea_cons (ev_varI rfl) (ea_cons (ev_varI rfl) ea_nil)) ⟨t, p, rfl, rfl, ht, hp, rfl⟩) ?_
  have hc1 : cornersR (t.rows.map (·.nums)) (rightsR t p) t.costs.length = plansR t p := by unfold plansR; rfl
  have hc2 : cornersR (turnedZ t) (costEnds t) t.rows.length = papersR t := by unfold papersR; rfl
  have hpre1 : pre_law_corners [Ls ((t.rows.map (·.nums)).map (seqd true)), Ls (dQs (rightsR t p)), I (t.costs.length : Int)] [] (Is (Ls (dCs (plansR t p))) []) :=
    ⟨true, t.rows.map (·.nums), rightsR t p, t.costs.length, rfl, rfl, ok1, by rw [hc1]⟩
  have hpre2 : pre_law_corners [Ls ((turnedZ t).map (seqd false)), Ls (dQs (costEnds t)), I (t.rows.length : Int)] [] (Is (Ls (dCs (papersR t))) []) :=
    ⟨false, turnedZ t, costEnds t, t.rows.length, rfl, rfl, ok2, by rw [hc2]⟩
  have hsz1 : ∀ qs ∈ plansR t p, qs.length = t.costs.length ∧ ∀ q ∈ qs, Bq 700 q := by rw [← hc1]; exact corners_sz ok1
  have hlen : (plansR t p).length ≤ 216 := by
    have h1 := fold_len (sheet := sheetZ (t.rows.map (·.nums)) t.costs.length) (ends := endsR (rightsR t p) t.costs.length) (lotsM (((sheetZ (t.rows.map (·.nums)) t.costs.length).length : Nat) : Int) t.costs.length) []
    have h2 := lots_len (many := (((sheetZ (t.rows.map (·.nums)) t.costs.length).length : Nat) : Int)) (by omega) t.costs.length
    have hs := sheetZ_len (t.rows.map (·.nums)) t.costs.length
    rw [List.length_map] at hs
    have h3 := pow6 (many := (((sheetZ (t.rows.map (·.nums)) t.costs.length).length : Nat) : Int)) (n := t.costs.length) (by omega) (by omega) hw.2
    rw [List.length_nil] at h1
    rw [← hc1]
    unfold cornersR
    omega
  have hbest : bestR t p = if plansR t p = [] then .none else if papersR t = [] then .endless else .worth (minR ((plansR t p).map (innerR t.costs))) := by unfold bestR; rfl
  rw [hbest]
  clear hbest hc1 hc2
  generalize plansR t p = PL at *
  generalize papersR t = QL at *
  generalize rightsR t p = RT at *
  have harg1 : Ev K (tLc (iTup K (tOp (rIx K) (tVar 0) (tC (.int 1)))) (gName 8) tYes (tOp (rIx K) (tVar 8) (tC (.int 0))) [8]) [.im (dTask t), .im (dPl p), Ls (dQs RT), .un, .un, .un, .un, .un, .un, I (t.costs.length : Int), I (t.rows.length : Int), .un, .un, .un] [] (Ls ((t.rows.map (·.nums)).map (seqd true))) [] := by
    refine ev_map (ix := [8]) (ei_tup (ds := t.rows.map dRow) (ev_op (ev_varI rfl) ev_int (rv_ixT (d := .tuple (t.rows.map dRow)) rfl))) glin_nil (by rw [List.length_map]; omega) (fun j h => h) (by rw [List.length_map, List.length_map, List.length_map]) fun k d e hd he => ?_
    obtain ⟨r, hr', rfl⟩ := rows_get hd
    have ee : e = .tuple (iD r.nums) := by
      rw [List.getElem?_map, List.getElem?_map, hr'] at he
      cases he
      rfl
    rw [ee]
    exact ⟨_, bnd_name, ev_op (ev_varI rfl) ev_int (rv_ixT (d := .tuple (iD r.nums)) rfl)⟩
  refine q_set (s := Ls (dCs PL)) (μ1 := []) (ev_call0 (ea_cons harg1 (ea_cons (ev_varI rfl) (ea_cons (ev_varI rfl) ea_nil))) hpre1) ?_
  refine q_if (b := decide (PL = [])) (et_op (ev_varI rfl) (ev_lst (ds := []) ea_nil (by simp)) ?_) (fun hc => ?_) (fun hc => ?_)
  · have := rv_eq (K := K) (μ := []) (shaped_dCs (PL)) (show SeqAt.shaped (.list []) = true by decide +kernel)
    rw [eqv_dCs_nil] at this
    exact this
  · refine q_retS (t_ret (s := .im (.str "none")) ev_str ?_)
    rw [if_pos (of_decide_eq_true hc)]
    exact is_refl
  refine q_next ?_
  have hn1 := of_decide_eq_false hc
  -- the dual sheet
  refine q_set (s := Ls ((turnedZ t).map (seqd false))) (μ1 := []) (ev_map (ix := [11]) (ds := rngD 0 t.costs.length) ?_ glin_nil (by rw [rngD_len]; omega) (fun j h => h) (by rw [rngD_len, List.length_map, turned_len]) fun k d e hd he => ?_) ?_
  · have key := ei_rng1 (K := K) (δ := [.im (dTask t), .im (dPl p), Ls (dQs (RT)), Ls (dCs (PL)), .un, .un, .un, .un, .un, I (t.costs.length : Int), I (t.rows.length : Int), .un, .un, .un]) (μ := []) (tr := tCons (tVar 9) tNil) (ea_cons (ev_varI rfl) ea_nil) (by omega) (by omega)
    rw [Int.toNat_natCast] at key
    exact key
  · obtain ⟨hk, rfl⟩ := rngD_get hd
    have zk : (0 : Int) + (k : Int) = (k : Int) := Int.zero_add _
    rw [zk]
    have ee : e = .list (iD (t.rows.map fun r => 0 - r.nums.getD k 0)) := by
      unfold turnedZ at he
      rw [List.getElem?_map, List.getElem?_map, List.getElem?_range hk] at he
      cases he
      rfl
    rw [ee]
    refine ⟨_, bnd_name, ev_map (ix := [8]) (ei_tup (ds := t.rows.map dRow) (ev_op (ev_varI rfl) ev_int (rv_ixT (d := .tuple (t.rows.map dRow)) rfl))) glin_nil (by rw [List.length_map]; omega) (fun j h => h) (by rw [iD_len, List.length_map, List.length_map]) fun i d e hd he => ?_⟩
    obtain ⟨r, hr', rfl⟩ := rows_get hd
    have ee : e = .int (0 - r.nums.getD k 0) := by
      unfold iD at he
      rw [List.getElem?_map, List.getElem?_map, hr'] at he
      cases he
      rfl
    rw [ee]
    have ho := ht.rows r (List.mem_of_getElem? hr')
    exact ⟨_, bnd_name, ev_op ev_int (ev_op (ev_op (ev_varI rfl) ev_int (rv_ixT (d := .tuple (iD r.nums)) rfl)) (ev_varI rfl) (rv_ixT (at_nat (iD_at (getD_at (by rw [ho.len]; exact hk)))))) rv_sub⟩
  -- the dual's corners
  refine q_set (s := Ls (dCs (QL))) (μ1 := []) (ev_call0 (ea_cons (ev_varI rfl) (ea_cons (s := Ls (dQs (costEnds t))) (μ1 := []) (ev_map (ix := [13]) (ei_tup (ds := iD t.costs) (ev_op (ev_varI rfl) ev_int (rv_ixT (d := .tuple (iD t.costs)) rfl))) glin_nil (by rw [iD_len]; omega) (fun j h => h) (by unfold costEnds; rw [dQs_len, List.length_map, iD_len]) fun k d e hd he => ?_) (ea_cons (ev_varI rfl) ea_nil))) hpre2) ?_
  · obtain ⟨c, hc', rfl⟩ := iD_get hd
    have ee : e = dQ ((0 - c : Int) : Rat) := by
      unfold costEnds dQs at he
      rw [List.getElem?_map, List.getElem?_map, hc'] at he
      cases he
      rfl
    rw [ee]
    exact ⟨_, bnd_name, ev_q1 (ev_op ev_int (ev_varI rfl) rv_sub)⟩
  refine q_if (b := decide (QL = [])) (et_op (ev_varI rfl) (ev_lst (ds := []) ea_nil (by simp)) ?_) (fun hc => ?_) (fun hc => ?_)
  · have := rv_eq (K := K) (μ := []) (shaped_dCs (QL)) (show SeqAt.shaped (.list []) = true by decide +kernel)
    rw [eqv_dCs_nil] at this
    exact this
  · refine q_retS (t_ret (s := .im (.str "endless")) ev_str ?_)
    rw [if_neg hn1, if_pos (of_decide_eq_true hc)]
    exact is_refl
  refine q_next ?_
  have hn2 := of_decide_eq_false hc
  rw [if_neg hn1, if_neg hn2]
  generalize hws : (PL).map (innerR t.costs) = ws
  have hwl : ws.length = (PL).length := by rw [← hws, List.length_map]
  have hwb : ∀ x ∈ ws, Bq 3000 x := fun x hx => by
    rw [← hws] at hx
    obtain ⟨c, hc, rfl⟩ := List.mem_map.mp hx
    exact (inner_bq (k := 700) (by omega) ht.cost8 (hsz1 c hc).2).mono (by decide)
  refine q_set (s := Ls (dQs ws)) (μ1 := []) (ev_map (ix := [12]) (ei_list (ds := dCs (PL)) (ev_varI rfl)) glin_nil (by unfold dCs; rw [List.length_map]; omega) (fun j h => h) (by unfold dCs; rw [dQs_len, hwl, List.length_map]) fun k d e hd he => ?_) ?_
  · obtain ⟨c, hc', rfl⟩ : ∃ c, (PL)[k]? = some c ∧ d = .list (dQs c) := by
      unfold dCs at hd
      rw [List.getElem?_map] at hd
      cases e : (PL)[k]? with
      | none => rw [e] at hd; cases hd
      | some l => rw [e] at hd; cases hd; exact ⟨l, rfl, rfl⟩
    have ee : e = dQ (innerR t.costs c) := by
      unfold dQs at he
      rw [← hws, List.getElem?_map, List.getElem?_map, hc'] at he
      cases he
      rfl
    rw [ee]
    obtain ⟨h1, h2⟩ := hsz1 c (List.mem_of_getElem? hc')
    exact ⟨_, bnd_name, ev_call0 (ea_cons (ev_op (ev_varI rfl) ev_int (rv_ixT (d := .tuple (iD t.costs)) rfl)) (ea_cons (ev_varI rfl) ea_nil)) ⟨t.costs, c, _, _, rfl, seq_t, seq_l, rfl, by omega, by omega, ht.cost8, h2, rfl⟩⟩
  have hpos : 0 < ws.length := by rw [hwl]; exact List.length_pos_iff.mpr hn1
  have hmb : ∀ k, Bq 3000 ((ws.take k).foldl (fun f w => if w < f then w else f) (ws.getD 0 0)) := fun k => by
    refine fold_inv (Q := fun f : Rat => Bq 3000 f) (fun f x hx hf => ?_) _ (hwb _ (List.mem_of_getElem? (getD_at hpos)))
    show Bq 3000 (if x < f then x else f)
    split
    · exact hwb x (List.mem_of_mem_take hx)
    · exact hf
  refine q_set (s := .im (dQ (ws.getD 0 0))) (μ1 := []) (ev_op (ev_varI rfl) ev_int (rv_ixL (show atI (dQs ws) ((0 : Nat) : Int) = _ from at_nat (dQ_getD hpos)))) ?_
  refine t_seq (M := fun a b => ∃ x8, a = [.im (dTask t), .im (dPl p), Ls (dQs (RT)), Ls (dCs (PL)), Ls ((turnedZ t).map (seqd false)), Ls (dCs (QL)), Ls (dQs ws), .im (dQ (minR ws)), x8, I (t.costs.length : Int), I (t.rows.length : Int), .un, .un, .un] ∧ b = []) ?_ fun a b ⟨x8, e1, e2⟩ => ?_
  · refine t_for (ix := [8]) (ei_list (ds := dQs ws) (ev_varI rfl)) (fun k a b => ∃ x8, a = [.im (dTask t), .im (dPl p), Ls (dQs (RT)), Ls (dCs (PL)), Ls ((turnedZ t).map (seqd false)), Ls (dCs (QL)), Ls (dQs ws), .im (dQ ((ws.take k).foldl (fun f w => if w < f then w else f) (ws.getD 0 0))), x8, I (t.costs.length : Int), I (t.rows.length : Int), .un, .un, .un] ∧ b = []) ⟨.un, rfl, rfl⟩ (fun _ _ _ _ => glin_nil) (fun k d a b hd ⟨x8, e1, e2⟩ => ?_) fun a b ⟨x8, e1, e2⟩ => ?_
    · subst e1 e2
      obtain ⟨x, hx, rfl⟩ := dQs_get hd
      refine ⟨_, bnd_name, ?_⟩
      refine t_set (s := .im (dQ (if x < (ws.take k).foldl (fun f w => if w < f then w else f) (ws.getD 0 0) then x else (ws.take k).foldl (fun f w => if w < f then w else f) (ws.getD 0 0)))) (ev_if (et_val (ev_call0 (ea_cons (ev_varI rfl) (ea_cons (ev_varI rfl) ea_nil)) ⟨_, _, rfl, rfl, (hwb x (List.mem_of_getElem? hx)).mono (by decide), (hmb k).mono (by decide), rfl⟩)) (fun hc => ?_) (fun hc => ?_)) ⟨.im (dQ x), ?_, rfl⟩
      · rw [if_pos (of_decide_eq_true hc)]
        exact ev_varI rfl
      · rw [if_neg (of_decide_eq_false hc)]
        exact ev_varI rfl
      · rw [min_take hx]
        rfl
    · subst e1 e2
      refine ⟨x8, ?_, rfl⟩
      rw [dQs_len, List.take_length]
      rfl
  · subst e1 e2
    exact t_ret (ev_varI rfl) is_refl
end
end WM

set_option Elab.async false
set_option linter.all false
set_option maxRecDepth 100000
set_option maxHeartbeats 2000000
namespace WM
open PySem PySem.Spec PyProof.Rows L2 StX

/-! ### whole numbers over one low -/
def lowQ (qs : List Rat) : Int := qs.foldl (fun acc q => acc * (q.den : Int)) 1
def wholeN (low : Int) (qs : List Rat) : List Int := qs.map fun q => q.num * (low / (q.den : Int))
theorem lowq_acc : ∀ (qs : List Rat) (a : Int), 0 < a → 0 < qs.foldl (fun acc q => acc * (q.den : Int)) a ∧ a ∣ qs.foldl (fun acc q => acc * (q.den : Int)) a ∧ ∀ q ∈ qs, (q.den : Int) ∣ qs.foldl (fun acc q => acc * (q.den : Int)) a
  | [], a, h => ⟨h, Int.dvd_refl a, fun _ z => nomatch z⟩
  | q :: qs, a, h => by
    obtain ⟨h1, h2, h3⟩ := lowq_acc qs (a * (q.den : Int)) (Int.mul_pos h (den_pos q))
    refine ⟨h1, Int.dvd_trans (Int.dvd_mul_right ..) h2, fun x hx => ?_⟩
    rcases List.mem_cons.mp hx with e | hx
    · subst e; exact Int.dvd_trans (Int.dvd_mul_left ..) h2
    · exact h3 x hx
theorem lowQ_pos (qs : List Rat) : 0 < lowQ qs := (lowq_acc qs 1 (by decide)).1
theorem lowQ_dvd {qs : List Rat} {q : Rat} (h : q ∈ qs) : (q.den : Int) ∣ lowQ qs := (lowq_acc qs 1 (by decide)).2.2 q h
theorem lowq_bi {k : Nat} : ∀ (qs : List Rat) (a : Int) (b : Nat), Bi b a → (∀ q ∈ qs, Bq k q) → Bi (b + k * qs.length) (qs.foldl (fun acc q => acc * (q.den : Int)) a)
  | [], a, b, h, _ => h.mono (by simp)
  | q :: qs, a, b, h, hq => by
    have h1 := lowq_bi qs (a * (q.den : Int)) (b + k) (h.mul (hq q (by simp)).dz) fun x hx => hq x (by simp [hx])
    exact h1.mono (by rw [List.length_cons, Nat.mul_add]; omega)
theorem lowQ_bi {k : Nat} {qs : List Rat} (hl : qs.length ≤ 3) (hq : ∀ q ∈ qs, Bq k q) : Bi (1 + 3 * k) (lowQ qs) := by
  have h := lowq_bi qs 1 1 (show (1 : Int).natAbs < 2 ^ 1 by decide) hq
  refine h.mono ?_
  have := Nat.mul_le_mul_left k hl
  omega
theorem q_den (q : Rat) : q * ((q.den : Int) : Rat) = ((q.num : Int) : Rat) := by
  have h : q = (q.num : Rat) / ((q.den : Int) : Rat) := by
    have := Rat.divInt_eq_div q.num (q.den : Int)
    rw [← this]
    exact (Rat.num_divInt_den q).symm
  have hd : ((q.den : Int) : Rat) ≠ 0 := fun z => den_ne q (by exact_mod_cast z)
  have h2 : (q.num : Rat) / ((q.den : Int) : Rat) * ((q.den : Int) : Rat) = (q.num : Rat) := Rat.div_mul_cancel hd
  rw [← h] at h2
  exact h2
theorem whole_eq {q : Rat} {low : Int} (h : (q.den : Int) ∣ low) : ((q.num * (low / (q.den : Int)) : Int) : Rat) = q * (low : Rat) := by
  obtain ⟨c, rfl⟩ := h
  rw [Int.mul_ediv_cancel_left c (den_ne q), Rat.intCast_mul, Rat.intCast_mul, ← q_den q, Rat.mul_assoc]
theorem foldl_add : ∀ (xs : List Rat) (a : Rat), xs.foldl (· + ·) a = a + xs.foldl (· + ·) 0
  | [], a => by simp [Rat.add_zero]
  | x :: xs, a => by
    rw [List.foldl_cons, List.foldl_cons, foldl_add xs (a + x), foldl_add xs (0 + x)]
    grind
theorem innerR_cons (n : Int) (ns : List Int) (q : Rat) (qs : List Rat) : innerR (n :: ns) (q :: qs) = (n : Rat) * q + innerR ns qs := by
  show (List.zipWith (fun (n : Int) (q : Rat) => (n : Rat) * q) (n :: ns) (q :: qs)).foldl (· + ·) 0 = (n : Rat) * q + (List.zipWith (fun (n : Int) (q : Rat) => (n : Rat) * q) ns qs).foldl (· + ·) 0
  rw [List.zipWith_cons_cons, List.foldl_cons, foldl_add]
  grind
theorem dot_eq {low : Int} : ∀ (ns : List Int) (qs : List Rat), (∀ q ∈ qs, (q.den : Int) ∣ low) → ((dotL ns (wholeN low qs) : Int) : Rat) = innerR ns qs * (low : Rat)
  | [], qs, _ => by simp [dotL, innerR]
  | n :: ns, [], _ => by simp [dotL, innerR, wholeN]
  | n :: ns, q :: qs, h => by
    have ih := dot_eq ns qs fun x hx => h x (by simp [hx])
    have e := whole_eq (h q (by simp))
    rw [innerR_cons]
    have : dotL (n :: ns) (wholeN low (q :: qs)) = n * (q.num * (low / (q.den : Int))) + dotL ns (wholeN low qs) := by
      unfold dotL wholeN
      rw [List.map_cons, List.zipWith_cons_cons, List.sum_cons]
    rw [this, Rat.intCast_add, Rat.intCast_mul, e, ih]
    grind
theorem wholeN_neg {qs : List Rat} {low : Int} (h0 : 0 < low) (h : ∀ q ∈ qs, (q.den : Int) ∣ low) : ((wholeN low qs).map fun n => decide (n < 0)).any id = !decide (∀ q ∈ qs, 0 ≤ q) := by
  have h0' : (0 : Rat) < (low : Rat) := by exact_mod_cast h0
  have sgn : ∀ q ∈ qs, (q.num * (low / (q.den : Int)) < 0 ↔ ¬ 0 ≤ q) := fun q hq => by
    have e := whole_eq (h q hq)
    have : (q.num * (low / (q.den : Int)) < 0) ↔ q * (low : Rat) < 0 * (low : Rat) := by
      rw [← e, Rat.zero_mul]
      exact_mod_cast Iff.rfl
    rw [this, Rat.mul_lt_mul_right h0', Rat.not_le]
  rw [Bool.eq_iff_iff, List.any_eq_true]
  constructor
  · rintro ⟨b, hb, hb2⟩
    obtain ⟨n, hn, rfl⟩ := List.mem_map.mp hb
    obtain ⟨q, hq, rfl⟩ := List.mem_map.mp hn
    have := (sgn q hq).mp (of_decide_eq_true hb2)
    rw [decide_eq_false (fun z => this (z q hq))]
    rfl
  · intro hc
    have hn : ¬ ∀ q ∈ qs, 0 ≤ q := fun z => by rw [decide_eq_true z] at hc; cases hc
    apply Classical.byContradiction
    intro z
    apply hn
    intro q hq
    apply Classical.byContradiction
    intro hz
    exact z ⟨_, List.mem_map.mpr ⟨_, List.mem_map.mpr ⟨q, hq, rfl⟩, rfl⟩, decide_eq_true ((sgn q hq).mpr hz)⟩
/-! ### a place over one low -/
def plG (p : Pl) : Nat := gcdL [p.1.num * (p.2.den : Int), p.2.num * (p.1.den : Int), (p.1.den : Int) * (p.2.den : Int)]
def plE (p : Pl) : Int := p.1.num * (p.2.den : Int) / (plG p : Int)
def plN (p : Pl) : Int := p.2.num * (p.1.den : Int) / (plG p : Int)
def plL (p : Pl) : Int := (p.1.den : Int) * (p.2.den : Int) / (plG p : Int)
theorem plG_pos (p : Pl) : 0 < plG p := by
  have h : (plG p : Int) ∣ (p.1.den : Int) * (p.2.den : Int) := gcdL_dvd (by simp)
  have h2 := Int.mul_pos (den_pos p.1) (den_pos p.2)
  rcases Nat.eq_zero_or_pos (plG p) with e | e
  · rw [e] at h
    have := Int.zero_dvd.mp h
    omega
  · exact e
theorem pl_red (p : Pl) : redL [p.1.num * (p.2.den : Int), p.2.num * (p.1.den : Int), (p.1.den : Int) * (p.2.den : Int)] = [plE p, plN p, plL p] := by
  unfold redL
  have hg := plG_pos p
  split
  · rfl
  · rename_i h
    have e : plG p = 1 := by
      have : ¬ 1 < plG p := h
      omega
    unfold plE plN plL
    rw [e]
    simp
theorem plL_pos (p : Pl) : 0 < plL p := by
  have h : (plG p : Int) ∣ (p.1.den : Int) * (p.2.den : Int) := gcdL_dvd (by simp)
  have h2 := Int.mul_pos (den_pos p.1) (den_pos p.2)
  obtain ⟨c, hc⟩ := h
  have hg := plG_pos p
  unfold plL
  rw [hc, Int.mul_ediv_cancel_left c (by omega)]
  rw [hc] at h2
  apply Classical.byContradiction
  intro z
  have := Int.mul_le_mul_of_nonneg_left (a := c) (b := 0) (c := (plG p : Int)) (by omega) (by omega)
  omega
theorem div_scale {a b g : Int} (hg : g ≠ 0) (ha : g ∣ a) (hb : g ∣ b) {q : Rat} (h : (a : Rat) = q * (b : Rat)) : ((a / g : Int) : Rat) = q * ((b / g : Int) : Rat) := by
  obtain ⟨c, rfl⟩ := ha
  obtain ⟨d, rfl⟩ := hb
  rw [Int.mul_ediv_cancel_left c hg, Int.mul_ediv_cancel_left d hg]
  rw [Rat.intCast_mul, Rat.intCast_mul] at h
  have hg' : (g : Rat) ≠ 0 := fun z => hg (by exact_mod_cast z)
  have : (g : Rat) * ((c : Rat) - q * (d : Rat)) = 0 := by grind
  rcases Rat.mul_eq_zero.mp this with z | z
  · exact absurd z hg'
  · grind
theorem pl_e (p : Pl) : ((plE p : Int) : Rat) = p.1 * ((plL p : Int) : Rat) := by
  refine div_scale (g := (plG p : Int)) (by have := plG_pos p; omega) (gcdL_dvd (by simp)) (gcdL_dvd (by simp)) ?_
  rw [Rat.intCast_mul, Rat.intCast_mul, ← q_den p.1]
  grind
theorem pl_n (p : Pl) : ((plN p : Int) : Rat) = p.2 * ((plL p : Int) : Rat) := by
  refine div_scale (g := (plG p : Int)) (by have := plG_pos p; omega) (gcdL_dvd (by simp)) (gcdL_dvd (by simp)) ?_
  rw [Rat.intCast_mul, Rat.intCast_mul, ← q_den p.2]
  grind
theorem pl_bi {p : Pl} (h : PlOk p) : Bi 6 (plE p) ∧ Bi 6 (plN p) ∧ Bi 6 (plL p) :=
  ⟨Bi.div (h.e.n.mul h.n.dz), Bi.div (h.n.n.mul h.e.dz), Bi.div (h.e.dz.mul h.n.dz)⟩
def rightsZ (t : Tk) (p : Pl) : List Int := t.rows.map fun r => r.right * plL p + r.east * plE p + r.north * plN p
theorem rightZ_eq (r : Rw) (p : Pl) : ((r.right * plL p + r.east * plE p + r.north * plN p : Int) : Rat) = atR r.east r.north r.right p * ((plL p : Int) : Rat) := by
  unfold atR
  rw [Rat.intCast_add, Rat.intCast_add, Rat.intCast_mul, Rat.intCast_mul, Rat.intCast_mul, pl_e, pl_n]
  grind
end WM

set_option Elab.async false
set_option linter.all false
set_option maxRecDepth 100000
set_option maxHeartbeats 2000000
namespace WM
open PySem PySem.Spec PyProof.Rows L2 StX
section
variable {P : Program} {w : World} {K : PySem.W.Frag} {mg : Str → Option Value} {base : Heap}
abbrev kTT : kitB "tuple" "tuple" = some true := by decide +kernel
def pre_is_small : PreT := fun ss μ O => ∃ i : Int, ss = [I i] ∧ μ = [] ∧ (-1000 ≤ i ∧ i ≤ 1000) ∧ O = Is (B true) []
theorem ok_is_small (T : Txt K mg) : FnOk P w K mg base CX0 (2 + 1) T.d_is_small.f T.d_is_small.fd P_is_small (SpW K pre_is_small) := by
  refine T.d_is_small.F.ok sc_is_small (sp_len fun ss μ O ⟨a, e, _⟩ => by rw [e]; rfl) (fun cdv A outer s H vs Q E hr h => ?_)
  refine ⟨_, (pss_one (ps_ret (pe_and (pe_call (ok_is_int T) (hr.mono (by decide)) (by rfl) T.m_is_int T.d_is_int.F.kp T.d_is_int.b .nil pass0 (pa_cons (pv 0) pa_nil)) (pe_one (pe_chain op_le op_le (pe_un un_neg (pe_glob (v := .int 1000) (by rfl) T.g_MOST_GIVEN ⟨_, rfl⟩)) (pv 0) (pe_glob (v := .int 1000) (by rfl) T.g_MOST_GIVEN ⟨_, rfl⟩)))))), ?_⟩
  refine fin h fun ss μ O ⟨i, e1, e2, hi, e3⟩ => ?_
  subst e1 e2 e3
  have h1 : decide ((-1000 : Int) ≤ i) = true := decide_eq_true hi.1
  have h2 : decide (i ≤ (1000 : Int)) = true := decide_eq_true hi.2
  refine t_ret (ev_andV (c := true) (d := true) (ev_call0 (ea_cons (ev_varI rfl) ea_nil) ⟨_, rfl, rfl, (fun _ z => nomatch z), rfl⟩) fun _ => ?_) is_refl
  have := ev_chain (K := K) (δ := [I i]) (μ := []) (w' := .un) (ev_neg (ev_int (i := 1000))) (ev_varI (i := 0) rfl) (rv_le (i := -1000) (j := i)) (fun _ => ev_int (i := 1000)) (fun _ => rv_le (i := i) (j := 1000))
  rw [h1, h2] at this
  exact this
def pre_is_task_row : PreT := fun ss μ O => ∃ (r : Rw) (n : Nat), ss = [.im (dRow r), I (n : Int)] ∧ μ = [] ∧ RwOk n r ∧ n ≤ 3 ∧ O = Is (B true) []
theorem ok_is_task_row (T : Txt K mg) : FnOk P w K mg base CX0 (3 + 1) T.d_is_task_row.f T.d_is_task_row.fd P_is_task_row (SpW K pre_is_task_row) := by
  refine T.d_is_task_row.F.ok sc_is_task_row (sp_len fun ss μ O ⟨a, b, e, _⟩ => by rw [e]; rfl) (fun cdv A outer s H vs Q E hr h => ?_)
  refine ⟨_, (pss_cons (ps_if (PW.pt (pw_or (pt_not (pt_val (pe_callB (k_isi (K := K) rfl) (by rfl) T.b_isinstance (by decide +kernel) (pa_cons (pv 0) (pa_cons (pe_bltn (v := .ty "tuple") (by rfl) T.b_tuple (by decide +kernel) rfl) pa_nil))))) (pw_or (pt_cmpR (k_neD (K := K) hr.units rfl) (pe_callB (k_len (K := K) rfl) (by rfl) T.b_len (by decide +kernel) (pa_cons (pv 0) pa_nil)) pe_int (nomark _)) (pw_or (pt_not (pt_val (pe_callB (k_isi (K := K) rfl) (by rfl) T.b_isinstance (by decide +kernel) (pa_cons (pe_ix (k_ix (K := K) rfl) (pv 0) pe_int (fun _ _ => rfl)) (pa_cons (pe_bltn (v := .ty "tuple") (by rfl) T.b_tuple (by decide +kernel) rfl) pa_nil))))) (pw_or1 (pt_cmpR (k_neD (K := K) hr.units rfl) (pe_callB (k_len (K := K) rfl) (by rfl) T.b_len (by decide +kernel) (pa_cons (pe_ix (k_ix (K := K) rfl) (pv 0) pe_int (fun _ _ => rfl)) pa_nil)) (pv 1) (nomark _)))))))
      (pss_one (ps_ret pe_bl))
      pss_nil)
    (pss_one (ps_ret (pe_callB (k_all (K := K) rfl rfl) (by rfl) T.b_all (by decide +kernel) (pa_cons (pe_lc (own := [("one", 2)]) rfl sc_is_task_row.nd (k_piT (K := K) rfl (pe_tup (k_star (K := K) rfl (pe_ix (k_ix (K := K) rfl) (pv 0) pe_int (fun _ _ => rfl)) (k_star (K := K) rfl (pe_slice (k_slT (K := K) rfl) (pv 0) (po_some pe_int) po_none) pa_nil)))) (blkOk_by (N := N_is_task_row) (sc := defScope s_is_task_row) (by decide +kernel)) (fun _ _ _ _ _ => (pg_name (i := 2) sc_is_task_row.nd rfl (.inl rfl) (.inr rfl))) (fun _ _ _ _ _ => pts_nil) (fun _ _ _ _ _ => (pe_call (ok_is_small T) (hr.mono (by decide)) (by rfl) T.m_is_small T.d_is_small.F.kp T.d_is_small.b .nil pass0 (pa_cons (pv 2) pa_nil)))) pa_nil))))), ?_⟩
  refine fin h fun ss μ O ⟨r, n, e1, e2, ok, hn, e3⟩ => ?_
  subst e1 e2 e3
  refine t_no (et_or (c := false) (d := false) (et_not (c := true) (et_val (ev_isi (ev_varI rfl) kTT))) fun _ =>
    et_or (c := false) (d := false) (et_op (ev_cb (ea_cons (ev_varI rfl) ea_nil) rc_lenT) ev_int (rv_ne rfl rfl)) fun _ =>
    et_or (c := false) (d := false) (et_not (c := true) (et_val (ev_isi (ev_op (ev_varI rfl) ev_int (rv_ixT (d := .tuple (iD r.nums)) rfl)) kTT))) fun _ => ?_) ?_
  · have := et_op (K := K) (δ := [.im (dRow r), I (n : Int), .un]) (μ := []) (ev_cb (ea_cons (ev_op (ev_varI (i := 0) rfl) (ev_int (i := 0)) (rv_ixT (d := .tuple (iD r.nums)) rfl)) ea_nil) rc_lenT) (ev_varI (i := 1) rfl) rv_neI
    rw [iD_len, ok.len, decide_eq_true rfl] at this
    exact this
  have hall : ∀ z ∈ r.nums ++ [r.right, r.east, r.north], -1000 ≤ z ∧ z ≤ 1000 := fun z hz => by
    rcases List.mem_append.mp hz with hz | hz
    · have := ok.nums z hz; omega
    · have h1 := ok.right
      have h2 := ok.east
      have h3 := ok.north
      simp only [List.mem_cons, List.not_mem_nil, or_false] at hz
      rcases hz with rfl | rfl | rfl <;> omega
  generalize hzs : r.nums ++ [r.right, r.east, r.north] = zs at hall
  have hzl : zs.length = n + 3 := by rw [← hzs, List.length_append, ok.len]; rfl
  have htup : Ev K (tTup (tStar K (tOp (rIx K) (tVar 0) (tC (.int 0))) (tStar K (tSl (rSlA K) (tVar 0) (tPart (tC (.int 1))) tNoPart) tNil))) [.im (dRow r), I (n : Int), .un] [] (Tp (iD zs)) [] := by
    refine ev_tup ?_ (by rw [iD_len]; omega)
    have := ea_starT (K := K) (δ := [.im (dRow r), I (n : Int), .un]) (μ := []) (ev_op (ev_varI (i := 0) rfl) (ev_int (i := 0)) (rv_ixT (d := .tuple (iD r.nums)) rfl)) (ea_starT (ev_slT (k := 1) (ev_varI (i := 0) rfl) (ev_int (i := 1))) ea_nil)
    rw [← hzs]
    have e : ims (iD (r.nums ++ [r.right, r.east, r.north])) = ims (iD r.nums) ++ (ims (iD [r.right, r.east, r.north]) ++ []) := by
      unfold ims iD
      rw [List.map_append, List.map_append, List.append_nil]
    rw [e]
    exact this
  have hb : (List.replicate zs.length true).all id = true := by rw [List.all_eq_true]; intro b hb; rw [List.eq_of_mem_replicate hb]; rfl
  refine t_ret (s := B true) ?_ is_refl
  rw [← hb]
  refine ev_cb (ea_cons (ev_map (ix := [2]) (es := (List.replicate zs.length true).map PyData.bool) (ei_tup htup) glin_nil (by rw [iD_len]; omega) (fun j h => h) (by rw [List.length_map, List.length_replicate, iD_len]) fun i d d' hd hd' => ?_) ea_nil) rc_all
  obtain ⟨z, hz, rfl⟩ := iD_get hd
  have hi := (List.getElem?_eq_some_iff.mp hz).1
  have ee : d' = .bool true := by
    rw [List.getElem?_map, List.getElem?_replicate, if_pos hi] at hd'
    cases hd'
    rfl
  rw [ee]
  exact ⟨_, bnd_name, ev_call0 (ea_cons (ev_varI rfl) ea_nil) ⟨z, rfl, rfl, hall z (List.mem_of_getElem? hz), rfl⟩⟩
theorem enumD_get' {ds : List PyData} {i : Nat} {e : PyData} (h : (enumD 0 ds)[i]? = some e) : ∃ d, ds[i]? = some d ∧ e = .tuple [.int (i : Int), d] := by
  obtain ⟨d, h1, h2⟩ := enumD_get h
  rw [Nat.zero_add] at h2
  exact ⟨d, h1, h2⟩
def pre_need_task : PreT := fun ss μ O => ∃ t, ss = [.im (dTask t)] ∧ μ = [] ∧ TkOk t ∧ O = Is (.im .none) []
theorem ok_need_task (T : Txt K mg) : FnOk P w K mg base CX0 (4 + 1) T.d_need_task.f T.d_need_task.fd P_need_task (SpW K pre_need_task) := by
  refine T.d_need_task.F.ok sc_need_task (sp_len fun ss μ O ⟨a, e, _⟩ => by rw [e]; rfl) (fun cdv A outer s H vs Q E hr h => ?_)
  refine ⟨_, (pss_cons (ps_if (PW.pt (pw_or (pt_not (pt_val (pe_callB (k_isi (K := K) rfl) (by rfl) T.b_isinstance (by decide +kernel) (pa_cons (pv 0) (pa_cons (pe_bltn (v := .ty "tuple") (by rfl) T.b_tuple (by decide +kernel) rfl) pa_nil))))) (pw_or (pt_cmpR (k_neD (K := K) hr.units rfl) (pe_callB (k_len (K := K) rfl) (by rfl) T.b_len (by decide +kernel) (pa_cons (pv 0) pa_nil)) pe_int (nomark _)) (pw_or1 (pt_not (pt_val (pe_callB (k_isi (K := K) rfl) (by rfl) T.b_isinstance (by decide +kernel) (pa_cons (pe_ix (k_ix (K := K) rfl) (pv 0) pe_int (fun _ _ => rfl)) (pa_cons (pe_bltn (v := .ty "tuple") (by rfl) T.b_tuple (by decide +kernel) rfl) pa_nil)))))))))
      pss_never
      pss_nil)
    (pss_cons (ps_asg (pv 0) (k_gtup (K := K) (n := 2) rfl rfl (pgs_cons (pg_name (i := 1) sc_need_task.nd rfl (.inl rfl) (.inr rfl)) (pgs_cons (pg_name (i := 2) sc_need_task.nd rfl (.inl rfl) (.inr rfl)) pgs_nil))))
    (pss_cons (ps_if (PW.pt (pw_or (pt_not (pt_chain op_le op_le pe_int (pe_callB (k_len (K := K) rfl) (by rfl) T.b_len (by decide +kernel) (pa_cons (pv 1) pa_nil)) (pe_glob (v := .int 6) (by rfl) T.g_MOST_WIDE ⟨_, rfl⟩))) (pw_or1 (pt_not (pt_val (pe_callB (k_all (K := K) rfl rfl) (by rfl) T.b_all (by decide +kernel) (pa_cons (pe_lc (own := [("one", 5)]) rfl sc_need_task.nd (k_piT (K := K) rfl (pv 1)) (blkOk_by (N := N_need_task) (sc := defScope s_need_task) (by decide +kernel)) (fun _ _ _ _ _ => (pg_name (i := 5) sc_need_task.nd rfl (.inl rfl) (.inr rfl))) (fun _ _ _ _ _ => pts_nil) (fun _ _ _ _ _ => (pe_call (ok_is_small T) (hr.mono (by decide)) (by rfl) T.m_is_small T.d_is_small.F.kp T.d_is_small.b .nil pass0 (pa_cons (pv 5) pa_nil)))) pa_nil)))))))
      pss_never
      pss_nil)
    (pss_cons (ps_if (PW.pt (pw_or (pt_not (pt_val (pe_callB (k_isi (K := K) rfl) (by rfl) T.b_isinstance (by decide +kernel) (pa_cons (pv 2) (pa_cons (pe_bltn (v := .ty "tuple") (by rfl) T.b_tuple (by decide +kernel) rfl) pa_nil))))) (pw_or1 (pt_not (pt_chain op_le op_le pe_int (pe_callB (k_len (K := K) rfl) (by rfl) T.b_len (by decide +kernel) (pa_cons (pv 2) pa_nil)) (pe_glob (v := .int 8) (by rfl) T.g_MOST_HIGH ⟨_, rfl⟩))))))
      pss_never
      pss_nil)
    (pss_one (ps_for PassesOwn.never rfl (k_enumT (K := K) rfl (by rfl) T.b_enumerate (pa_cons (pv 2) pa_nil)) (k_gtup (K := K) (n := 2) rfl rfl (pgs_cons (pg_name (i := 3) sc_need_task.nd rfl (.inl rfl) (.inr rfl)) (pgs_cons (pg_name (i := 4) sc_need_task.nd rfl (.inl rfl) (.inr rfl)) pgs_nil)))
      (pss_one (ps_if (pt_not (pt_val (pe_call (ok_is_task_row T) (hr.mono (by decide)) (by rfl) T.m_is_task_row T.d_is_task_row.F.kp T.d_is_task_row.b .nil pass0 (pa_cons (pv 4) (pa_cons (pe_callB (k_len (K := K) rfl) (by rfl) T.b_len (by decide +kernel) (pa_cons (pv 1) pa_nil)) pa_nil)))))
        pss_never
        pss_nil)))))))), ?_⟩
  refine fin h fun ss μ O ⟨t, e1, e2, ok, e3⟩ => ?_
  subst e1 e2 e3
  have hw := ok.wide
  have hh := ok.high
  refine t_no (et_or (c := false) (d := false) (et_not (c := true) (et_val (ev_isi (ev_varI rfl) kTT))) fun _ =>
    et_or (c := false) (d := false) (et_op (ev_cb (ea_cons (ev_varI rfl) ea_nil) rc_lenT) ev_int (rv_ne rfl rfl)) fun _ =>
      et_not (c := true) (et_val (ev_isi (ev_op (ev_varI rfl) ev_int (rv_ixT (d := .tuple (iD t.costs)) rfl)) kTT))) ?_
  refine q_asg (ix := [1, 2]) (ev_varI rfl) (bnd_tup2 (d := .tuple (iD t.costs)) (e := .tuple (t.rows.map dRow))) ?_
  have h6 : (decide ((1 : Int) ≤ (t.costs.length : Int)) && decide ((t.costs.length : Int) ≤ (6 : Int))) = true := by rw [decide_eq_true (by omega), decide_eq_true (by omega)]; rfl
  have h8 : (decide ((1 : Int) ≤ (t.rows.length : Int)) && decide ((t.rows.length : Int) ≤ (8 : Int))) = true := by rw [decide_eq_true (by omega), decide_eq_true (by omega)]; rfl
  have hb : (List.replicate t.costs.length true).all id = true := by rw [List.all_eq_true]; intro b hb; rw [List.eq_of_mem_replicate hb]; rfl
  refine t_no (μ1 := []) (et_or (c := false) (d := false) (et_not (c := true) (et_test ?_)) fun _ => et_not (c := true) (et_val ?_)) ?_
  · have := ev_chain (K := K) (δ := [.im (dTask t), Tp (iD t.costs), Tp (t.rows.map dRow), .un, .un, .un]) (μ := []) (w' := .un) (ev_int (i := 1)) (ev_cb (ea_cons (ev_varI (i := 1) rfl) ea_nil) rc_lenT) rv_le (fun _ => ev_int (i := 6)) (fun _ => rv_le (j := 6))
    rw [iD_len, h6] at this
    exact this
  · rw [← hb]
    refine ev_cb (ea_cons (ev_map (ix := [5]) (es := (List.replicate t.costs.length true).map PyData.bool) (ei_tup (ds := iD t.costs) (ev_varI rfl)) glin_nil (by rw [iD_len]; omega) (fun j h => h) (by rw [List.length_map, List.length_replicate, iD_len]) fun i d d' hd hd' => ?_) ea_nil) rc_all
    obtain ⟨z, hz, rfl⟩ := iD_get hd
    have hi := (List.getElem?_eq_some_iff.mp hz).1
    have ee : d' = .bool true := by
      rw [List.getElem?_map, List.getElem?_replicate, if_pos hi] at hd'
      cases hd'
      rfl
    rw [ee]
    exact ⟨_, bnd_name, ev_call0 (ea_cons (ev_varI rfl) ea_nil) ⟨z, rfl, rfl, by have := ok.costs z (List.mem_of_getElem? hz); omega, rfl⟩⟩
  refine t_no (μ1 := []) (et_or (c := false) (d := false) (et_not (c := true) (et_val (ev_isi (ev_varI rfl) kTT))) fun _ => et_not (c := true) (et_test ?_)) ?_
  · have := ev_chain (K := K) (δ := [.im (dTask t), Tp (iD t.costs), Tp (t.rows.map dRow), .un, .un, .un]) (μ := []) (w' := .un) (ev_int (i := 1)) (ev_cb (ea_cons (ev_varI (i := 2) rfl) ea_nil) rc_lenT) rv_le (fun _ => ev_int (i := 8)) (fun _ => rv_le (j := 8))
    rw [List.length_map, h8] at this
    exact this
  refine t_for (ix := [3, 4]) (ei_enumT (ds := t.rows.map dRow) (ea_cons (ev_varI rfl) ea_nil)) (fun i a b => ∃ x3 x4, a = [.im (dTask t), Tp (iD t.costs), Tp (t.rows.map dRow), x3, x4, .un] ∧ b = []) ⟨_, _, rfl, rfl⟩ (fun _ _ _ _ => glin_nil) (fun i d a b hd ⟨x3, x4, e1, e2⟩ => ?_) fun a b ⟨x3, x4, e1, e2⟩ => by subst e1 e2; exact is_refl
  subst e1 e2
  obtain ⟨d0, hd0, rfl⟩ := enumD_get' hd
  obtain ⟨r, hr', rfl⟩ := rows_get hd0
  refine ⟨_, bnd_tup2, t_no1 (et_not (c := true) (et_val (ev_call0 (ea_cons (ev_varI rfl) (ea_cons (ev_cb (ea_cons (ev_varI rfl) ea_nil) rc_lenT) ea_nil)) ⟨r, t.costs.length, by rw [iD_len], rfl, ok.rows r (List.mem_of_getElem? hr'), hw.2, rfl⟩))) ⟨I (i : Int), .im (dRow r), rfl, rfl⟩⟩
def pre_need_both : PreT := fun ss μ O => ∃ t p, ss = [.im (dTask t), .im (dPl p)] ∧ μ = [] ∧ TkOk t ∧ O = Is (.im .none) []
theorem ok_need_both (T : Txt K mg) : FnOk P w K mg base CX0 (5 + 1) T.d_need_both.f T.d_need_both.fd P_need_both (SpW K pre_need_both) := by
  refine T.d_need_both.F.ok sc_need_both (sp_len fun ss μ O ⟨a, b, e, _⟩ => by rw [e]; rfl) (fun cdv A outer s H vs Q E hr h => ?_)
  refine ⟨_, (pss_cons (ps_expr (pe_call (ok_need_task T) (hr.mono (by decide)) (by rfl) T.m_need_task T.d_need_task.F.kp T.d_need_task.b .nil pass0 (pa_cons (pv 0) pa_nil)))
    (pss_one (ps_expr (pe_call (ok_need_place T) (hr.mono (by decide)) (by rfl) T.m_need_place T.d_need_place.F.kp T.d_need_place.b .nil pass0 (pa_cons (pv 1) pa_nil))))), ?_⟩
  refine fin h fun ss μ O ⟨t, p, e1, e2, ok, e3⟩ => ?_
  subst e1 e2 e3
  exact q_drop (ev_call0 (ea_cons (ev_varI rfl) ea_nil) ⟨t, rfl, rfl, ok, rfl⟩) (t_drop (ev_call0 (ea_cons (ev_varI rfl) ea_nil) ⟨p.1, p.2, rfl, rfl, rfl⟩) is_refl)
def pre_rights_at : PreT := fun ss μ O => ∃ t p, ss = [.im (dTask t), Tp [.int (plE p), .int (plN p)], I (plL p)] ∧ μ = [] ∧ TkOk t ∧ PlOk p ∧ O = Is (Ls (iD (rightsZ t p))) []
theorem rightsZ_len (t : Tk) (p : Pl) : (rightsZ t p).length = t.rows.length := List.length_map ..
theorem ok_rights_at (T : Txt K mg) : FnOk P w K mg base CX0 (1 + 1) T.d_rights_at.f T.d_rights_at.fd P_rights_at (SpW K pre_rights_at) := by
  refine T.d_rights_at.F.ok sc_rights_at (sp_len fun ss μ O ⟨a, b, e, _⟩ => by rw [e]; rfl) (fun cdv A outer s H vs Q E hr h => ?_)
  refine ⟨_, (pss_cons (ps_asg (pv 1) (k_gtup (K := K) (n := 2) rfl rfl (pgs_cons (pg_name (i := 3) sc_rights_at.nd rfl (.inr rfl) (.inl rfl)) (pgs_cons (pg_name (i := 4) sc_rights_at.nd rfl (.inr rfl) (.inl rfl)) pgs_nil))))
    (pss_one (ps_ret (pe_lc (own := [("row", 5)]) rfl sc_rights_at.nd (k_piT (K := K) rfl (pe_ix (k_ix (K := K) rfl) (pv 0) pe_int (fun _ _ => rfl))) (blkOk_by (N := N_rights_at) (sc := defScope s_rights_at) (by decide +kernel)) (fun _ _ _ _ _ => (pg_name (i := 5) sc_rights_at.nd rfl (.inl rfl) (.inr rfl))) (fun _ _ _ _ _ => pts_nil) (fun _ _ _ _ _ => (pe_op (k_add (K := K) rfl) (pe_op (k_add (K := K) rfl) (pe_op op_mulA (pe_ix (k_ix (K := K) rfl) (pv 5) pe_int (fun _ _ => rfl)) (pv 2)) (pe_op op_mulA (pe_ix (k_ix (K := K) rfl) (pv 5) pe_int (fun _ _ => rfl)) (pv 3))) (pe_op op_mulA (pe_ix (k_ix (K := K) rfl) (pv 5) pe_int (fun _ _ => rfl)) (pv 4)))))))), ?_⟩
  refine fin h fun ss μ O ⟨t, p, e1, e2, ok, hp, e3⟩ => ?_
  subst e1 e2 e3
  have hh := ok.high
  obtain ⟨b1, b2, b3⟩ := pl_bi hp
  refine q_asg (ix := [3, 4]) (ev_varI rfl) (bnd_tup2 (d := .int (plE p)) (e := .int (plN p))) ?_
  refine t_ret (ev_map (ix := [5]) (es := iD (rightsZ t p)) (ei_tup (ds := t.rows.map dRow) (ev_op (ev_varI rfl) ev_int (rv_ixT (d := .tuple (t.rows.map dRow)) rfl))) glin_nil (by rw [List.length_map]; omega) (fun j h => h) (by rw [iD_len, rightsZ_len, List.length_map]) fun i d d' hd hd' => ?_) is_refl
  obtain ⟨r, hr', rfl⟩ := rows_get hd
  obtain ⟨n, hn, rfl⟩ := iD_get hd'
  unfold rightsZ at hn
  rw [List.getElem?_map, hr'] at hn
  cases hn
  have ho := ok.rows r (List.mem_of_getElem? hr')
  have r1 := ho.right
  have r2 := ho.east
  have r3 := ho.north
  exact ⟨_, bnd_name, ev_op (ev_op (ev_op (ev_op (ev_varI rfl) ev_int (rv_ixT (d := .int r.right) rfl)) (ev_varI rfl) (rv_mul (cmul_of (bi_small (by omega)) b3 (by decide) (by decide) (by decide)))) (ev_op (ev_op (ev_varI rfl) ev_int (rv_ixT (d := .int r.east) rfl)) (ev_varI rfl) (rv_mul (cmul_of (bi_small (by omega)) b1 (by decide) (by decide) (by decide)))) rv_add)
    (ev_op (ev_op (ev_varI rfl) ev_int (rv_ixT (d := .int r.north) rfl)) (ev_varI rfl) (rv_mul (cmul_of (bi_small (by omega)) b2 (by decide) (by decide) (by decide)))) rv_add⟩
abbrev dWp (p : Pl) : PyData := .tuple (iD [plE p, plN p, plL p])
def pre_whole_place : PreT := fun ss μ O => ∃ p, ss = [.im (dPl p)] ∧ μ = [] ∧ PlOk p ∧ O = Is (.im (dWp p)) []
theorem ok_whole_place (T : Txt K mg) : FnOk P w K mg base CX0 (3 + 1) T.d_whole_place.f T.d_whole_place.fd P_whole_place (SpW K pre_whole_place) := by
  refine T.d_whole_place.F.ok sc_whole_place (sp_len fun ss μ O ⟨a, e, _⟩ => by rw [e]; rfl) (fun cdv A outer s H vs Q E hr h => ?_)
  refine ⟨_, (pss_cons (ps_asg (pv 0) (k_gtup (K := K) (n := 2) rfl rfl (pgs_cons (pg_name (i := 2) sc_whole_place.nd rfl (.inl rfl) (.inr rfl)) (pgs_cons (pg_name (i := 3) sc_whole_place.nd rfl (.inl rfl) (.inr rfl)) pgs_nil))))
    (pss_cons (ps_set (i := 1) sc_whole_place.nd rfl (.inl rfl) (pe_op op_mulA (pe_ix (k_ix (K := K) rfl) (pv 2) pe_int (fun _ _ => rfl)) (pe_ix (k_ix (K := K) rfl) (pv 3) pe_int (fun _ _ => rfl))) (hf := .inr rfl))
    (pss_one (ps_ret (pe_call (ok_reduced T) (hr.mono (by decide)) (by rfl) T.m_reduced T.d_reduced.F.kp T.d_reduced.b .nil pass0 (pa_cons (pe_tup (pa_cons (pe_op op_mulA (pe_ix (k_ix (K := K) rfl) (pv 2) pe_int (fun _ _ => rfl)) (pe_ix (k_ix (K := K) rfl) (pv 3) pe_int (fun _ _ => rfl))) (pa_cons (pe_op op_mulA (pe_ix (k_ix (K := K) rfl) (pv 3) pe_int (fun _ _ => rfl)) (pe_ix (k_ix (K := K) rfl) (pv 2) pe_int (fun _ _ => rfl))) (pa_cons (pv 1) pa_nil)))) pa_nil)))))), ?_⟩
  refine fin h fun ss μ O ⟨p, e1, e2, hp, e3⟩ => ?_
  subst e1 e2 e3
  have g := pl_red p
  have n1 := hp.e.n.mul hp.n.dz
  have n2 := hp.n.n.mul hp.e.dz
  have n3 := hp.e.dz.mul hp.n.dz
  refine q_asg (ix := [2, 3]) (ev_varI rfl) (bnd_tup2 (d := dQ p.1) (e := dQ p.2)) ?_
  refine q_set (ev_op (ev_op (ev_varI rfl) ev_int (rv_ixT (ix1 p.1))) (ev_op (ev_varI rfl) ev_int (rv_ixT (ix1 p.2))) (rv_mul (cmul_of hp.e.dz hp.n.dz (by decide) (by decide) (by decide)))) ?_
  refine t_ret (ev_call0 (ea_cons (ev_tup (ds := iD [p.1.num * (p.2.den : Int), p.2.num * (p.1.den : Int), (p.1.den : Int) * (p.2.den : Int)]) (ea_cons (ev_op (ev_op (ev_varI rfl) ev_int (rv_ixT (ix0 p.1))) (ev_op (ev_varI rfl) ev_int (rv_ixT (ix1 p.2))) (rv_mul (cmul_of hp.e.n hp.n.dz (by decide) (by decide) (by decide))))
    (ea_cons (ev_op (ev_op (ev_varI rfl) ev_int (rv_ixT (ix0 p.2))) (ev_op (ev_varI rfl) ev_int (rv_ixT (ix1 p.1))) (rv_mul (cmul_of hp.n.n hp.e.dz (by decide) (by decide) (by decide)))) (ea_cons (ev_varI rfl) ea_nil))) (by simp)) ea_nil) ⟨_, rfl, rfl, by simp, fun n hn => ?_, by rw [g]⟩) is_refl
  simp only [List.mem_cons, List.not_mem_nil, or_false] at hn
  rcases hn with rfl | rfl | rfl
  · exact n1.mono (by decide)
  · exact n2.mono (by decide)
  · exact n3.mono (by decide)
def pre_need_fractions : PreT := fun ss μ O => ∃ qs : List Rat, ss = [Tp (dQs qs), I (qs.length : Int)] ∧ μ = [] ∧ qs.length ≤ 1000 ∧ O = Is (.im .none) []
theorem ok_need_fractions (T : Txt K mg) : FnOk P w K mg base CX0 (3 + 1) T.d_need_fractions.f T.d_need_fractions.fd P_need_fractions (SpW K pre_need_fractions) := by
  refine T.d_need_fractions.F.ok sc_need_fractions (sp_len fun ss μ O ⟨a, e, _⟩ => by rw [e]; rfl) (fun cdv A outer s H vs Q E hr h => ?_)
  refine ⟨_, (pss_one (ps_if (PW.pt (pw_or (pt_not (pt_val (pe_callB (k_isi (K := K) rfl) (by rfl) T.b_isinstance (by decide +kernel) (pa_cons (pv 0) (pa_cons (pe_bltn (v := .ty "tuple") (by rfl) T.b_tuple (by decide +kernel) rfl) pa_nil))))) (pw_or (pt_cmpR (k_neD (K := K) hr.units rfl) (pe_callB (k_len (K := K) rfl) (by rfl) T.b_len (by decide +kernel) (pa_cons (pv 0) pa_nil)) (pv 1) (nomark _)) (pw_or1 (pt_not (pt_val (pe_callB (k_all (K := K) rfl rfl) (by rfl) T.b_all (by decide +kernel) (pa_cons (pe_lc (own := [("one", 2)]) rfl sc_need_fractions.nd (k_piT (K := K) rfl (pv 0)) (blkOk_by (N := N_need_fractions) (sc := defScope s_need_fractions) (by decide +kernel)) (fun _ _ _ _ _ => (pg_name (i := 2) sc_need_fractions.nd rfl (.inl rfl) (.inr rfl))) (fun _ _ _ _ _ => pts_nil) (fun _ _ _ _ _ => (pe_call (ok_is_fraction T) (hr.mono (by decide)) (by rfl) T.m_is_fraction T.d_is_fraction.F.kp T.d_is_fraction.b .nil pass0 (pa_cons (pv 2) pa_nil)))) pa_nil))))))))
      pss_never
      pss_nil)), ?_⟩
  refine fin h fun ss μ O ⟨qs, e1, e2, hl, e3⟩ => ?_
  subst e1 e2 e3
  have hb : (List.replicate qs.length true).all id = true := by rw [List.all_eq_true]; intro b hb; rw [List.eq_of_mem_replicate hb]; rfl
  refine t_no1 (et_or (c := false) (d := false) (et_not (c := true) (et_val (ev_isi (ev_varI rfl) kTT))) fun _ =>
    et_or (c := false) (d := false) ?_ fun _ => et_not (c := true) (et_val ?_)) is_refl
  · have := et_op (K := K) (δ := [Tp (dQs qs), I (qs.length : Int), .un]) (μ := []) (ev_cb (ea_cons (ev_varI (i := 0) rfl) ea_nil) rc_lenT) (ev_varI (i := 1) rfl) rv_neI
    rw [dQs_len, decide_eq_true rfl] at this
    exact this
  · rw [← hb]
    refine ev_cb (ea_cons (ev_map (ix := [2]) (es := (List.replicate qs.length true).map PyData.bool) (ei_tup (ds := dQs qs) (ev_varI rfl)) glin_nil (by rw [dQs_len]; omega) (fun j h => h) (by rw [List.length_map, List.length_replicate, dQs_len]) fun i d d' hd hd' => ?_) ea_nil) rc_all
    obtain ⟨z, hz, rfl⟩ := dQs_get hd
    have hi := (List.getElem?_eq_some_iff.mp hz).1
    have ee : d' = .bool true := by
      rw [List.getElem?_map, List.getElem?_replicate, if_pos hi] at hd'
      cases hd'
      rfl
    rw [ee]
    exact ⟨_, bnd_name, ev_call0 (ea_cons (ev_varI rfl) ea_nil) ⟨z, rfl, rfl, rfl⟩⟩
def pre_whole : PreT := fun ss μ O => ∃ qs : List Rat, ss = [Tp (dQs qs)] ∧ μ = [] ∧ qs.length ≤ 3 ∧ (∀ q ∈ qs, Bq 700 q) ∧ O = Is (Tp [.list (iD (wholeN (lowQ qs) qs)), .int (lowQ qs)]) []
theorem wholeN_len (l : Int) (qs : List Rat) : (wholeN l qs).length = qs.length := List.length_map ..
theorem wholeN_bi {qs : List Rat} {low : Int} {k : Nat} (h : ∀ q ∈ qs, Bq 700 q) (hl : Bi k low) : ∀ z ∈ wholeN low qs, Bi (700 + k) z := fun z hz => by
  obtain ⟨q, hq, rfl⟩ := List.mem_map.mp hz
  exact (h q hq).n.mul hl.div
theorem ok_whole (T : Txt K mg) : FnOk P w K mg base CX0 (1 + 1) T.d_whole.f T.d_whole.fd P_whole (SpW K pre_whole) := by
  refine T.d_whole.F.ok sc_whole (sp_len fun ss μ O ⟨a, e, _⟩ => by rw [e]; rfl) (fun cdv A outer s H vs Q E hr h => ?_)
  refine ⟨_, (pss_cons (ps_set (i := 1) sc_whole.nd rfl (.inr rfl) pe_int (hf := .inl rfl))
    (pss_cons (ps_for PassesOwn.never rfl (k_piT (K := K) rfl (pv 0)) (pg_name (i := 2) sc_whole.nd rfl (.inl rfl) (.inr rfl))
      (pss_one (ps_set (i := 1) sc_whole.nd rfl (.inr rfl) (pe_op op_mulA (pv 1) (pe_ix (k_ix (K := K) rfl) (pv 2) pe_int (fun _ _ => rfl))) (hf := .inl rfl))))
    (pss_one (ps_ret (pe_tup (pa_cons (pe_lc (own := [("one", 2)]) rfl sc_whole.nd (k_piT (K := K) rfl (pv 0)) (blkOk_by (N := N_whole) (sc := defScope s_whole) (by decide +kernel)) (fun _ _ _ _ _ => (pg_name (i := 2) sc_whole.nd rfl (.inl rfl) (.inr rfl))) (fun _ _ _ _ _ => pts_nil) (fun _ _ _ _ _ => (pe_op op_mulA (pe_ix (k_ix (K := K) rfl) (pv 2) pe_int (fun _ _ => rfl)) (pe_op op_divA (pv 1) (pe_ix (k_ix (K := K) rfl) (pv 2) pe_int (fun _ _ => rfl)))))) (pa_cons (pv 1) pa_nil))))))), ?_⟩
  refine fin h fun ss μ O ⟨qs, e1, e2, hl, hb, e3⟩ => ?_
  subst e1 e2 e3
  have hlow := lowQ_bi hl hb
  refine q_set (ev_int (i := 1)) ?_
  refine t_seq (M := fun a b => ∃ x, a = [Tp (dQs qs), I (lowQ qs), x] ∧ b = []) ?_ fun a b ⟨x, e1, e2⟩ => ?_
  · refine t_for (ix := [2]) (ei_tup (ds := dQs qs) (ev_varI rfl)) (fun i a b => ∃ x, a = [Tp (dQs qs), I (lowQ (qs.take i)), x] ∧ b = []) ⟨_, rfl, rfl⟩ (fun _ _ _ _ => glin_nil) (fun i d a b hd ⟨x, e1, e2⟩ => ?_) fun a b ⟨x, e1, e2⟩ => ?_
    · subst e1 e2
      obtain ⟨q, hq, rfl⟩ := dQs_get hd
      have hq2 := hb q (List.mem_of_getElem? hq)
      have hlo := lowQ_bi (qs := qs.take i) (by rw [List.length_take]; omega) fun y hy => hb y (List.mem_of_mem_take hy)
      refine ⟨_, bnd_name, t_set (ev_op (ev_varI rfl) (ev_op (ev_varI rfl) ev_int (rv_ixT (ix1 q))) (rv_mul (cmul_of hlo hq2.dz (by decide) (by decide) (by decide)))) ⟨.im (dQ q), ?_, rfl⟩⟩
      have e : lowQ (qs.take (i + 1)) = lowQ (qs.take i) * (q.den : Int) := by
        unfold lowQ
        rw [List.take_add_one, hq, List.foldl_append]
        rfl
      rw [e]
      rfl
    · subst e1 e2
      refine ⟨x, ?_, rfl⟩
      rw [dQs_len, List.take_length]
  · subst e1 e2
    refine t_ret (ev_tup (ds := [.list (iD (wholeN (lowQ qs) qs)), .int (lowQ qs)]) (ea_cons (ev_map (ix := [2]) (es := iD (wholeN (lowQ qs) qs)) (ei_tup (ds := dQs qs) (ev_varI rfl)) glin_nil (by rw [dQs_len]; omega) (fun j h => h) (by rw [iD_len, wholeN_len, dQs_len]) fun i d d' hd hd' => ?_) (ea_cons (ev_varI rfl) ea_nil)) (by simp)) is_refl
    obtain ⟨q, hq, rfl⟩ := dQs_get hd
    have hq2 := hb q (List.mem_of_getElem? hq)
    have ee : d' = .int (q.num * (lowQ qs / (q.den : Int))) := by
      unfold wholeN iD at hd'
      rw [List.getElem?_map, List.getElem?_map, hq] at hd'
      cases hd'
      rfl
    rw [ee]
    exact ⟨_, bnd_name, ev_op (ev_op (ev_varI rfl) ev_int (rv_ixT (ix0 q))) (ev_op (ev_varI rfl) (ev_op (ev_varI rfl) ev_int (rv_ixT (ix1 q))) (rv_div (cdiv_of q.den_pos hq2.d (by decide) (by decide)))) (rv_mul (cmul_of hq2.n (hlow.div (g := q.den)) (by decide) (by decide) (by decide)))⟩
end
end WM

set_option Elab.async false
set_option linter.all false
set_option maxRecDepth 100000
set_option maxHeartbeats 2000000
namespace WM
open PySem PySem.Spec PyProof.Rows L2 StX

/-! ### whole numbers against fractions -/
theorem lowR_pos {l : Int} (h : 0 < l) : (0 : Rat) < (l : Rat) := by exact_mod_cast h
theorem gt_iff {ns : List Int} {ys : List Rat} {c : Int} : (c * lowQ ys < dotL ns (wholeN (lowQ ys) ys)) ↔ ((c : Rat) < innerR ns ys) := by
  have e := dot_eq (low := lowQ ys) ns ys fun q hq => lowQ_dvd hq
  rw [← Rat.mul_lt_mul_right (lowR_pos (lowQ_pos ys)), ← e, ← Rat.intCast_mul]
  exact_mod_cast Iff.rfl
theorem le_iff {r : Rw} {p : Pl} {qs : List Rat} : ((r.right * plL p + r.east * plE p + r.north * plN p) * lowQ qs ≤ dotL r.nums (wholeN (lowQ qs) qs) * plL p) ↔ (atR r.east r.north r.right p ≤ innerR r.nums qs) := by
  have e := dot_eq (low := lowQ qs) r.nums qs fun q hq => lowQ_dvd hq
  have e2 := rightZ_eq r p
  have h1 := lowR_pos (lowQ_pos qs)
  have h2 := lowR_pos (plL_pos p)
  have h3 : (0 : Rat) < ((plL p : Int) : Rat) * ((lowQ qs : Int) : Rat) := Rat.mul_pos h2 h1
  rw [← Rat.not_lt, ← Int.not_lt]
  refine not_congr ?_
  rw [← Rat.mul_lt_mul_right h3]
  have : (innerR r.nums qs * (((plL p : Int) : Rat) * ((lowQ qs : Int) : Rat)) < atR r.east r.north r.right p * (((plL p : Int) : Rat) * ((lowQ qs : Int) : Rat))) ↔ (((dotL r.nums (wholeN (lowQ qs) qs) * plL p : Int) : Rat) < (((r.right * plL p + r.east * plE p + r.north * plN p) * lowQ qs : Int) : Rat)) := by
    rw [Rat.intCast_mul, Rat.intCast_mul, e, e2]
    rw [show innerR r.nums qs * (((plL p : Int) : Rat) * ((lowQ qs : Int) : Rat)) = innerR r.nums qs * ((lowQ qs : Int) : Rat) * ((plL p : Int) : Rat) by grind, show atR r.east r.north r.right p * (((plL p : Int) : Rat) * ((lowQ qs : Int) : Rat)) = atR r.east r.north r.right p * ((plL p : Int) : Rat) * ((lowQ qs : Int) : Rat) by grind]
  rw [this]
  exact_mod_cast Iff.rfl
theorem divInt_of {a b : Int} {q : Rat} (hb : b ≠ 0) (h : (a : Rat) = q * (b : Rat)) : Rat.divInt a b = q := by
  have hb' : (b : Rat) ≠ 0 := fun z => hb (by exact_mod_cast z)
  rw [Rat.divInt_eq_div, h]
  exact Rat.mul_div_cancel hb'
theorem dotL_bi {k : Nat} : ∀ (ns ms : List Int), ns.length ≤ 3 → (∀ a ∈ ns, ∀ b ∈ ms, Bi k (a * b)) → Bi (k + 3) (dotL ns ms) := by
  have key : ∀ (zs : List Int) (m : Nat), zs.length ≤ m → (∀ z ∈ zs, Bi k z) → Bi (k + m) zs.sum := by
    intro zs
    induction zs with
    | nil => intro m _ _; exact bi0
    | cons z zs ih =>
      intro m hm hz
      obtain ⟨m, rfl⟩ : ∃ m', m = m' + 1 := ⟨m - 1, by rw [List.length_cons] at hm; omega⟩
      rw [List.length_cons] at hm
      rw [List.sum_cons]
      exact ((hz z (by simp)).mono (show k ≤ k + m by omega)).add (ih m (by omega) fun y hy => hz y (by simp [hy]))
  intro ns ms hl h
  refine key _ 3 (by rw [List.length_zipWith]; omega) fun z hz => ?_
  obtain ⟨i, hi⟩ := List.mem_iff_getElem?.mp hz
  rw [List.getElem?_zipWith] at hi
  cases e1 : ns[i]? with
  | none => rw [e1] at hi; cases hi
  | some a =>
    cases e2 : ms[i]? with
    | none => rw [e1, e2] at hi; cases hi
    | some b =>
      rw [e1, e2] at hi
      cases hi
      exact h a (List.mem_of_getElem? e1) b (List.mem_of_getElem? e2)
theorem prom_eq (p : Pl) : ∀ (rows : List Rw) (ys : List Rat), innerR (rows.map fun r => r.right * plL p + r.east * plE p + r.north * plN p) ys = (List.zipWith (fun (a b : Rat) => a * b) (rows.map fun r => atR r.east r.north r.right p) ys).foldl (· + ·) 0 * ((plL p : Int) : Rat)
  | [], ys => by simp [innerR, Rat.zero_mul]
  | r :: rows, [] => by simp [innerR, Rat.zero_mul]
  | r :: rows, y :: ys => by
    rw [List.map_cons, List.map_cons, innerR_cons, prom_eq p rows ys, List.zipWith_cons_cons, List.foldl_cons, foldl_add _ (0 + _), rightZ_eq]
    grind
section
variable {P : Program} {w : World} {K : PySem.W.Frag} {mg : Str → Option Value} {base : Heap}
theorem ev_anyNeg {δ : DEnv} {te : TE} {qs : List Rat} {i : Nat} (hl : qs.length ≤ 3) (h : Ev K te δ [] (Ls (iD (wholeN (lowQ qs) qs))) []) (hi : i < δ.length) :
    Ev K (tCB (rAny K) (tCons (tLc (iList K te) (gName i) tYes (tOp (rI0 fun i j => V.bl (decide (i < j))) (tVar i) (tC (.int 0))) [i]) tNil)) δ [] (B (!decide (∀ q ∈ qs, 0 ≤ q))) [] := by
  rw [← wholeN_neg (lowQ_pos qs) fun q hq => lowQ_dvd hq]
  refine ev_cb (ea_cons (ev_map (ix := [i]) (es := ((wholeN (lowQ qs) qs).map fun n => decide (n < 0)).map PyData.bool) (ei_list h) glin_nil (by rw [iD_len, wholeN_len]; omega) (fun j h => h) (by rw [List.length_map, List.length_map, iD_len]) fun k d d' hd hd' => ?_) ea_nil) rc_any
  obtain ⟨z, hz, rfl⟩ := iD_get hd
  have ee : d' = .bool (decide (z < 0)) := by
    rw [List.getElem?_map, List.getElem?_map, hz] at hd'
    cases hd'
    rfl
  rw [ee]
  have hlen : i < (wipeD δ [i]).length := by rw [wipeD_len]; exact hi
  exact ⟨_, bnd_name, ev_op (ev_varI (List.getElem?_set_self hlen)) ev_int rv_lt⟩
def pre_is_paper_of : PreT := fun ss μ O => ∃ t ys, ss = [.im (dTask t), Tp (dQs ys)] ∧ μ = [] ∧ TkOk t ∧ ys.length = t.rows.length ∧ (∀ q ∈ ys, Bq 700 q) ∧ O = Is (B (decide (Pays t ys))) []
theorem ok_is_paper_of (T : Txt K mg) : FnOk P w K mg base CX0 (2 + 1) T.d_is_paper_of.f T.d_is_paper_of.fd P_is_paper_of (SpW K pre_is_paper_of) := by
  refine T.d_is_paper_of.F.ok sc_is_paper_of (sp_len fun ss μ O ⟨a, b, e, _⟩ => by rw [e]; rfl) (fun cdv A outer s H vs Q E hr h => ?_)
  refine ⟨_, (pss_cons (ps_asg (pe_call (ok_whole T) (hr.mono (by decide)) (by rfl) T.m_whole T.d_whole.F.kp T.d_whole.b .nil pass0 (pa_cons (pv 1) pa_nil)) (k_gtup (K := K) (n := 2) rfl rfl (pgs_cons (pg_name (i := 2) sc_is_paper_of.nd rfl (.inl rfl) (.inr rfl)) (pgs_cons (pg_name (i := 3) sc_is_paper_of.nd rfl (.inl rfl) (.inr rfl)) pgs_nil))))
    (pss_cons (ps_if (pt_val (pe_callB (k_any (K := K) rfl rfl) (by rfl) T.b_any (by decide +kernel) (pa_cons (pe_lc (own := [("one", 6)]) rfl sc_is_paper_of.nd (k_piL (K := K) rfl (pv 2)) (blkOk_by (N := N_is_paper_of) (sc := defScope s_is_paper_of) (by decide +kernel)) (fun _ _ _ _ _ => (pg_name (i := 6) sc_is_paper_of.nd rfl (.inl rfl) (.inr rfl))) (fun _ _ _ _ _ => pts_nil) (fun _ _ _ _ _ => (pe_cmpR op_lt (pv 6) pe_int (nomark _)))) pa_nil)))
      (pss_one (ps_ret pe_bl))
      pss_nil)
    (pss_cons (ps_for PassesOwn.never rfl (k_enumT (K := K) rfl (by rfl) T.b_enumerate (pa_cons (pe_ix (k_ix (K := K) rfl) (pv 0) pe_int (fun _ _ => rfl)) pa_nil)) (k_gtup (K := K) (n := 2) rfl rfl (pgs_cons (pg_name (i := 4) sc_is_paper_of.nd rfl (.inr rfl) (.inl rfl)) (pgs_cons (pg_name (i := 5) sc_is_paper_of.nd rfl (.inl rfl) (.inr rfl)) pgs_nil)))
      (pss_one (ps_if (pt_cmpR op_gt (pe_call (ok_inner T) (hr.mono (by decide)) (by rfl) T.m_inner T.d_inner.F.kp T.d_inner.b .nil pass0 (pa_cons (pe_lc (own := [("row", 7)]) rfl sc_is_paper_of.nd (k_piT (K := K) rfl (pe_ix (k_ix (K := K) rfl) (pv 0) pe_int (fun _ _ => rfl))) (blkOk_by (N := N_is_paper_of) (sc := defScope s_is_paper_of) (by decide +kernel)) (fun _ _ _ _ _ => (pg_name (i := 7) sc_is_paper_of.nd rfl (.inl rfl) (.inr rfl))) (fun _ _ _ _ _ => pts_nil) (fun _ _ _ _ _ => (pe_ix (k_ix (K := K) rfl) (pe_ix (k_ix (K := K) rfl) (pv 7) pe_int (fun _ _ => rfl)) (pv 4) (fun _ _ => rfl)))) (pa_cons (pv 2) pa_nil))) (pe_op op_mulA (pv 5) (pv 3)) (nomark _))
        (pss_one (ps_ret pe_bl))
        pss_nil)))
    (pss_one (ps_ret pe_bl))))), ?_⟩
  refine fin h fun ss μ O ⟨t, ys, e1, e2, ht, hl, hb, e3⟩ => ?_
  subst e1 e2 e3
  have hw := ht.wide
  have hh := ht.high
  have hlow := lowQ_bi (k := 700) (by omega) hb
  have hwb := wholeN_bi hb hlow
  refine q_asg (ix := [2, 3]) (ev_call0 (ea_cons (ev_varI rfl) ea_nil) ⟨ys, rfl, rfl, by omega, hb, rfl⟩) (bnd_tup2 (d := .list (iD (wholeN (lowQ ys) ys))) (e := .int (lowQ ys))) ?_
  refine q_if (et_val (ev_anyNeg (i := 6) (by omega) (ev_varI rfl) (show 6 < 8 by decide))) (fun hc => ?_) (fun hc => ?_)
  · have hn : ¬ ∀ q ∈ ys, 0 ≤ q := fun z => by rw [decide_eq_true z] at hc; cases hc
    refine q_retS (t_ret (s := B false) ev_bl ?_)
    have : decide (Pays t ys) = false := decide_eq_false fun z => hn z.1
    rw [this]
    exact is_refl
  have hn : ∀ q ∈ ys, 0 ≤ q := by
    apply Classical.byContradiction
    intro z
    rw [decide_eq_false z] at hc
    cases hc
  refine q_next ?_
  refine t_seq (M := fun a b => ∃ x4 x5, a = [.im (dTask t), Tp (dQs ys), Ls (iD (wholeN (lowQ ys) ys)), I (lowQ ys), x4, x5, .un, .un] ∧ b = [] ∧ ∀ j, j < t.costs.length → innerR (colZ t j) ys ≤ ((t.costs.getD j 0 : Int) : Rat)) ?_ fun a b ⟨x4, x5, e1, e2, hall⟩ => ?_
  · refine t_for (ix := [4, 5]) (ei_enumT (ds := iD t.costs) (ea_cons (ev_op (ev_varI rfl) ev_int (rv_ixT (d := .tuple (iD t.costs)) rfl)) ea_nil)) (fun i a b => ∃ x4 x5, a = [.im (dTask t), Tp (dQs ys), Ls (iD (wholeN (lowQ ys) ys)), I (lowQ ys), x4, x5, .un, .un] ∧ b = [] ∧ ∀ j, j < i → innerR (colZ t j) ys ≤ ((t.costs.getD j 0 : Int) : Rat)) ⟨_, _, rfl, rfl, fun j hj => absurd hj (Nat.not_lt_zero _)⟩ (fun _ _ _ _ => glin_nil) (fun i d a b hd ⟨x4, x5, e1, e2, hall⟩ => ?_) fun a b ⟨x4, x5, e1, e2, hall⟩ => ?_
    · subst e1 e2
      obtain ⟨d0, hd0, rfl⟩ := enumD_get' hd
      obtain ⟨c, hc', rfl⟩ := iD_get hd0
      have hi := (List.getElem?_eq_some_iff.mp hc').1
      have gc : t.costs.getD i 0 = c := by rw [List.getD_eq_getElem?_getD, hc']; rfl
      refine ⟨_, bnd_tup2, ?_⟩
      have hcol : Ev K (tLc (iTup K (tOp (rIx K) (tVar 0) (tC (.int 1)))) (gName 7) tYes (tOp (rIx K) (tOp (rIx K) (tVar 7) (tC (.int 0))) (tVar 4)) [7]) [.im (dTask t), Tp (dQs ys), Ls (iD (wholeN (lowQ ys) ys)), I (lowQ ys), I (i : Int), I c, .un, .un] [] (Ls (iD (colZ t i))) [] := by
        refine ev_map (ix := [7]) (ei_tup (ds := t.rows.map dRow) (ev_op (ev_varI rfl) ev_int (rv_ixT (d := .tuple (t.rows.map dRow)) rfl))) glin_nil (by rw [List.length_map]; omega) (fun j h => h) (by rw [iD_len, col_len, List.length_map]) fun k d e hd he => ?_
        obtain ⟨r, hr', rfl⟩ := rows_get hd
        obtain ⟨n, hn', rfl⟩ := iD_get he
        rw [col_at hr'] at hn'
        cases hn'
        have ho := ht.rows r (List.mem_of_getElem? hr')
        exact ⟨_, bnd_name, ev_op (ev_op (ev_varI rfl) ev_int (rv_ixT (d := .tuple (iD r.nums)) rfl)) (ev_varI rfl) (rv_ixT (at_nat (iD_at (getD_at (by rw [ho.len]; exact hi)))))⟩
      refine t_if (et_op (ev_call0 (ea_cons hcol (ea_cons (ev_varI rfl) ea_nil)) ⟨colZ t i, wholeN (lowQ ys) ys, _, rfl, .inr rfl, rfl, by rw [col_len]; omega, fun n hn => (ht.col8 i n hn).mono (by decide), fun n hn => (hwb n hn).mono (by decide), rfl⟩) (ev_op (ev_varI rfl) (ev_varI rfl) (rv_mul (cmul_of (ht.cost8 c (List.mem_of_getElem? hc')) hlow (by decide) (by decide) (by decide)))) rv_gt) (fun hc => ?_) (fun hc => ?_)
      · have hlt := gt_iff.mp (of_decide_eq_true hc)
        refine t_ret (s := B false) ev_bl ?_
        have : decide (Pays t ys) = false := decide_eq_false fun z => absurd (z.2 i hi) (Rat.not_le.mpr (by rw [gc]; exact hlt))
        rw [this]
        exact is_refl
      · have hge : ¬ ((c : Rat) < innerR (colZ t i) ys) := fun z => of_decide_eq_false hc (gt_iff.mpr z)
        refine t_next ⟨_, _, rfl, rfl, fun j hj => ?_⟩
        by_cases e : j = i
        · subst e
          rw [gc]
          exact Rat.not_lt.mp hge
        · exact hall j (by omega)
    · subst e1 e2
      rw [enumD_len, iD_len] at hall
      exact ⟨_, _, rfl, rfl, hall⟩
  · subst e1 e2
    refine t_ret (s := B true) ev_bl ?_
    have : decide (Pays t ys) = true := decide_eq_true ⟨hn, hall⟩
    rw [this]
    exact is_refl
def pre_is_plan_of : PreT := fun ss μ O => ∃ t p qs, ss = [.im (dTask t), .im (dPl p), Tp (dQs qs)] ∧ μ = [] ∧ TkOk t ∧ PlOk p ∧ qs.length = t.costs.length ∧ (∀ q ∈ qs, Bq 700 q) ∧ O = Is (B (decide (Keeps t p qs))) []
theorem rightZ_bi {t : Tk} {p : Pl} (ht : TkOk t) (hp : PlOk p) : ∀ z ∈ rightsZ t p, Bi 20 z := fun z hz => by
  obtain ⟨r, hr, rfl⟩ := List.mem_map.mp hz
  have ho := ht.rows r hr
  have r1 := ho.right
  have r2 := ho.east
  have r3 := ho.north
  obtain ⟨b1, b2, b3⟩ := pl_bi hp
  have m1 : Bi 14 (r.right * plL p) := (bi_small (by omega)).mul b3
  have m2 : Bi 14 (r.east * plE p) := (bi_small (by omega)).mul b1
  have m3 : Bi 14 (r.north * plN p) := (bi_small (by omega)).mul b2
  exact ((m1.add m2).add (m3.mono (by decide))).mono (by decide)
theorem ok_is_plan_of (T : Txt K mg) : FnOk P w K mg base CX0 (4 + 1) T.d_is_plan_of.f T.d_is_plan_of.fd P_is_plan_of (SpW K pre_is_plan_of) := by
  refine T.d_is_plan_of.F.ok sc_is_plan_of (sp_len fun ss μ O ⟨a, b, c, e, _⟩ => by rw [e]; rfl) (fun cdv A outer s H vs Q E hr h => ?_)
  refine ⟨_, (pss_cons (ps_asg (pe_call (ok_whole_place T) (hr.mono (by decide)) (by rfl) T.m_whole_place T.d_whole_place.F.kp T.d_whole_place.b .nil pass0 (pa_cons (pv 1) pa_nil)) (k_gtup (K := K) (n := 3) rfl rfl (pgs_cons (pg_name (i := 4) sc_is_plan_of.nd rfl (.inl rfl) (.inr rfl)) (pgs_cons (pg_name (i := 5) sc_is_plan_of.nd rfl (.inl rfl) (.inr rfl)) (pgs_cons (pg_name (i := 6) sc_is_plan_of.nd rfl (.inr rfl) (.inl rfl)) pgs_nil)))))
    (pss_cons (ps_asg (pe_call (ok_whole T) (hr.mono (by decide)) (by rfl) T.m_whole T.d_whole.F.kp T.d_whole.b .nil pass0 (pa_cons (pv 2) pa_nil)) (k_gtup (K := K) (n := 2) rfl rfl (pgs_cons (pg_name (i := 7) sc_is_plan_of.nd rfl (.inr rfl) (.inl rfl)) (pgs_cons (pg_name (i := 8) sc_is_plan_of.nd rfl (.inr rfl) (.inl rfl)) pgs_nil))))
    (pss_cons (ps_if (pt_val (pe_callB (k_any (K := K) rfl rfl) (by rfl) T.b_any (by decide +kernel) (pa_cons (pe_lc (own := [("one", 9)]) rfl sc_is_plan_of.nd (k_piL (K := K) rfl (pv 7)) (blkOk_by (N := N_is_plan_of) (sc := defScope s_is_plan_of) (by decide +kernel)) (fun _ _ _ _ _ => (pg_name (i := 9) sc_is_plan_of.nd rfl (.inl rfl) (.inr rfl))) (fun _ _ _ _ _ => pts_nil) (fun _ _ _ _ _ => (pe_cmpR op_lt (pv 9) pe_int (nomark _)))) pa_nil)))
      (pss_one (ps_ret pe_bl))
      pss_nil)
    (pss_cons (ps_set (i := 3) sc_is_plan_of.nd rfl (.inl rfl) (pe_call (ok_rights_at T) (hr.mono (by decide)) (by rfl) T.m_rights_at T.d_rights_at.F.kp T.d_rights_at.b .nil pass0 (pa_cons (pv 0) (pa_cons (pe_tup (pa_cons (pv 4) (pa_cons (pv 5) pa_nil))) (pa_cons (pv 6) pa_nil)))) (hf := .inr rfl))
    (pss_one (ps_ret (pe_callB (k_all (K := K) rfl rfl) (by rfl) T.b_all (by decide +kernel) (pa_cons (pe_lc (own := [("row", 10), ("right", 11)]) rfl sc_is_plan_of.nd (k_zipB (K := K) rfl (by rfl) T.b_zip (pa_cons (pe_ix (k_ix (K := K) rfl) (pv 0) pe_int (fun _ _ => rfl)) (pa_cons (pv 3) pa_nil))) (blkOk_by (N := N_is_plan_of) (sc := defScope s_is_plan_of) (by decide +kernel)) (fun _ _ _ _ _ => (k_gtup (K := K) (n := 2) rfl rfl (pgs_cons (pg_name (i := 10) sc_is_plan_of.nd rfl (.inl rfl) (.inr rfl)) (pgs_cons (pg_name (i := 11) sc_is_plan_of.nd rfl (.inl rfl) (.inr rfl)) pgs_nil)))) (fun _ _ _ _ _ => pts_nil) (fun _ _ _ _ _ => (pe_cmpR op_ge (pe_op op_mulA (pe_call (ok_inner T) (hr.mono (by decide)) (by rfl) T.m_inner T.d_inner.F.kp T.d_inner.b .nil pass0 (pa_cons (pe_ix (k_ix (K := K) rfl) (pv 10) pe_int (fun _ _ => rfl)) (pa_cons (pv 7) pa_nil))) (pv 6)) (pe_op op_mulA (pv 11) (pv 8)) (nomark _)))) pa_nil)))))))), ?_⟩
  refine fin h fun ss μ O ⟨t, p, qs, e1, e2, ht, hp, hl, hb, e3⟩ => ?_
  subst e1 e2 e3
  have hw := ht.wide
  have hh := ht.high
  have hlow := lowQ_bi (k := 700) (by omega) hb
  have hwb := wholeN_bi hb hlow
  obtain ⟨b1, b2, b3⟩ := pl_bi hp
  refine q_asg (ix := [4, 5, 6]) (ev_call0 (ea_cons (ev_varI rfl) ea_nil) ⟨p, rfl, rfl, hp, rfl⟩) (bnd_tup3 (d := .int (plE p)) (e := .int (plN p)) (f := .int (plL p))) ?_
  refine q_asg (ix := [7, 8]) (ev_call0 (ea_cons (ev_varI rfl) ea_nil) ⟨qs, rfl, rfl, by omega, hb, rfl⟩) (bnd_tup2 (d := .list (iD (wholeN (lowQ qs) qs))) (e := .int (lowQ qs))) ?_
  refine q_if (et_val (ev_anyNeg (i := 9) (by omega) (ev_varI rfl) (show 9 < 12 by decide))) (fun hc => ?_) (fun hc => ?_)
  · have hn : ¬ ∀ q ∈ qs, 0 ≤ q := fun z => by rw [decide_eq_true z] at hc; cases hc
    refine q_retS (t_ret (s := B false) ev_bl ?_)
    have : decide (Keeps t p qs) = false := decide_eq_false fun z => hn z.1
    rw [this]
    exact is_refl
  have hn : ∀ q ∈ qs, 0 ≤ q := by
    apply Classical.byContradiction
    intro z
    rw [decide_eq_false z] at hc
    cases hc
  refine q_next ?_
  refine q_set (ev_call0 (ea_cons (ev_varI rfl) (ea_cons (ev_tup (ds := [.int (plE p), .int (plN p)]) (ea_cons (ev_varI rfl) (ea_cons (ev_varI rfl) ea_nil)) (by simp)) (ea_cons (ev_varI rfl) ea_nil))) ⟨t, p, rfl, rfl, ht, hp, rfl⟩) ?_
  generalize hbs : (t.rows.map fun r => decide (atR r.east r.north r.right p ≤ innerR r.nums qs)) = bs
  have hbl : bs.length = t.rows.length := by rw [← hbs, List.length_map]
  have hkeep : decide (Keeps t p qs) = bs.all id := by
    rw [Bool.eq_iff_iff, decide_eq_true_iff, List.all_eq_true, ← hbs]
    constructor
    · intro hk b hb
      obtain ⟨r, hr, rfl⟩ := List.mem_map.mp hb
      exact decide_eq_true (hk.2 r hr)
    · intro hk
      exact ⟨hn, fun r hr => of_decide_eq_true (hk _ (List.mem_map.mpr ⟨r, hr, rfl⟩))⟩
  rw [hkeep]
  refine t_ret (ev_cb (ea_cons (ev_map (ix := [10, 11]) (es := bs.map PyData.bool) (ei_zipT (ds := t.rows.map dRow) (es := iD (rightsZ t p)) (ea_cons (ev_op (ev_varI rfl) ev_int (rv_ixT (d := .tuple (t.rows.map dRow)) rfl)) (ea_cons (ev_varI rfl) ea_nil))) glin_nil ?_ (fun j h => h) ?_ fun i d d' hd hd' => ?_) ea_nil) rc_all) is_refl
  · unfold zipD
    rw [List.length_zipWith, List.length_map]
    omega
  · unfold zipD
    rw [List.length_zipWith, List.length_map, List.length_map, iD_len, rightsZ_len, hbl]
    omega
  · obtain ⟨d1, d2, h1, h2, rfl⟩ := zipD_get hd
    obtain ⟨r, hr', rfl⟩ := rows_get h1
    obtain ⟨z, hz, rfl⟩ := iD_get h2
    have ho := ht.rows r (List.mem_of_getElem? hr')
    have hzb := rightZ_bi ht hp z (List.mem_of_getElem? hz)
    have ez : z = r.right * plL p + r.east * plE p + r.north * plN p := by
      unfold rightsZ at hz
      rw [List.getElem?_map, hr'] at hz
      cases hz
      rfl
    have ee : d' = .bool (decide (z * lowQ qs ≤ dotL r.nums (wholeN (lowQ qs) qs) * plL p)) := by
      rw [← hbs, List.getElem?_map, List.getElem?_map, hr'] at hd'
      cases hd'
      have : decide (atR r.east r.north r.right p ≤ innerR r.nums qs) = decide (z * lowQ qs ≤ dotL r.nums (wholeN (lowQ qs) qs) * plL p) := by
        rw [decide_eq_decide, ez]
        exact le_iff.symm
      exact congrArg PyData.bool this
    rw [ee]
    have hdot := dotL_bi (k := 2900) r.nums (wholeN (lowQ qs) qs) (by rw [ho.len]; omega) fun a ha b hb' => ((ho.b8 a ha).mul (hwb b hb')).mono (by decide)
    exact ⟨_, bnd_tup2, ev_op (ev_op (ev_call0 (ea_cons (ev_op (ev_varI rfl) ev_int (rv_ixT (d := .tuple (iD r.nums)) rfl)) (ea_cons (ev_varI rfl) ea_nil)) ⟨r.nums, wholeN (lowQ qs) qs, _, rfl, .inl rfl, rfl, by rw [ho.len]; omega, fun n hn => (ho.b8 n hn).mono (by decide), fun n hn => (hwb n hn).mono (by decide), rfl⟩) (ev_varI rfl) (rv_mul (cmul_of hdot b3 (by decide) (by decide) (by decide)))) (ev_op (ev_varI rfl) (ev_varI rfl) (rv_mul (cmul_of hzb hlow (by decide) (by decide) (by decide)))) rv_ge⟩
def ShowsW (t : Tk) (p : Pl) (qs ys : List Rat) : Prop := Keeps t p qs ∧ Pays t ys ∧ innerR t.costs qs = promR t p ys
instance (t : Tk) (p : Pl) (qs ys : List Rat) : Decidable (ShowsW t p qs ys) := by unfold ShowsW; exact inferInstance
def pre_shows_worth : PreT := fun ss μ O => ∃ t p qs ys, ss = [.im (dTask t), .im (dPl p), Tp (dQs qs), Tp (dQs ys)] ∧ μ = [] ∧ TkOk t ∧ PlOk p ∧ qs.length = t.costs.length ∧ (∀ q ∈ qs, Bq 700 q) ∧ ys.length = t.rows.length ∧ (∀ q ∈ ys, Bq 700 q) ∧ O = Is (B (decide (ShowsW t p qs ys))) []
theorem ok_shows_worth (T : Txt K mg) : FnOk P w K mg base CX0 (6 + 1) T.d_shows_worth.f T.d_shows_worth.fd P_shows_worth (SpW K pre_shows_worth) := by
  refine T.d_shows_worth.F.ok sc_shows_worth (sp_len fun ss μ O ⟨a, b, c, d, e, _⟩ => by rw [e]; rfl) (fun cdv A outer s H vs Q E hr h => ?_)
  refine ⟨_, (pss_cons (ps_expr (pe_call (ok_need_both T) (hr.mono (by decide)) (by rfl) T.m_need_both T.d_need_both.F.kp T.d_need_both.b .nil pass0 (pa_cons (pv 0) (pa_cons (pv 1) pa_nil))))
    (pss_cons (ps_expr (pe_call (ok_need_fractions T) (hr.mono (by decide)) (by rfl) T.m_need_fractions T.d_need_fractions.F.kp T.d_need_fractions.b .nil pass0 (pa_cons (pv 2) (pa_cons (pe_callB (k_len (K := K) rfl) (by rfl) T.b_len (by decide +kernel) (pa_cons (pe_ix (k_ix (K := K) rfl) (pv 0) pe_int (fun _ _ => rfl)) pa_nil)) pa_nil))))
    (pss_cons (ps_expr (pe_call (ok_need_fractions T) (hr.mono (by decide)) (by rfl) T.m_need_fractions T.d_need_fractions.F.kp T.d_need_fractions.b .nil pass0 (pa_cons (pv 3) (pa_cons (pe_callB (k_len (K := K) rfl) (by rfl) T.b_len (by decide +kernel) (pa_cons (pe_ix (k_ix (K := K) rfl) (pv 0) pe_int (fun _ _ => rfl)) pa_nil)) pa_nil))))
    (pss_cons (ps_if (PW.pt (pw_or (pt_not (pt_val (pe_call (ok_is_plan_of T) (hr.mono (by decide)) (by rfl) T.m_is_plan_of T.d_is_plan_of.F.kp T.d_is_plan_of.b .nil pass0 (pa_cons (pv 0) (pa_cons (pv 1) (pa_cons (pv 2) pa_nil)))))) (pw_or1 (pt_not (pt_val (pe_call (ok_is_paper_of T) (hr.mono (by decide)) (by rfl) T.m_is_paper_of T.d_is_paper_of.F.kp T.d_is_paper_of.b .nil pass0 (pa_cons (pv 0) (pa_cons (pv 3) pa_nil))))))))
      (pss_one (ps_ret pe_bl))
      pss_nil)
    (pss_cons (ps_asg (pe_call (ok_whole_place T) (hr.mono (by decide)) (by rfl) T.m_whole_place T.d_whole_place.F.kp T.d_whole_place.b .nil pass0 (pa_cons (pv 1) pa_nil)) (k_gtup (K := K) (n := 3) rfl rfl (pgs_cons (pg_name (i := 5) sc_shows_worth.nd rfl (.inl rfl) (.inr rfl)) (pgs_cons (pg_name (i := 6) sc_shows_worth.nd rfl (.inl rfl) (.inr rfl)) (pgs_cons (pg_name (i := 7) sc_shows_worth.nd rfl (.inl rfl) (.inr rfl)) pgs_nil)))))
    (pss_cons (ps_asg (pe_call (ok_whole T) (hr.mono (by decide)) (by rfl) T.m_whole T.d_whole.F.kp T.d_whole.b .nil pass0 (pa_cons (pv 3) pa_nil)) (k_gtup (K := K) (n := 2) rfl rfl (pgs_cons (pg_name (i := 8) sc_shows_worth.nd rfl (.inl rfl) (.inr rfl)) (pgs_cons (pg_name (i := 9) sc_shows_worth.nd rfl (.inl rfl) (.inr rfl)) pgs_nil))))
    (pss_cons (ps_asg (pe_call (ok_whole T) (hr.mono (by decide)) (by rfl) T.m_whole T.d_whole.F.kp T.d_whole.b .nil pass0 (pa_cons (pv 2) pa_nil)) (k_gtup (K := K) (n := 2) rfl rfl (pgs_cons (pg_name (i := 10) sc_shows_worth.nd rfl (.inl rfl) (.inr rfl)) (pgs_cons (pg_name (i := 11) sc_shows_worth.nd rfl (.inl rfl) (.inr rfl)) pgs_nil))))
    (pss_cons (ps_set (i := 4) sc_shows_worth.nd rfl (.inl rfl) (pe_call (ok_fraction T) (hr.mono (by decide)) (by rfl) T.m_fraction T.d_fraction.F.kp T.d_fraction.b .nil pass0 (pa_cons (pe_call (ok_inner T) (hr.mono (by decide)) (by rfl) T.m_inner T.d_inner.F.kp T.d_inner.b .nil pass0 (pa_cons (pe_call (ok_rights_at T) (hr.mono (by decide)) (by rfl) T.m_rights_at T.d_rights_at.F.kp T.d_rights_at.b .nil pass0 (pa_cons (pv 0) (pa_cons (pe_tup (pa_cons (pv 5) (pa_cons (pv 6) pa_nil))) (pa_cons (pv 7) pa_nil)))) (pa_cons (pv 8) pa_nil))) (pa_cons (pe_op op_mulA (pv 9) (pv 7)) pa_nil))) (hf := .inr rfl))
    (pss_one (ps_ret (pe_cmpR (k_eqD (K := K) hr.units rfl) (pe_call (ok_fraction T) (hr.mono (by decide)) (by rfl) T.m_fraction T.d_fraction.F.kp T.d_fraction.b .nil pass0 (pa_cons (pe_call (ok_inner T) (hr.mono (by decide)) (by rfl) T.m_inner T.d_inner.F.kp T.d_inner.b .nil pass0 (pa_cons (pe_ix (k_ix (K := K) rfl) (pv 0) pe_int (fun _ _ => rfl)) (pa_cons (pv 10) pa_nil))) (pa_cons (pv 11) pa_nil))) (pv 4) (nomark _)))))))))))), ?_⟩
  refine fin h fun ss μ O ⟨t, p, qs, ys, e1, e2, ht, hp, hl, hb, hl2, hb2, e3⟩ => ?_
  subst e1 e2 e3
  have hw := ht.wide
  have hh := ht.high
  have hlow := lowQ_bi (k := 700) (by omega) hb
  have hwb := wholeN_bi hb hlow
  have hlow2 := lowQ_bi (k := 700) (by omega) hb2
  have hwb2 := wholeN_bi hb2 hlow2
  obtain ⟨b1, b2, b3⟩ := pl_bi hp
  refine q_drop (ev_call0 (ea_cons (ev_varI rfl) (ea_cons (ev_varI rfl) ea_nil)) ⟨t, p, rfl, rfl, ht, rfl⟩) ?_
  have lt : Ev K (tCB (rLenQ K) (tCons (tOp (rIx K) (tVar 0) (tC (.int 0))) tNil)) [.im (dTask t), .im (dPl p), Tp (dQs qs), Tp (dQs ys), .un, .un, .un, .un, .un, .un, .un, .un] [] (I (qs.length : Int)) [] := by
    have := ev_cb (K := K) (δ := [.im (dTask t), .im (dPl p), Tp (dQs qs), Tp (dQs ys), .un, .un, .un, .un, .un, .un, .un, .un]) (μ := []) (ea_cons (ev_op (ev_varI (i := 0) rfl) (ev_int (i := 0)) (rv_ixT (d := .tuple (iD t.costs)) rfl)) ea_nil) rc_lenT
    rw [iD_len, ← hl] at this
    exact this
  have lt2 : Ev K (tCB (rLenQ K) (tCons (tOp (rIx K) (tVar 0) (tC (.int 1))) tNil)) [.im (dTask t), .im (dPl p), Tp (dQs qs), Tp (dQs ys), .un, .un, .un, .un, .un, .un, .un, .un] [] (I (ys.length : Int)) [] := by
    have := ev_cb (K := K) (δ := [.im (dTask t), .im (dPl p), Tp (dQs qs), Tp (dQs ys), .un, .un, .un, .un, .un, .un, .un, .un]) (μ := []) (ea_cons (ev_op (ev_varI (i := 0) rfl) (ev_int (i := 1)) (rv_ixT (d := .tuple (t.rows.map dRow)) rfl)) ea_nil) rc_lenT
    rw [List.length_map, ← hl2] at this
    exact this
  refine q_drop (ev_call0 (ea_cons (ev_varI rfl) (ea_cons lt ea_nil)) ⟨qs, rfl, rfl, by omega, rfl⟩) ?_
  refine q_drop (ev_call0 (ea_cons (ev_varI rfl) (ea_cons lt2 ea_nil)) ⟨ys, rfl, rfl, by omega, rfl⟩) ?_
  refine q_if (et_or (et_not (et_val (ev_call0 (ea_cons (ev_varI rfl) (ea_cons (ev_varI rfl) (ea_cons (ev_varI rfl) ea_nil))) ⟨t, p, qs, rfl, rfl, ht, hp, hl, hb, rfl⟩))) fun _ => et_not (et_val (ev_call0 (ea_cons (ev_varI rfl) (ea_cons (ev_varI rfl) ea_nil)) ⟨t, ys, rfl, rfl, ht, hl2, hb2, rfl⟩))) (fun hc => ?_) (fun hc => ?_)
  · refine q_retS (t_ret (s := B false) ev_bl ?_)
    have : decide (ShowsW t p qs ys) = false := decide_eq_false fun z => by
      rw [decide_eq_true z.1, decide_eq_true z.2.1] at hc
      cases hc
    rw [this]
    exact is_refl
  have hk : Keeps t p qs := by
    apply Classical.byContradiction
    intro z
    rw [decide_eq_false z] at hc
    cases hc
  have hpay : Pays t ys := by
    apply Classical.byContradiction
    intro z
    rw [decide_eq_false z, Bool.not_false, Bool.or_true] at hc
    cases hc
  refine q_next ?_
  refine q_asg (ix := [5, 6, 7]) (ev_call0 (ea_cons (ev_varI rfl) ea_nil) ⟨p, rfl, rfl, hp, rfl⟩) (bnd_tup3 (d := .int (plE p)) (e := .int (plN p)) (f := .int (plL p))) ?_
  refine q_asg (ix := [8, 9]) (ev_call0 (ea_cons (ev_varI rfl) ea_nil) ⟨ys, rfl, rfl, by omega, hb2, rfl⟩) (bnd_tup2 (d := .list (iD (wholeN (lowQ ys) ys))) (e := .int (lowQ ys))) ?_
  refine q_asg (ix := [10, 11]) (ev_call0 (ea_cons (ev_varI rfl) ea_nil) ⟨qs, rfl, rfl, by omega, hb, rfl⟩) (bnd_tup2 (d := .list (iD (wholeN (lowQ qs) qs))) (e := .int (lowQ qs))) ?_
  have hdot := dotL_bi (k := 2900) t.costs (wholeN (lowQ qs) qs) (by omega) fun a ha b hb' => ((ht.cost8 a ha).mul (hwb b hb')).mono (by decide)
  have hdot2 := dotL_bi (k := 2900) (rightsZ t p) (wholeN (lowQ ys) ys) (by rw [rightsZ_len]; omega) fun a ha b hb' => ((rightZ_bi ht hp a ha).mul (hwb2 b hb')).mono (by decide)
  have hl0 := lowQ_pos qs
  have hl1 := lowQ_pos ys
  have hl2' := plL_pos p
  have q1 : Rat.divInt (dotL t.costs (wholeN (lowQ qs) qs)) (lowQ qs) = innerR t.costs qs := divInt_of (by omega) (dot_eq _ _ fun q hq => lowQ_dvd hq)
  have q2 : Rat.divInt (dotL (rightsZ t p) (wholeN (lowQ ys) ys)) (lowQ ys * plL p) = promR t p ys := divInt_of (Int.mul_ne_zero (by omega) (by omega)) (by
    rw [dot_eq (rightsZ t p) ys fun q hq => lowQ_dvd hq, Rat.intCast_mul]
    unfold rightsZ
    rw [prom_eq]
    unfold promR rightsR
    grind)
  refine q_set (s := .im (dQ (promR t p ys))) (μ1 := []) (ev_call0 (ea_cons (ev_call0 (ea_cons (ev_call0 (ea_cons (ev_varI rfl) (ea_cons (ev_tup (ds := [.int (plE p), .int (plN p)]) (ea_cons (ev_varI rfl) (ea_cons (ev_varI rfl) ea_nil)) (by simp)) (ea_cons (ev_varI rfl) ea_nil))) ⟨t, p, rfl, rfl, ht, hp, rfl⟩) (ea_cons (ev_varI rfl) ea_nil))
    ⟨rightsZ t p, wholeN (lowQ ys) ys, _, rfl, .inr rfl, rfl, by rw [rightsZ_len]; omega, fun n hn => (rightZ_bi ht hp n hn).mono (by decide), fun n hn => (hwb2 n hn).mono (by decide), rfl⟩) (ea_cons (ev_op (ev_varI rfl) (ev_varI rfl) (rv_mul (cmul_of hlow2 b3 (by decide) (by decide) (by decide)))) ea_nil))
    ⟨_, _, rfl, rfl, Int.mul_ne_zero (by omega) (by omega), hdot2.mono (by decide), (hlow2.mul b3).mono (by decide), by rw [q2]⟩) ?_
  have hfin : decide (ShowsW t p qs ys) = PyData.eqv (dQ (innerR t.costs qs)) (dQ (promR t p ys)) := by
    rw [eqv_dQ, decide_eq_decide]
    exact ⟨fun z => z.2.2, fun z => ⟨hk, hpay, z⟩⟩
  rw [hfin]
  refine t_ret (ev_op (ev_call0 (s := .im (dQ (innerR t.costs qs))) (ea_cons (ev_call0 (ea_cons (ev_op (ev_varI rfl) ev_int (rv_ixT (d := .tuple (iD t.costs)) rfl)) (ea_cons (ev_varI rfl) ea_nil)) ⟨t.costs, wholeN (lowQ qs) qs, _, rfl, .inl rfl, rfl, by omega, fun n hn => (ht.cost8 n hn).mono (by decide), fun n hn => (hwb n hn).mono (by decide), rfl⟩) (ea_cons (ev_varI rfl) ea_nil))
    ⟨_, _, rfl, rfl, by omega, hdot.mono (by decide), hlow.mono (by decide), by rw [q1]⟩) (ev_varI rfl) (rv_eq (shaped_dQ _) (shaped_dQ _))) is_refl
end
end WM

set_option Elab.async false
set_option linter.all false
set_option maxHeartbeats 1000000
/-! The table of the solver as plain data: what each of its methods reckons. -/
namespace WM
structure Tab where
  wide : Nat
  high : Nat
  turned : List Bool
  lines : List (List Int)
  held : List Nat
  low : Int
  left : List Int
abbrev cell (r : List Int) (j : Nat) : Int := r.getD j 0
def Tab.line (S : Tab) (i : Nat) : List Int := S.lines.getD i []
def Tab.hold (S : Tab) (i : Nat) : Nat := S.held.getD i 0
def lastZ (r : List Int) : Int := r.getD (r.length - 1) 0
def unitN (v : Int) (n i : Nat) : List Int := (List.range n).map fun s => if s = i then v else 0
def clearedL (low : Int) (line lead : List Int) (col : Nat) : List Int := List.zipWith (fun one other => (one * cell lead col - other * cell line col) / low) line lead
def sgT (r : Int) : Int := if r < 0 then -1 else 1
def initLine (rows : List (List Int)) (rights : List Int) (i : Nat) : List Int :=
  (rows.getD i []).map (fun z => sgT (rights.getD i 0) * z) ++ unitN 1 rows.length i ++ [sgT (rights.getD i 0) * rights.getD i 0]
def initT (rows : List (List Int)) (rights : List Int) : Tab :=
  ⟨(rows.getD 0 []).length, rows.length, rights.map fun r => decide (r < 0), (List.range rows.length).map (initLine rows rights), (List.range rows.length).map fun i => (rows.getD 0 []).length + i, 1, []⟩
def weighStep (costs : List Int) (left : List Int) (p : List Int × Nat) : List Int := List.zipWith (fun one other => one - cell costs p.2 * other) left p.1
def weighT (costs : List Int) (S : Tab) : Tab :=
  { S with left := (S.lines.zip S.held).foldl (weighStep costs) (costs.map (fun z => S.low * z) ++ [0]) }
def negL (r : List Int) : List Int := r.map fun z => -z
def turnT (at_ col : Nat) (S : Tab) : List (List Int) := if cell (S.line at_) col < 0 then S.lines.set at_ (negL (S.line at_)) else S.lines
def changeT (at_ col : Nat) (S : Tab) : Tab :=
  { S with
    lines := (List.range S.high).map fun i => if i = at_ then (turnT at_ col S).getD at_ [] else clearedL S.low ((turnT at_ col S).getD i []) ((turnT at_ col S).getD at_ []) col
    left := clearedL S.low S.left ((turnT at_ col S).getD at_ []) col
    low := cell ((turnT at_ col S).getD at_ []) col
    held := S.held.set at_ col }
def gapT (S : Tab) (i k col : Nat) : Int := lastZ (S.line i) * cell (S.line k) col - lastZ (S.line k) * cell (S.line i) col
def soonerT (S : Tab) (i k col : Nat) : Bool := decide (gapT S i k col < 0) || (decide (gapT S i k col = 0) && decide ((S.hold i : Int) < (S.hold k : Int)))
def goStep (S : Tab) (col : Nat) (best : Option Nat) (i : Nat) : Option Nat :=
  if 0 < cell (S.line i) col then
    match best with
    | none => some i
    | some b => if soonerT S i b col then some i else some b
  else best
def goingT (S : Tab) (col : Nat) : Option Nat := (List.range S.high).foldl (goStep S col) none
def someT (many : Nat) (S : Tab) : List Nat := (List.range many).filter fun j => decide (cell S.left j < 0)
/-- shapes and sizes -/
structure TabOk0 (S : Tab) : Prop where
  h : 1 ≤ S.high ∧ S.high ≤ 3
  w : S.wide ≤ 6
  tl : S.turned.length = S.high
  ll : S.lines.length = S.high
  hl : S.held.length = S.high
  rl : ∀ r ∈ S.lines, r.length = S.wide + S.high + 1
  rb : ∀ r ∈ S.lines, ∀ z ∈ r, z.natAbs < 2 ^ 100
  lp : 0 < S.low
  lb : S.low.natAbs < 2 ^ 100
  hb : ∀ k ∈ S.held, k < S.wide + S.high
structure TabOk (S : Tab) : Prop extends TabOk0 S where
  fl : S.left.length = S.wide + S.high + 1
  fb : ∀ z ∈ S.left, z.natAbs < 2 ^ 100
inductive DescN (many : Nat) : Nat → Tab → Option Nat → Tab → Prop
  | stop {S : Tab} : TabOk S → someT many S = [] → DescN many 0 S none S
  | off {S : Tab} {c : Nat} {cs : List Nat} : TabOk S → someT many S = c :: cs → goingT S c = none → DescN many 0 S (some c) S
  | step {S S' : Tab} {c i n : Nat} {cs : List Nat} {r : Option Nat} : TabOk S → someT many S = c :: cs → goingT S c = some i → DescN many n (changeT i c S) r S' → DescN many (n + 1) S r S'
def planStep (w : Nat) (found : List Int) (p : List Int × Nat) : List Int := if p.2 < w then found.set p.2 (lastZ p.1) else found
def planT (S : Tab) : List Int := (S.lines.zip S.held).foldl (planStep S.wide) (List.replicate S.wide 0)
def payT (own : Int) (S : Tab) (i : Nat) : Int :=
  if S.turned.getD i false then -(own * S.low - cell S.left (S.wide + i)) else own * S.low - cell S.left (S.wide + i)
def paperT (own : Int) (S : Tab) : List Int := (List.range S.high).map (payT own S)
def nzT (S : Tab) (i : Nat) : List Nat := (List.range S.wide).filter fun j => !decide (cell (S.line i) j = 0)
def clearStep (S : Tab) (i : Nat) : Tab :=
  if S.wide ≤ S.hold i then
    match nzT S i with
    | [] => S
    | c :: _ => changeT i c S
  else S
def clearT (S : Tab) (k : Nat) : Tab := (List.range k).foldl clearStep S
inductive Told where
  | none (paper : List Int) (low : Int)
  | endless (plan : List Int) (low : Int)
  | best (plan paper : List Int) (low : Int)
def extRows (rows : List (List Int)) : List (List Int) := (List.range rows.length).map fun i => rows.getD i [] ++ unitN (-1) rows.length i
def costs1 (n m : Nat) : List Int := List.replicate (n + m) 0 ++ List.replicate m 1
def costs2 (costs : List Int) (m : Nat) : List Int := costs ++ List.replicate (2 * m) 0
inductive SolveRun (costs : List Int) (rows : List (List Int)) (rights : List Int) : Told → Prop
  | none {n : Nat} {r : Option Nat} {T1 : Tab} : DescN (costs.length + rows.length) n (weighT (costs1 costs.length rows.length) (initT (extRows rows) rights)) r T1 → TabOk T1 → lastZ T1.left ≠ 0 → SolveRun costs rows rights (.none (paperT 1 T1) T1.low)
  | endless {n n2 : Nat} {r : Option Nat} {c : Nat} {T1 T2 : Tab} : DescN (costs.length + rows.length) n (weighT (costs1 costs.length rows.length) (initT (extRows rows) rights)) r T1 → TabOk T1 → lastZ T1.left = 0 → (∀ k, k ≤ T1.high → TabOk (clearT T1 k)) →
      DescN (costs.length + rows.length) n2 (weighT (costs2 costs rows.length) (clearT T1 T1.high)) (some c) T2 → TabOk T2 → SolveRun costs rows rights (.endless ((planT T2).take costs.length) T2.low)
  | best {n n2 : Nat} {r : Option Nat} {T1 T2 : Tab} : DescN (costs.length + rows.length) n (weighT (costs1 costs.length rows.length) (initT (extRows rows) rights)) r T1 → TabOk T1 → lastZ T1.left = 0 → (∀ k, k ≤ T1.high → TabOk (clearT T1 k)) →
      DescN (costs.length + rows.length) n2 (weighT (costs2 costs rows.length) (clearT T1 T1.high)) none T2 → TabOk T2 → SolveRun costs rows rights (.best ((planT T2).take costs.length) (paperT 0 T2) T2.low)
end WM

set_option Elab.async false
set_option linter.all false
set_option maxRecDepth 100000
set_option maxHeartbeats 2000000
namespace WM
open PySem PySem.Spec PyProof.Rows L2 StX

/-! ### the table in the heap -/
abbrev iN (ns : List Nat) : List PyData := ns.map fun n : Nat => PyData.int ((n : Nat) : Int)
abbrev dLn (ls : List (List Int)) : List PyData := ls.map fun r => .list (iD r)
def tabF (l h : Addr) (S : Tab) : List (Str × Slot) :=
  [("wide", I (S.wide : Int)), ("high", I (S.high : Int)), ("turned", Ls (S.turned.map PyData.bool)), ("lines", .mr l), ("held", .mr h), ("low", I S.low), ("left", Ls (iD S.left))]
def tabM (C a l h : Addr) (S : Tab) : Mu := [(a, .ins C (tabF l h S)), (l, .lst (ims (dLn S.lines))), (h, .lst (ims (iN S.held)))]
theorem ln_get {ls : List (List Int)} {i : Nat} (h : i < ls.length) : (ims (dLn ls))[i]? = some (Ls (iD (ls.getD i []))) := by
  unfold ims dLn
  rw [List.getElem?_map, List.getElem?_map, getD_at (z := ([] : List Int)) h]
  rfl
theorem hd_get {hs : List Nat} {i : Nat} (h : i < hs.length) : (ims (iN hs))[i]? = some (I ((hs.getD i 0 : Nat) : Int)) := by
  unfold ims iN
  rw [List.getElem?_map, List.getElem?_map, getD_at (z := 0) h]
  rfl
theorem iD_getD {ns : List Int} {i : Nat} (h : i < ns.length) : (iD ns)[i]? = some (.int (cell ns i)) := iD_at (getD_at h)
section
variable {P : Program} {w : World} {K : PySem.W.Frag} {mg : Str → Option Value} {base : Heap}
section
variable {δ : DEnv} {μ μ1 : Mu} {ta : TE} {a l h : Addr} {S : Tab}
theorem ev_low (T : Txt K mg) (e : Ev K ta δ μ (.mr a) μ1) (h0 : μ1[0]? = some (a, .ins T.C (tabF l h S))) : Ev K (tFld K ta "low") δ μ (I S.low) μ1 := ev_fld 0 e h0 T.cl T.n_low rfl
theorem ev_wide (T : Txt K mg) (e : Ev K ta δ μ (.mr a) μ1) (h0 : μ1[0]? = some (a, .ins T.C (tabF l h S))) : Ev K (tFld K ta "wide") δ μ (I (S.wide : Int)) μ1 := ev_fld 0 e h0 T.cl T.n_wide rfl
theorem ev_high (T : Txt K mg) (e : Ev K ta δ μ (.mr a) μ1) (h0 : μ1[0]? = some (a, .ins T.C (tabF l h S))) : Ev K (tFld K ta "high") δ μ (I (S.high : Int)) μ1 := ev_fld 0 e h0 T.cl T.n_high rfl
theorem ev_turned (T : Txt K mg) (e : Ev K ta δ μ (.mr a) μ1) (h0 : μ1[0]? = some (a, .ins T.C (tabF l h S))) : Ev K (tFld K ta "turned") δ μ (Ls (S.turned.map PyData.bool)) μ1 := ev_fld 0 e h0 T.cl T.n_turned rfl
theorem ev_lines (T : Txt K mg) (e : Ev K ta δ μ (.mr a) μ1) (h0 : μ1[0]? = some (a, .ins T.C (tabF l h S))) : Ev K (tFld K ta "lines") δ μ (.mr l) μ1 := ev_fld 0 e h0 T.cl T.n_lines rfl
theorem ev_heldF (T : Txt K mg) (e : Ev K ta δ μ (.mr a) μ1) (h0 : μ1[0]? = some (a, .ins T.C (tabF l h S))) : Ev K (tFld K ta "held") δ μ (.mr h) μ1 := ev_fld 0 e h0 T.cl T.n_held rfl
theorem ev_left (T : Txt K mg) (e : Ev K ta δ μ (.mr a) μ1) (h0 : μ1[0]? = some (a, .ins T.C (tabF l h S))) : Ev K (tFld K ta "left") δ μ (Ls (iD S.left)) μ1 := ev_fld 0 e h0 T.cl T.n_left rfl
end
theorem bAll {ls : List (List Int)} (h : ∀ r ∈ ls, ∀ z ∈ r, z.natAbs < 2 ^ 100) {i j : Nat} : Bi 100 (cell (ls.getD i []) j) := by
  unfold cell
  rw [List.getD_eq_getElem?_getD, List.getD_eq_getElem?_getD]
  cases e : ls[i]? with
  | none => exact bi0
  | some r =>
    show Bi 100 (r[j]?.getD 0)
    cases e2 : r[j]? with
    | none => exact bi0
    | some z => exact h r (List.mem_of_getElem? e) z (List.mem_of_getElem? e2)
theorem bRow {r : List Int} (h : ∀ z ∈ r, z.natAbs < 2 ^ 100) {j : Nat} : Bi 100 (cell r j) := by
  unfold cell
  rw [List.getD_eq_getElem?_getD]
  cases e2 : r[j]? with
  | none => exact bi0
  | some z => exact h z (List.mem_of_getElem? e2)
def pre_Table_cleared (C : Addr) : PreT := fun ss μ O => ∃ (a l h : Addr) (S : Tab) (line lead : List Int) (col : Nat), ss = [.mr a, Ls (iD line), Ls (iD lead), I (col : Int)] ∧ μ = tabM C a l h S ∧ 0 < S.low ∧ Bi 100 S.low ∧ line.length ≤ 100 ∧ col < line.length ∧ col < lead.length ∧
  (∀ z ∈ line, z.natAbs < 2 ^ 100) ∧ (∀ z ∈ lead, z.natAbs < 2 ^ 100) ∧ O = fun r m => r = Ls (iD (clearedL S.low line lead col)) ∧ m = tabM C a l h S
theorem ok_Table_cleared (T : Txt K mg) : FnOk P w K mg base CX0 (1 + 1) T.d_Table_cleared.f T.d_Table_cleared.fd P_Table_cleared (SpW K (pre_Table_cleared T.C)) := by
  refine T.d_Table_cleared.F.ok sc_Table_cleared (sp_len fun ss μ O ⟨_, _, _, _, _, _, _, e, _⟩ => by rw [e]; rfl) (fun cdv A outer s H vs Q E hr h => ?_)
  refine ⟨_, (pss_one (ps_ret (pe_lc (own := [("one", 4), ("other", 5)]) rfl sc_Table_cleared.nd (k_zip (K := K) rfl (by rfl) T.b_zip (pa_cons (pv 1) (pa_cons (pv 2) pa_nil))) (blkOk_by (N := N_Table_cleared) (sc := defScope s_Table_cleared) (by decide +kernel)) (fun _ _ _ _ _ => (k_gtup (K := K) (n := 2) rfl rfl (pgs_cons (pg_name (i := 4) sc_Table_cleared.nd rfl (.inl rfl) (.inr rfl)) (pgs_cons (pg_name (i := 5) sc_Table_cleared.nd rfl (.inl rfl) (.inr rfl)) pgs_nil)))) (fun _ _ _ _ _ => pts_nil) (fun _ _ _ _ _ => (pe_op op_divA (pe_op op_sub (pe_op op_mulA (pv 4) (pe_ix (k_ix (K := K) rfl) (pv 2) (pv 3) (fun _ _ => rfl))) (pe_op op_mulA (pv 5) (pe_ix (k_ix (K := K) rfl) (pv 1) (pv 3) (fun _ _ => rfl)))) (k_fld (K := K) rfl (pv 0) rfl)))))), ?_⟩
  refine fin h fun ss μ O ⟨a, l, hh, S, line, lead, col, e1, e2, lp, lb, hl, c1, c2, b1, b2, e3⟩ => ?_
  subst e1 e2 e3
  refine t_ret (ev_map (ix := [4, 5]) (es := iD (clearedL S.low line lead col)) (ei_zip (ds := iD line) (es := iD lead) (G := []) (G' := []) (ea_cons (ev_varI rfl) (ea_cons (ev_varI rfl) ea_nil)) lst_im lst_im glin_nil) glin_nil (by rw [zip_len]; omega) (fun j h => h) (by rw [zip_len, iD_len]; unfold clearedL; rw [List.length_zipWith]) fun i d d' hd hd' => ?_) ⟨rfl, rfl⟩
  obtain ⟨x, y, hx, hy, rfl⟩ := zip_iD hd
  obtain ⟨z, hz, rfl⟩ := iD_get hd'
  unfold clearedL at hz
  rw [List.getElem?_zipWith, hx, hy] at hz
  cases hz
  exact ⟨_, bnd_tup2, ev_op (ev_op (ev_op (ev_varI rfl) (ev_op (ev_varI rfl) (ev_varI rfl) (rv_ixL (at_nat (iD_getD c2)))) (rv_mul (cmul_of (b1 x (List.mem_of_getElem? hx)) (bRow b2) (by decide) (by decide) (by decide)))) (ev_op (ev_varI rfl) (ev_op (ev_varI rfl) (ev_varI rfl) (rv_ixL (at_nat (iD_getD c1)))) (rv_mul (cmul_of (b2 y (List.mem_of_getElem? hy)) (bRow b1) (by decide) (by decide) (by decide)))) rv_sub) (ev_low T (ev_varM rfl) rfl) (rv_div (wide_div lp lb (by decide) (by decide)))⟩
end
end WM

set_option Elab.async false
set_option linter.all false
set_option maxRecDepth 100000
set_option maxHeartbeats 2000000
namespace WM
open PySem PySem.Spec PyProof.Rows L2 StX
section
variable {P : Program} {w : World} {K : PySem.W.Frag} {mg : Str → Option Value} {base : Heap}
theorem ev_methF {δ : DEnv} {μ μ1 rel rel' : Mu} {ta : TE} {s : Slot} {Pre : PreT} {tr : TA} {E : XK} {C : Addr} {m : Str} {a : Addr} {fs : List (Str × Slot)} {ss : List Slot} (ho : Ev K ta δ μ (.mr a) μ1) (hk : μ1[0]? = some (a, .ins C fs)) (hm : fs.lookup m = none) (h : EvA K tr δ μ1 ss rel)
    (hp : Pre (.mr a :: ss) rel (fun r m => r = s ∧ m = rel')) : Ev K (tMeth C m (SpW K Pre) [] E ta tr) δ μ s rel' := by
  have := ev_meth (E := E) (m := m) (ρ := []) 0 ho hk hm (by rw [List.append_nil]; exact h) hp
  rwa [List.append_nil] at this
theorem TabOk0.line {S : Tab} (ok : TabOk0 S) {i : Nat} (hi : i < S.high) : S.line i ∈ S.lines ∧ (S.line i).length = S.wide + S.high + 1 ∧ ∀ z ∈ S.line i, z.natAbs < 2 ^ 100 := by
  have g : S.lines[i]? = some (S.line i) := getD_at (by rw [ok.ll]; exact hi)
  have m := List.mem_of_getElem? g
  exact ⟨m, ok.rl _ m, ok.rb _ m⟩
theorem last_iD {r : List Int} (h : 0 < r.length) : atI (iD r) (-1) = some (.int (lastZ r)) := at_last (by rw [iD_len]; exact iD_getD (by omega))
theorem ev_line {δ : DEnv} {μ μ1 μ2 : Mu} {ta tb : TE} {a l h : Addr} {S : Tab} {i : Nat} (T : Txt K mg) (e : Ev K ta δ μ (.mr a) μ1) (h0 : μ1[0]? = some (a, .ins T.C (tabF l h S))) (hb : Ev K tb δ μ1 (I (i : Int)) μ2) (h1 : μ2[1]? = some (l, .lst (ims (dLn S.lines)))) (hi : i < S.lines.length) :
    Ev K (tOp (rIx K) (tFld K ta "lines") tb) δ μ (Ls (iD (S.line i))) μ2 := ev_op (ev_lines T e h0) hb (rv_ixM 1 h1 (at_nat (ln_get hi)))
theorem ev_hold {δ : DEnv} {μ μ1 μ2 : Mu} {ta tb : TE} {a l h : Addr} {S : Tab} {i : Nat} (T : Txt K mg) (e : Ev K ta δ μ (.mr a) μ1) (h0 : μ1[0]? = some (a, .ins T.C (tabF l h S))) (hb : Ev K tb δ μ1 (I (i : Int)) μ2) (h1 : μ2[2]? = some (h, .lst (ims (iN S.held)))) (hi : i < S.held.length) :
    Ev K (tOp (rIx K) (tFld K ta "held") tb) δ μ (I ((S.hold i : Nat) : Int)) μ2 := ev_op (ev_heldF T e h0) hb (rv_ixM 2 h1 (at_nat (hd_get hi)))
def pre_Table_is_sooner (C : Addr) : PreT := fun ss μ O => ∃ (a l h : Addr) (S : Tab) (i k col : Nat), ss = [.mr a, I (i : Int), I (k : Int), I (col : Int)] ∧ μ = tabM C a l h S ∧ TabOk0 S ∧ i < S.high ∧ k < S.high ∧ col < S.wide + S.high ∧ O = fun r m => r = B (soonerT S i k col) ∧ m = tabM C a l h S
theorem ok_Table_is_sooner (T : Txt K mg) : FnOk P w K mg base CX0 (1 + 1) T.d_Table_is_sooner.f T.d_Table_is_sooner.fd P_Table_is_sooner (SpW K (pre_Table_is_sooner T.C)) := by
  refine T.d_Table_is_sooner.F.ok sc_Table_is_sooner (sp_len fun ss μ O ⟨_, _, _, _, _, _, _, e, _⟩ => by rw [e]; rfl) (fun cdv A outer s H vs Q E hr h => ?_)
  refine ⟨_, (pss_cons (ps_par (i := 5) (j := 6) rfl sc_Table_is_sooner.nd rfl rfl (by decide) rfl rfl (pa_cons (pe_ix (k_ix (K := K) rfl) (k_fld (K := K) rfl (pv 0) rfl) (pv 1) (fun _ _ => rfl)) (pa_cons (pe_ix (k_ix (K := K) rfl) (k_fld (K := K) rfl (pv 0) rfl) (pv 2) (fun _ _ => rfl)) pa_nil)) (by rfl))
    (pss_cons (ps_set (i := 4) sc_Table_is_sooner.nd rfl (.inl rfl) (pe_op op_sub (pe_op op_mulA (pe_ix (k_ix (K := K) rfl) (pv 5) (pe_un un_neg pe_int) (fun _ _ => rfl)) (pe_ix (k_ix (K := K) rfl) (pv 6) (pv 3) (fun _ _ => rfl))) (pe_op op_mulA (pe_ix (k_ix (K := K) rfl) (pv 6) (pe_un un_neg pe_int) (fun _ _ => rfl)) (pe_ix (k_ix (K := K) rfl) (pv 5) (pv 3) (fun _ _ => rfl)))) (hf := .inr rfl))
    (pss_one (ps_ret (pe_or (pe_cmpR op_lt (pv 4) pe_int (nomark _)) (pe_one (pe_and (pe_cmpR (k_eqD (K := K) hr.units rfl) (pv 4) pe_int (nomark _)) (pe_one (pe_cmpR op_lt (pe_ix (k_ix (K := K) rfl) (k_fld (K := K) rfl (pv 0) rfl) (pv 1) (fun _ _ => rfl)) (pe_ix (k_ix (K := K) rfl) (k_fld (K := K) rfl (pv 0) rfl) (pv 2) (fun _ _ => rfl)) (nomark _)))))))))), ?_⟩
  refine fin h fun ss μ O ⟨a, l, hh, S, i, k, col, e1, e2, ok, hi, hk, hc, e3⟩ => ?_
  subst e1 e2 e3
  obtain ⟨_, li, bi⟩ := ok.line hi
  obtain ⟨_, lk, bk⟩ := ok.line hk
  have hll := ok.ll
  have hhl := ok.hl
  refine q_par (x := Ls (iD (S.line i))) (y := Ls (iD (S.line k))) (ea_cons (ev_line T (ev_varM rfl) rfl (ev_varI rfl) rfl (by omega)) (ea_cons (ev_line T (ev_varM rfl) rfl (ev_varI rfl) rfl (by omega)) ea_nil)) ?_
  refine q_set (s := I (gapT S i k col)) (ev_op (ev_op (ev_op (ev_varI rfl) (ev_neg ev_int) (rv_ixL (last_iD (by omega)))) (ev_op (ev_varI rfl) (ev_varI rfl) (rv_ixL (at_nat (iD_getD (by omega))))) (rv_mul (cmul_of (bRow bi) (bRow bk) (by decide) (by decide) (by decide))))
    (ev_op (ev_op (ev_varI rfl) (ev_neg ev_int) (rv_ixL (last_iD (by omega)))) (ev_op (ev_varI rfl) (ev_varI rfl) (rv_ixL (at_nat (iD_getD (by omega))))) (rv_mul (cmul_of (bRow bk) (bRow bi) (by decide) (by decide) (by decide)))) rv_sub) ?_
  exact t_ret (ev_orV (ev_op (ev_varI rfl) ev_int rv_lt) fun _ => ev_andV (ev_op (ev_varI rfl) ev_int rv_eqI) fun _ => ev_op (ev_hold T (ev_varM rfl) rfl (ev_varI rfl) rfl (by omega)) (ev_hold T (ev_varM rfl) rfl (ev_varI rfl) rfl (by omega)) rv_lt) ⟨rfl, rfl⟩
def oD : Option Nat → PyData
  | none => .none
  | some i => .int ((i : Nat) : Int)
theorem range_take {n k : Nat} (h : k < n) {α : Type} (f : α → Nat → α) (z : α) : ((List.range n).take (k + 1)).foldl f z = f (((List.range n).take k).foldl f z) k := by
  rw [List.take_add_one, List.getElem?_range h, List.foldl_append]
  rfl
theorem going_lt {S : Tab} {col : Nat} : ∀ (ks : List Nat) (b : Option Nat), (∀ i ∈ ks, i < S.high) → (∀ i, b = some i → i < S.high) → ∀ i, ks.foldl (goStep S col) b = some i → i < S.high := by
  intro ks
  induction ks with
  | nil => intro b _ hb i e; exact hb i e
  | cons k ks ih =>
    intro b hk hb i e
    refine ih (goStep S col b k) (fun j hj => hk j (by simp [hj])) (fun j ej => ?_) i e
    have hkk := hk k (by simp)
    unfold goStep at ej
    split at ej
    · split at ej
      · cases ej; exact hkk
      · split at ej
        · cases ej; exact hkk
        · cases ej; exact hb _ rfl
    · exact hb j ej
def pre_Table_going (C : Addr) : PreT := fun ss μ O => ∃ (a l h : Addr) (S : Tab) (col : Nat), ss = [.mr a, I (col : Int)] ∧ μ = tabM C a l h S ∧ TabOk0 S ∧ col < S.wide + S.high ∧ O = fun r m => r = .im (oD (goingT S col)) ∧ m = tabM C a l h S
theorem ok_Table_going (T : Txt K mg) : FnOk P w K mg base CX0 (2 + 1) T.d_Table_going.f T.d_Table_going.fd P_Table_going (SpW K (pre_Table_going T.C)) := by
  refine T.d_Table_going.F.ok sc_Table_going (sp_len fun ss μ O ⟨_, _, _, _, _, e, _⟩ => by rw [e]; rfl) (fun cdv A outer s H vs Q E hr h => ?_)
  refine ⟨_, (pss_cons (ps_set (i := 2) sc_Table_going.nd rfl (.inl rfl) pe_non (hf := .inr rfl))
    (pss_cons (ps_for PassesOwn.never rfl (k_enum (K := K) rfl (by rfl) T.b_enumerate (pa_cons (k_fld (K := K) rfl (pv 0) rfl) pa_nil)) (k_gtup (K := K) (n := 2) rfl rfl (pgs_cons (pg_name (i := 3) sc_Table_going.nd rfl (.inl rfl) (.inr rfl)) (pgs_cons (pg_name (i := 4) sc_Table_going.nd rfl (.inl rfl) (.inr rfl)) pgs_nil)))
      (pss_one (ps_if (pt_cmpR op_gt (pe_ix (k_ix (K := K) rfl) (pv 4) (pv 1) (fun _ _ => rfl)) pe_int (nomark _))
        (pss_cons (ps_set (i := 5) sc_Table_going.nd rfl (.inl rfl) (pe_or (pe_cmpR op_isNn (pv 2) pe_non (nomark _)) (pe_one (pe_meth (pv 0) T.cl T.mt_is_sooner (ok_Table_is_sooner T) (hr.mono (by decide)) T.d_Table_is_sooner.b .nil pass0 (pa_cons (pv 3) (pa_cons (pv 2) (pa_cons (pv 1) pa_nil)))))) (hf := .inr rfl))
        (pss_one (ps_set (i := 2) sc_Table_going.nd rfl (.inl rfl) (pe_ifExp (pt_val (pv 5)) (pv 3) (pv 2)) (hf := .inr rfl))))
        pss_nil)))
    (pss_one (ps_ret (pv 2))))), ?_⟩
  refine fin h fun ss μ O ⟨a, l, hh, S, col, e1, e2, ok, hc, e3⟩ => ?_
  subst e1 e2 e3
  have hll := ok.ll
  refine q_set ev_non ?_
  refine t_seq (M := fun x y => ∃ x3 x4 x5, x = [.mr a, I (col : Int), .im (oD (goingT S col)), x3, x4, x5] ∧ y = tabM T.C a l hh S) ?_ fun x y ⟨x3, x4, x5, e1, e2⟩ => ?_
  · refine t_for (ix := [3, 4]) (ei_enum (ds := dLn S.lines) (G := [(l, dLn S.lines)]) (ea_cons (ev_lines T (ev_varM rfl) rfl) ea_nil) lst_mr (glin_one 1 rfl)) (fun k x y => ∃ x3 x4 x5, x = [.mr a, I (col : Int), .im (oD (((List.range S.high).take k).foldl (goStep S col) none)), x3, x4, x5] ∧ y = tabM T.C a l hh S) ⟨.un, .un, .un, rfl, rfl⟩ (fun k x y ⟨_, _, _, _, e⟩ => by rw [e]; exact glin_one 1 rfl) (fun k d x y hd ⟨x3, x4, x5, e1, e2⟩ => ?_) fun x y ⟨x3, x4, x5, e1, e2⟩ => ?_
    · subst e1 e2
      obtain ⟨d0, hd0, rfl⟩ := enumD_get' hd
      obtain ⟨r, hr', rfl⟩ : ∃ r, S.lines[k]? = some r ∧ d0 = .list (iD r) := by
        unfold dLn at hd0
        rw [List.getElem?_map] at hd0
        cases e : S.lines[k]? with
        | none => rw [e] at hd0; cases hd0
        | some r => rw [e] at hd0; cases hd0; exact ⟨r, rfl, rfl⟩
      have hk : k < S.high := by rw [← hll]; exact (List.getElem?_eq_some_iff.mp hr').1
      have er : S.line k = r := by unfold Tab.line; rw [List.getD_eq_getElem?_getD, hr']; rfl
      obtain ⟨_, lk, bk⟩ := ok.line hk
      rw [er] at lk bk
      rw [range_take hk]
      have hlt : ∀ i, ((List.range S.high).take k).foldl (goStep S col) none = some i → i < S.high := going_lt _ none (fun i hi => List.mem_range.mp (List.mem_of_mem_take hi)) (fun _ z => nomatch z)
      generalize ((List.range S.high).take k).foldl (goStep S col) none = bst at hlt
      refine ⟨_, bnd_tup2, ?_⟩
      refine t_if (b := decide (0 < cell r col)) (et_op (ev_op (ev_varI rfl) (ev_varI rfl) (rv_ixL (at_nat (iD_getD (by omega))))) ev_int rv_gt) (fun hcc => ?_) (fun hcc => ?_)
      · have hp := of_decide_eq_true hcc
        cases bst with
        | none =>
          have e : goStep S col none k = some k := by unfold goStep; rw [er, if_pos hp]
          rw [e]
          refine q_set (s := B true) (ev_orV (c := true) (d := false) (ev_op (ev_varI rfl) ev_non rv_isN) (fun z => nomatch z)) ?_
          exact t_set (ev_if (c := true) (et_val (ev_varI rfl)) (fun _ => ev_varI rfl) (fun z => nomatch z)) ⟨_, _, _, rfl, rfl⟩
        | some b =>
          have hb := hlt b rfl
          have e : goStep S col (some b) k = if soonerT S k b col then some k else some b := by unfold goStep; rw [er, if_pos hp]
          rw [e]
          refine q_set (s := B (soonerT S k b col)) (ev_orV (c := false) (d := soonerT S k b col) (ev_op (ev_varI rfl) ev_non rv_isN) (fun _ => ev_methF (ev_varM rfl) rfl rfl (ea_cons (ev_varI rfl) (ea_cons (ev_varI rfl) (ea_cons (ev_varI rfl) ea_nil))) ⟨a, l, hh, S, k, b, col, rfl, rfl, ok, hk, hb, hc, rfl⟩)) ?_
          cases hs : soonerT S k b col with
          | true => exact t_set (ev_if (c := true) (et_val (ev_varI rfl)) (fun _ => ev_varI rfl) (fun z => nomatch z)) ⟨_, _, _, rfl, rfl⟩
          | false => exact t_set (ev_if (c := false) (et_val (ev_varI rfl)) (fun z => nomatch z) (fun _ => ev_varI rfl)) ⟨_, _, _, rfl, rfl⟩
      · have hp := of_decide_eq_false hcc
        have e : goStep S col bst k = bst := by unfold goStep; rw [er, if_neg hp]
        rw [e]
        exact t_next ⟨_, _, _, rfl, rfl⟩
    · subst e1 e2
      refine ⟨x3, x4, x5, ?_, rfl⟩
      have e : (List.range S.high).take (enumD 0 (dLn S.lines)).length = List.range S.high := by
        apply List.take_of_length_le
        rw [enumD_len, List.length_range]
        unfold dLn
        rw [List.length_map]
        omega
      rw [e]
      rfl
  · subst e1 e2
    exact t_ret (ev_varI rfl) ⟨rfl, rfl⟩
end
end WM

set_option Elab.async false
set_option linter.all false
set_option maxRecDepth 100000
set_option maxHeartbeats 2000000
namespace WM
open PySem PySem.Spec PyProof.Rows L2 StX
section
variable {P : Program} {w : World} {K : PySem.W.Frag} {mg : Str → Option Value} {base : Heap}
theorem dLn_get {ls : List (List Int)} {k : Nat} {d : PyData} (h : (dLn ls)[k]? = some d) : ∃ r, ls[k]? = some r ∧ d = .list (iD r) := by
  unfold dLn at h
  rw [List.getElem?_map] at h
  cases e : ls[k]? with
  | none => rw [e] at h; cases h
  | some r => rw [e] at h; cases h; exact ⟨r, rfl, rfl⟩
theorem iN_get {ns : List Nat} {k : Nat} {d : PyData} (h : (iN ns)[k]? = some d) : ∃ n, ns[k]? = some n ∧ d = .int ((n : Nat) : Int) := by
  unfold iN at h
  rw [List.getElem?_map] at h
  cases e : ns[k]? with
  | none => rw [e] at h; cases h
  | some r => rw [e] at h; cases h; exact ⟨r, rfl, rfl⟩
theorem zipLH {ls : List (List Int)} {ns : List Nat} {k : Nat} {d : PyData} (h : (zipD (dLn ls) (iN ns))[k]? = some d) : ∃ r n, ls[k]? = some r ∧ ns[k]? = some n ∧ (ls.zip ns)[k]? = some (r, n) ∧ d = .tuple [.list (iD r), .int ((n : Nat) : Int)] := by
  obtain ⟨a, b, h1, h2, h3⟩ := zipD_get h
  obtain ⟨r, hr, rfl⟩ := dLn_get h1
  obtain ⟨n, hn, rfl⟩ := iN_get h2
  refine ⟨r, n, hr, hn, ?_, h3⟩
  rw [List.zip, List.getElem?_zipWith, hr, hn]
theorem zipLH_len (ls : List (List Int)) (ns : List Nat) : (zipD (dLn ls) (iN ns)).length = (ls.zip ns).length := by
  unfold zipD dLn iN
  rw [List.length_zipWith, List.length_map, List.length_map, List.length_zip]
theorem fold_take {α β : Type} {f : β → α → β} {xs : List α} {z : β} {i : Nat} {x : α} (h : xs[i]? = some x) : (xs.take (i + 1)).foldl f z = f ((xs.take i).foldl f z) x := by
  rw [List.take_add_one, h, List.foldl_append]
  rfl
def pre_Table_weigh (C : Addr) : PreT := fun ss μ O => ∃ (a l h : Addr) (S : Tab) (costs : List Int), ss = [.mr a, Ls (iD costs)] ∧ μ = tabM C a l h S ∧ TabOk0 S ∧ costs.length = S.wide + S.high ∧ (∀ z ∈ costs, z.natAbs < 2 ^ 100) ∧ O = fun r m => r = .im .none ∧ m = tabM C a l h (weighT costs S)
theorem ok_Table_weigh (T : Txt K mg) : FnOk P w K mg base CX0 (1 + 1) T.d_Table_weigh.f T.d_Table_weigh.fd P_Table_weigh (SpW K (pre_Table_weigh T.C)) := by
  refine T.d_Table_weigh.F.ok sc_Table_weigh (sp_len fun ss μ O ⟨_, _, _, _, _, e, _⟩ => by rw [e]; rfl) (fun cdv A outer s H vs Q E hr h => ?_)
  refine ⟨_, (pss_cons (ps_fld (pv 0) (pe_op (k_add (K := K) rfl) (pe_lc (own := [("one", 4)]) rfl sc_Table_weigh.nd (k_piL (K := K) rfl (pv 1)) (blkOk_by (N := N_Table_weigh) (sc := defScope s_Table_weigh) (by decide +kernel)) (fun _ _ _ _ _ => (pg_name (i := 4) sc_Table_weigh.nd rfl (.inl rfl) (.inr rfl))) (fun _ _ _ _ _ => pts_nil) (fun _ _ _ _ _ => (pe_op op_mulA (k_fld (K := K) rfl (pv 0) rfl) (pv 4)))) (pe_lst (pa_cons pe_int pa_nil))) rfl)
    (pss_one (ps_for PassesOwn.never rfl (k_zip (K := K) rfl (by rfl) T.b_zip (pa_cons (k_fld (K := K) rfl (pv 0) rfl) (pa_cons (k_fld (K := K) rfl (pv 0) rfl) pa_nil))) (k_gtup (K := K) (n := 2) rfl rfl (pgs_cons (pg_name (i := 2) sc_Table_weigh.nd rfl (.inl rfl) (.inr rfl)) (pgs_cons (pg_name (i := 3) sc_Table_weigh.nd rfl (.inr rfl) (.inl rfl)) pgs_nil)))
      (pss_one (ps_fld (pv 0) (pe_lc (own := [("one", 4), ("other", 5)]) rfl sc_Table_weigh.nd (k_zip (K := K) rfl (by rfl) T.b_zip (pa_cons (k_fld (K := K) rfl (pv 0) rfl) (pa_cons (pv 2) pa_nil))) (blkOk_by (N := N_Table_weigh) (sc := defScope s_Table_weigh) (by decide +kernel)) (fun _ _ _ _ _ => (k_gtup (K := K) (n := 2) rfl rfl (pgs_cons (pg_name (i := 4) sc_Table_weigh.nd rfl (.inl rfl) (.inr rfl)) (pgs_cons (pg_name (i := 5) sc_Table_weigh.nd rfl (.inl rfl) (.inr rfl)) pgs_nil)))) (fun _ _ _ _ _ => pts_nil) (fun _ _ _ _ _ => (pe_op op_sub (pv 4) (pe_op op_mulA (pe_ix (k_ix (K := K) rfl) (pv 1) (pv 3) (fun _ _ => rfl)) (pv 5))))) rfl))))), ?_⟩
  refine fin h fun ss μ O ⟨a, l, hh, S, costs, e1, e2, ok, hc, hcb, e3⟩ => ?_
  subst e1 e2 e3
  have hll := ok.ll
  have hhl := ok.hl
  have hw := ok.w
  have hh3 := ok.h
  generalize hL0 : costs.map (fun z => S.low * z) ++ [0] = L0
  have hL0l : L0.length = S.wide + S.high + 1 := by rw [← hL0, List.length_append, List.length_map, hc]; rfl
  refine q_fld (s := Ls (iD L0)) (μ1 := tabM T.C a l hh S) (μ2 := tabM T.C a l hh S) (fs := tabF l hh S) 0 ?_ (ev_varM rfl) rfl T.cl T.n_left (show 7 < 1000 by decide) ?_
  · rw [← hL0, iD_app]
    refine ev_op (ev_map (ix := [4]) (es := iD (costs.map fun z => S.low * z)) (ei_list (ds := iD costs) (ev_varI rfl)) glin_nil (by rw [iD_len]; omega) (fun j h => h) (by rw [iD_len, iD_len, List.length_map]) fun i d d' hd hd' => ?_) (ev_lst (ds := [.int 0]) (ea_cons ev_int ea_nil) (by simp)) (rv_cat (by rw [iD_len, List.length_map]; simp; omega))
    obtain ⟨z, hz, rfl⟩ := iD_get hd
    obtain ⟨y, hy, rfl⟩ := iD_get hd'
    rw [List.getElem?_map, hz] at hy
    cases hy
    exact ⟨_, bnd_name, ev_op (ev_low T (ev_varM rfl) rfl) (ev_varI rfl) (rv_mul (cmul_of ok.lb (hcb z (List.mem_of_getElem? hz)) (by decide) (by decide) (by decide)))⟩
  refine (show Tri K _ _ (tabM T.C a l hh { S with left := L0 }) _ _ from ?_)
  have hlen : ∀ k, (((S.lines.zip S.held).take k).foldl (weighStep costs) L0).length = S.wide + S.high + 1 := fun k =>
    fold_inv (Q := fun f : List Int => f.length = S.wide + S.high + 1) (fun f p hp hf => by
      have hm := (List.of_mem_zip (List.mem_of_mem_take hp)).1
      unfold weighStep
      rw [List.length_zipWith, hf, ok.rl _ hm]
      omega) _ hL0l
  refine t_for (ix := [2, 3]) (ei_zip (ds := dLn S.lines) (es := iN S.held) (G := [(l, dLn S.lines)]) (G' := [(hh, iN S.held)]) (μ1 := tabM T.C a l hh { S with left := L0 }) (ea_cons (ev_lines T (ev_varM rfl) rfl) (ea_cons (ev_heldF T (ev_varM rfl) rfl) ea_nil)) lst_mr lst_mr ?_) (fun k x y => ∃ x2 x3, x = [.mr a, Ls (iD costs), x2, x3, .un, .un] ∧ y = tabM T.C a l hh { S with left := ((S.lines.zip S.held).take k).foldl (weighStep costs) L0 }) ⟨.un, .un, rfl, rfl⟩ (fun k x y ⟨_, _, _, e⟩ => ?_) (fun k d x y hd ⟨x2, x3, e1, e2⟩ => ?_) fun x y ⟨x2, x3, e1, e2⟩ => ?_
  · intro p hp
    rcases List.mem_append.mp hp with hp | hp
    · exact glin_one (μ := tabM T.C a l hh { S with left := L0 }) 1 rfl p hp
    · exact glin_one (μ := tabM T.C a l hh { S with left := L0 }) 2 rfl p hp
  · rw [e]
    intro p hp
    rcases List.mem_append.mp hp with hp | hp
    · exact glin_one (μ := tabM T.C a l hh { S with left := ((S.lines.zip S.held).take k).foldl (weighStep costs) L0 }) 1 rfl p hp
    · exact glin_one (μ := tabM T.C a l hh { S with left := ((S.lines.zip S.held).take k).foldl (weighStep costs) L0 }) 2 rfl p hp
  · subst e1 e2
    obtain ⟨r, n, hr', hn', hz, rfl⟩ := zipLH hd
    have hnb := ok.hb n (List.mem_of_getElem? hn')
    have hrl := ok.rl r (List.mem_of_getElem? hr')
    have hrb := ok.rb r (List.mem_of_getElem? hr')
    have hlk := hlen k
    rw [fold_take hz]
    generalize ((S.lines.zip S.held).take k).foldl (weighStep costs) L0 = LK at hlk
    refine ⟨_, bnd_tup2, ?_⟩
    refine t_fld (s := Ls (iD (weighStep costs LK (r, n)))) (μ1 := tabM T.C a l hh { S with left := LK }) (μ2 := tabM T.C a l hh { S with left := LK }) (fs := tabF l hh { S with left := LK }) 0 (ev_map (ix := [4, 5]) (ei_zip (ds := iD LK) (es := iD r) (G := []) (G' := []) (ea_cons (ev_left T (ev_varM rfl) rfl) (ea_cons (ev_varI rfl) ea_nil)) lst_im lst_im glin_nil) glin_nil (by rw [zip_len]; omega) (fun j h => h) (by rw [zip_len, iD_len]; unfold weighStep; rw [List.length_zipWith]) fun i d d' hd hd' => ?_) (ev_varM rfl) rfl T.cl T.n_left (show 7 < 1000 by decide) ⟨_, _, rfl, rfl⟩
    obtain ⟨x, y, hx, hy, rfl⟩ := zip_iD hd
    obtain ⟨z, hz2, rfl⟩ := iD_get hd'
    unfold weighStep at hz2
    rw [List.getElem?_zipWith, hx, hy] at hz2
    cases hz2
    exact ⟨_, bnd_tup2, ev_op (ev_varI rfl) (ev_op (ev_op (ev_varI rfl) (ev_varI rfl) (rv_ixL (at_nat (iD_getD (by omega))))) (ev_varI rfl) (rv_mul (cmul_of (bRow hcb) (hrb y (List.mem_of_getElem? hy)) (by decide) (by decide) (by decide)))) rv_sub⟩
  · subst e1 e2
    refine ⟨rfl, ?_⟩
    rw [zipLH_len, List.take_length, ← hL0]
    rfl
def pre_Table_plan (C : Addr) : PreT := fun ss μ O => ∃ (a l h : Addr) (S : Tab), ss = [.mr a] ∧ μ = tabM C a l h S ∧ TabOk0 S ∧ O = fun r m => r = Tp [.list (iD (planT S)), .int S.low] ∧ m = tabM C a l h S
theorem planStep_len {wd : Nat} {f : List Int} {p : List Int × Nat} : (planStep wd f p).length = f.length := by
  unfold planStep
  split
  · rw [List.length_set]
  · rfl
theorem iD_set {ns : List Int} {i : Nat} {z : Int} : (ims (iD ns)).set i (I z) = ims (iD (ns.set i z)) := by
  unfold ims iD
  rw [List.map_set, List.map_set]
theorem ok_Table_plan (T : Txt K mg) : FnOk P w K mg base CX0 (1 + 1) T.d_Table_plan.f T.d_Table_plan.fd P_Table_plan (SpW K (pre_Table_plan T.C)) := by
  refine T.d_Table_plan.F.ok sc_Table_plan (sp_len fun ss μ O ⟨_, _, _, _, e, _⟩ => by rw [e]; rfl) (fun cdv A outer s H vs Q E hr h => ?_)
  refine ⟨_, (pss_cons (ps_set (i := 1) sc_Table_plan.nd rfl (.inl rfl) (pe_op op_mulA (pe_lst (pa_cons pe_int pa_nil)) (k_fld (K := K) rfl (pv 0) rfl)) (hf := .inr rfl))
    (pss_cons (ps_for PassesOwn.never rfl (k_zip (K := K) rfl (by rfl) T.b_zip (pa_cons (k_fld (K := K) rfl (pv 0) rfl) (pa_cons (k_fld (K := K) rfl (pv 0) rfl) pa_nil))) (k_gtup (K := K) (n := 2) rfl rfl (pgs_cons (pg_name (i := 2) sc_Table_plan.nd rfl (.inl rfl) (.inr rfl)) (pgs_cons (pg_name (i := 3) sc_Table_plan.nd rfl (.inl rfl) (.inr rfl)) pgs_nil)))
      (pss_one (ps_if (pt_cmpR op_lt (pv 3) (k_fld (K := K) rfl (pv 0) rfl) (nomark _))
        (pss_one (ps_asg (pe_ix (k_ix (K := K) rfl) (pv 2) (pe_un un_neg pe_int) (fun _ _ => rfl)) (pg_sub (pv 1) (pv 3) set_list)))
        pss_nil)))
    (pss_one (ps_ret (pe_tup (pa_cons (pv 1) (pa_cons (k_fld (K := K) rfl (pv 0) rfl) pa_nil))))))), ?_⟩
  refine fin h fun ss μ O ⟨a, l, hh, S, e1, e2, ok, e3⟩ => ?_
  subst e1 e2 e3
  have hw := ok.w
  have hh3 := ok.h
  refine q_setF (xs := ims (List.replicate ((S.wide : Int)).toNat [PyData.int 0]).flatten) (μ1 := tabM T.C a l hh S) 1 (ef_rep (ds := [.int 0]) (ev_lst (ds := [.int 0]) (ea_cons ev_int ea_nil) (by simp)) (ev_wide T (ev_varM rfl) rfl) (by omega) (by omega) (by simp)) fun p => ?_
  have e0 : (List.replicate ((S.wide : Int)).toNat [PyData.int 0]).flatten = iD (List.replicate S.wide 0) := by
    rw [flat_rep, Int.toNat_natCast]
    unfold iD
    rw [List.map_replicate]
  rw [e0]
  have hlen : ∀ k, (((S.lines.zip S.held).take k).foldl (planStep S.wide) (List.replicate S.wide 0)).length = S.wide := fun k =>
    fold_inv (Q := fun f : List Int => f.length = S.wide) (fun f p hp hf => by rw [planStep_len]; exact hf) _ (List.length_replicate ..)
  refine t_seq (M := fun x y => ∃ x2 x3, x = [.mr a, .mr p, x2, x3] ∧ y = tabM T.C a l hh S ++ [(p, .lst (ims (iD (planT S))))]) ?_ fun x y ⟨x2, x3, e1, e2⟩ => ?_
  · refine t_for (ix := [2, 3]) (ei_zip (ds := dLn S.lines) (es := iN S.held) (G := [(l, dLn S.lines)]) (G' := [(hh, iN S.held)]) (μ1 := tabM T.C a l hh S ++ [(p, .lst (ims (iD (List.replicate S.wide 0))))]) (ea_cons (ev_lines T (ev_varM rfl) rfl) (ea_cons (ev_heldF T (ev_varM rfl) rfl) ea_nil)) lst_mr lst_mr ?_) (fun k x y => ∃ x2 x3, x = [.mr a, .mr p, x2, x3] ∧ y = tabM T.C a l hh S ++ [(p, .lst (ims (iD (((S.lines.zip S.held).take k).foldl (planStep S.wide) (List.replicate S.wide 0)))))]) ⟨.un, .un, rfl, rfl⟩ (fun k x y ⟨_, _, _, e⟩ => ?_) (fun k d x y hd ⟨x2, x3, e1, e2⟩ => ?_) fun x y ⟨x2, x3, e1, e2⟩ => ?_
    · intro q hp
      rcases List.mem_append.mp hp with hp | hp
      · exact glin_one (μ := tabM T.C a l hh S ++ [(p, .lst (ims (iD (List.replicate S.wide 0))))]) 1 rfl q hp
      · exact glin_one (μ := tabM T.C a l hh S ++ [(p, .lst (ims (iD (List.replicate S.wide 0))))]) 2 rfl q hp
    · rw [e]
      generalize ((S.lines.zip S.held).take k).foldl (planStep S.wide) (List.replicate S.wide 0) = X
      intro q hp
      rcases List.mem_append.mp hp with hp | hp
      · exact glin_one (μ := tabM T.C a l hh S ++ [(p, .lst (ims (iD X)))]) 1 rfl q hp
      · exact glin_one (μ := tabM T.C a l hh S ++ [(p, .lst (ims (iD X)))]) 2 rfl q hp
    · subst e1 e2
      obtain ⟨r, n, hr', hn', hz, rfl⟩ := zipLH hd
      have hrl := ok.rl r (List.mem_of_getElem? hr')
      have hlk := hlen k
      rw [fold_take hz]
      generalize ((S.lines.zip S.held).take k).foldl (planStep S.wide) (List.replicate S.wide 0) = X at hlk
      refine ⟨_, bnd_tup2, ?_⟩
      refine t_if (b := decide ((n : Int) < (S.wide : Int))) (et_op (ev_varI rfl) (ev_wide T (ev_varM rfl) rfl) rv_lt) (fun hc => ?_) (fun hc => ?_)
      · have hlt : n < S.wide := by have := of_decide_eq_true hc; omega
        have e : planStep S.wide X (r, n) = X.set n (lastZ r) := by unfold planStep; rw [if_pos hlt]
        rw [e]
        refine t_setI (s := I (lastZ r)) (i := (n : Int)) (j := n) 3 (ev_op (ev_varI rfl) (ev_neg ev_int) (rv_ixL (last_iD (by omega)))) (ev_varM rfl) (ev_varI rfl) rfl (by unfold ims; rw [List.length_map, iD_len, hlk]; exact ixN_nat hlt) ⟨_, _, rfl, ?_⟩
        rw [iD_set]
        rfl
      · have hlt : ¬ n < S.wide := by have := of_decide_eq_false hc; omega
        have e : planStep S.wide X (r, n) = X := by unfold planStep; rw [if_neg hlt]
        rw [e]
        exact t_next ⟨_, _, rfl, rfl⟩
    · subst e1 e2
      refine ⟨x2, x3, rfl, ?_⟩
      rw [zipLH_len, List.take_length]
      rfl
  · subst e1 e2
    exact t_ret (ev_tup (ds := [.list (iD (planT S)), .int S.low]) (μ1 := tabM T.C a l hh S) (ea_cons (ev_freeze 3 (ev_varM rfl) rfl) (ea_cons (ev_low T (ev_varM rfl) rfl) ea_nil)) (by simp)) ⟨rfl, rfl⟩
def pre_Table_paper (C : Addr) : PreT := fun ss μ O => ∃ (a l h : Addr) (S : Tab) (own : Int), ss = [.mr a, I own] ∧ μ = tabM C a l h S ∧ TabOk S ∧ (0 ≤ own ∧ own ≤ 1) ∧ O = fun r m => r = Tp [.list (iD (paperT own S)), .int S.low] ∧ m = tabM C a l h S
theorem ok_Table_paper (T : Txt K mg) : FnOk P w K mg base CX0 (1 + 1) T.d_Table_paper.f T.d_Table_paper.fd P_Table_paper (SpW K (pre_Table_paper T.C)) := by
  refine T.d_Table_paper.F.ok sc_Table_paper (sp_len fun ss μ O ⟨_, _, _, _, _, e, _⟩ => by rw [e]; rfl) (fun cdv A outer s H vs Q E hr h => ?_)
  refine ⟨_, (pss_cons (ps_set (i := 2) sc_Table_paper.nd rfl (.inl rfl) (pe_lst pa_nil) (hf := .inr rfl))
    (pss_cons (ps_for PassesOwn.never rfl (pi_range1 (by rfl) T.b_range (pa_cons (k_fld (K := K) rfl (pv 0) rfl) pa_nil)) (pg_name (i := 3) sc_Table_paper.nd rfl (.inl rfl) (.inr rfl))
      (pss_cons (ps_set (i := 4) sc_Table_paper.nd rfl (.inl rfl) (pe_op op_sub (pe_op op_mulA (pv 1) (k_fld (K := K) rfl (pv 0) rfl)) (pe_ix (k_ix (K := K) rfl) (k_fld (K := K) rfl (pv 0) rfl) (pe_op (k_add (K := K) rfl) (k_fld (K := K) rfl (pv 0) rfl) (pv 3)) (fun _ _ => rfl))) (hf := .inr rfl))
      (pss_one (ps_expr (pe_bm PySem.F.plainAttrs_list PySem.F.slot_list_append PySem.F.type_list_append mt_append (pv 2) (pa_cons (pe_ifExp (pt_val (pe_ix (k_ix (K := K) rfl) (k_fld (K := K) rfl (pv 0) rfl) (pv 3) (fun _ _ => rfl))) (pe_un un_neg (pv 4)) (pv 4)) pa_nil))))))
    (pss_one (ps_ret (pe_tup (pa_cons (pv 2) (pa_cons (k_fld (K := K) rfl (pv 0) rfl) pa_nil))))))), ?_⟩
  refine fin h fun ss μ O ⟨a, l, hh, S, own, e1, e2, ok, ho, e3⟩ => ?_
  subst e1 e2 e3
  have hw := ok.w
  have hh3 := ok.h
  have hfl := ok.fl
  have htl := ok.tl
  refine q_setF (xs := []) (μ1 := tabM T.C a l hh S) 2 (ef_lst ea_nil (by simp)) fun p => ?_
  refine t_seq (M := fun x y => ∃ x3 x4, x = [.mr a, I own, .mr p, x3, x4] ∧ y = tabM T.C a l hh S ++ [(p, .lst (ims (iD (paperT own S))))]) ?_ fun x y ⟨x3, x4, e1, e2⟩ => ?_
  · refine t_for (ix := [3]) (ds := rngD 0 S.high) (μ0 := tabM T.C a l hh S ++ [(p, .lst [])]) ?_ (fun k x y => ∃ x3 x4, x = [.mr a, I own, .mr p, x3, x4] ∧ y = tabM T.C a l hh S ++ [(p, .lst (ims (iD ((List.range k).map (payT own S)))))]) ⟨.un, .un, rfl, rfl⟩ (fun _ _ _ _ => glin_nil) (fun k d x y hd ⟨x3, x4, e1, e2⟩ => ?_) fun x y ⟨x3, x4, e1, e2⟩ => ?_
    · have key := ei_rng1 (K := K) (δ := [.mr a, I own, .mr p, .un, .un]) (μ := tabM T.C a l hh S ++ [(p, .lst [])]) (tr := tCons (tFld K (tVar 0) "high") tNil) (ea_cons (ev_high (S := S) T (ev_varM rfl) rfl) ea_nil) (by omega) (by omega)
      rw [Int.toNat_natCast] at key
      exact key
    · subst e1 e2
      obtain ⟨hk, rfl⟩ := rngD_get hd
      have zk : (0 : Int) + (k : Int) = (k : Int) := Int.zero_add _
      rw [zk]
      refine ⟨_, bnd_name, ?_⟩
      have hb1 : Bi 1 own := show own.natAbs < 2 ^ 1 by omega
      refine q_set (s := I (own * S.low - cell S.left (S.wide + k))) (ev_op (ev_op (ev_varI rfl) (ev_low T (ev_varM rfl) rfl) (rv_mul (cmul_of hb1 ok.lb (by decide) (by decide) (by decide)))) (ev_op (ev_left T (ev_varM rfl) rfl) (ev_op (ev_wide T (ev_varM rfl) rfl) (ev_varI rfl) rv_add) (rv_ixL ?_)) rv_sub) ?_
      · have := at_nat (iD_getD (ns := S.left) (i := S.wide + k) (by omega))
        rw [Int.natCast_add] at this
        exact this
      have hct : (S.turned.map PyData.bool)[k]? = some (.bool (S.turned.getD k false)) := by
        rw [List.getElem?_map, getD_at (z := false) (by omega : k < S.turned.length)]
        rfl
      refine t_app (s := I (payT own S k)) (μ1 := tabM T.C a l hh S ++ [(p, .lst (ims (iD ((List.range k).map (payT own S)))))]) (μ2 := tabM T.C a l hh S ++ [(p, .lst (ims (iD ((List.range k).map (payT own S)))))]) 3 (ev_varM rfl) (ev_if (et_val (ev_op (ev_turned T (ev_varM rfl) rfl) (ev_varI rfl) (rv_ixL (at_nat hct)))) (fun hc => ?_) (fun hc => ?_)) ⟨3, _, rfl⟩ rfl (by unfold ims; rw [List.length_map, iD_len, List.length_map, List.length_range]; omega) ⟨_, _, rfl, ?_⟩
      · unfold payT
        rw [if_pos hc]
        exact ev_neg (ev_varI rfl)
      · unfold payT
        rw [if_neg (by rw [hc]; decide)]
        exact ev_varI rfl
      · rw [List.range_succ, List.map_append]
        show tabM T.C a l hh S ++ [(p, .lst (ims (iD ((List.range k).map (payT own S))) ++ [I (payT own S k)]))] = _
        unfold ims iD
        rw [List.map_append, List.map_append]
        rfl
    · subst e1 e2
      rw [rngD_len]
      exact ⟨x3, x4, rfl, rfl⟩
  · subst e1 e2
    exact t_ret (ev_tup (ds := [.list (iD (paperT own S)), .int S.low]) (μ1 := tabM T.C a l hh S) (ea_cons (ev_freeze 3 (ev_varM rfl) rfl) (ea_cons (ev_low T (ev_varM rfl) rfl) ea_nil)) (by simp)) ⟨rfl, rfl⟩
end
end WM

set_option Elab.async false
set_option linter.all false
set_option maxRecDepth 100000
set_option maxHeartbeats 2000000
namespace WM
open PySem PySem.Spec PyProof.Rows L2 StX
theorem turn_len {a c : Nat} {S : Tab} : (turnT a c S).length = S.lines.length := by
  unfold turnT
  split
  · rw [List.length_set]
  · rfl
theorem getD_set {α : Type} {xs : List α} {i j : Nat} {z d : α} (h : i < xs.length) : (xs.set i z).getD j d = if j = i then z else xs.getD j d := by
  rw [List.getD_eq_getElem?_getD, List.getD_eq_getElem?_getD]
  by_cases e : j = i
  · subst e
    rw [List.getElem?_set_self h, if_pos rfl]
    rfl
  · rw [List.getElem?_set_ne (Ne.symm e), if_neg e]
theorem TabOk0.turn {S : Tab} (ok : TabOk0 S) {a c i : Nat} (ha : a < S.high) (hi : i < S.high) : ((turnT a c S).getD i []).length = S.wide + S.high + 1 ∧ ∀ z ∈ (turnT a c S).getD i [], z.natAbs < 2 ^ 100 := by
  have hl := ok.ll
  have li : (S.lines.getD i []).length = S.wide + S.high + 1 ∧ ∀ z ∈ S.lines.getD i [], z.natAbs < 2 ^ 100 := (ok.line hi).2
  have la := (ok.line ha).2
  unfold turnT
  split
  · rw [getD_set (by omega)]
    split
    · unfold negL
      refine ⟨by rw [List.length_map]; exact la.1, fun z hz => ?_⟩
      obtain ⟨y, hy, rfl⟩ := List.mem_map.mp hz
      rw [Int.natAbs_neg]
      exact la.2 y hy
    · exact li
  · exact li
def linesK (a c : Nat) (S : Tab) (k : Nat) : List (List Int) := (List.range S.high).map fun i => if i < k ∧ i ≠ a then clearedL S.low ((turnT a c S).getD i []) ((turnT a c S).getD a []) c else (turnT a c S).getD i []
theorem linesK_zero {a c : Nat} {S : Tab} (h : S.lines.length = S.high) : linesK a c S 0 = turnT a c S := by
  apply List.ext_getElem?
  intro i
  unfold linesK
  rw [List.getElem?_map]
  by_cases hi : i < S.high
  · rw [List.getElem?_range hi, getD_at (z := ([] : List Int)) (by rw [turn_len]; omega : i < (turnT a c S).length)]
    show some (if i < 0 ∧ i ≠ a then _ else _) = _
    rw [if_neg (fun z => Nat.not_lt_zero _ z.1)]
  · rw [List.getElem?_eq_none (by rw [List.length_range]; omega), List.getElem?_eq_none (by rw [turn_len]; omega)]
    rfl
theorem linesK_len {a c : Nat} {S : Tab} {k : Nat} : (linesK a c S k).length = S.high := by unfold linesK; rw [List.length_map, List.length_range]
theorem linesK_get {a c : Nat} {S : Tab} {k i : Nat} (hi : i < S.high) : (linesK a c S k).getD i [] = if i < k ∧ i ≠ a then clearedL S.low ((turnT a c S).getD i []) ((turnT a c S).getD a []) c else (turnT a c S).getD i [] := by
  unfold linesK
  rw [List.getD_eq_getElem?_getD, List.getElem?_map, List.getElem?_range hi]
  rfl
theorem linesK_end {a c : Nat} {S : Tab} : linesK a c S S.high = (changeT a c S).lines := by
  show (List.range S.high).map _ = (List.range S.high).map _
  apply List.map_congr_left
  intro i hi
  have hi := List.mem_range.mp hi
  by_cases e : i = a
  · subst e
    rw [if_neg (fun z => z.2 rfl), if_pos rfl]
  · rw [if_pos ⟨hi, e⟩, if_neg e]
theorem linesK_same {a c : Nat} {S : Tab} : linesK a c S (a + 1) = linesK a c S a := by
  unfold linesK
  apply List.map_congr_left
  intro i _
  by_cases e : i = a
  · subst e
    rw [if_neg (fun z => z.2 rfl), if_neg (fun z => z.2 rfl)]
  · by_cases h : i < a
    · rw [if_pos ⟨by omega, e⟩, if_pos ⟨h, e⟩]
    · rw [if_neg (fun z => absurd z.1 (by omega)), if_neg (fun z => h z.1)]
theorem linesK_succ {a c : Nat} {S : Tab} {k : Nat} (h : k < S.high) (hk : k ≠ a) : linesK a c S (k + 1) = (linesK a c S k).set k (clearedL S.low ((turnT a c S).getD k []) ((turnT a c S).getD a []) c) := by
  apply List.ext_getElem?
  intro i
  by_cases hi : i < S.high
  · rw [getD_at (z := ([] : List Int)) (by rw [linesK_len]; exact hi : i < (linesK a c S (k + 1)).length), getD_at (z := ([] : List Int)) (by rw [List.length_set, linesK_len]; exact hi : i < ((linesK a c S k).set k _).length), getD_set (by rw [linesK_len]; exact h), linesK_get hi, linesK_get hi]
    by_cases e : i = k
    · subst e
      rw [if_pos ⟨by omega, hk⟩, if_pos rfl]
    · rw [if_neg e]
      by_cases e2 : i < k ∧ i ≠ a
      · rw [if_pos ⟨by omega, e2.2⟩, if_pos e2]
      · rw [if_neg (fun z => e2 ⟨by omega, z.2⟩), if_neg e2]
  · rw [List.getElem?_eq_none (by rw [linesK_len]; omega), List.getElem?_eq_none (by rw [List.length_set, linesK_len]; omega)]
theorem dLn_set {ls : List (List Int)} {i : Nat} {r : List Int} : (ims (dLn ls)).set i (Ls (iD r)) = ims (dLn (ls.set i r)) := by
  unfold ims dLn
  rw [List.map_set, List.map_set]
theorem iN_set {ns : List Nat} {i c : Nat} : (ims (iN ns)).set i (I (c : Int)) = ims (iN (ns.set i c)) := by
  unfold ims iN
  rw [List.map_set, List.map_set]
section
variable {P : Program} {w : World} {K : PySem.W.Frag} {mg : Str → Option Value} {base : Heap}
def pre_Table_change (C : Addr) : PreT := fun ss μ O => ∃ (a l h : Addr) (S : Tab) (i col : Nat), ss = [.mr a, I (i : Int), I (col : Int)] ∧ μ = tabM C a l h S ∧ TabOk S ∧ i < S.high ∧ col < S.wide + S.high ∧ O = fun r m => r = .im .none ∧ m = tabM C a l h (changeT i col S)
theorem ok_Table_change (T : Txt K mg) : FnOk P w K mg base CX0 (2 + 1) T.d_Table_change.f T.d_Table_change.fd P_Table_change (SpW K (pre_Table_change T.C)) := by
  refine T.d_Table_change.F.ok sc_Table_change (sp_len fun ss μ O ⟨_, _, _, _, _, _, e, _⟩ => by rw [e]; rfl) (fun cdv A outer s H vs Q E hr h => ?_)
  refine ⟨_, (pss_cons (ps_if (pt_cmpR op_lt (pe_ix (k_ix (K := K) rfl) (pe_ix (k_ix (K := K) rfl) (k_fld (K := K) rfl (pv 0) rfl) (pv 1) (fun _ _ => rfl)) (pv 2) (fun _ _ => rfl)) pe_int (nomark _))
      (pss_one (ps_asg (pe_lc (own := [("one", 6)]) rfl sc_Table_change.nd (k_piL (K := K) rfl (pe_ix (k_ix (K := K) rfl) (k_fld (K := K) rfl (pv 0) rfl) (pv 1) (fun _ _ => rfl))) (blkOk_by (N := N_Table_change) (sc := defScope s_Table_change) (by decide +kernel)) (fun _ _ _ _ _ => (pg_name (i := 6) sc_Table_change.nd rfl (.inl rfl) (.inr rfl))) (fun _ _ _ _ _ => pts_nil) (fun _ _ _ _ _ => (pe_un un_neg (pv 6)))) (pg_sub (k_fld (K := K) rfl (pv 0) rfl) (pv 1) set_list)))
      pss_nil)
    (pss_cons (ps_set (i := 3) sc_Table_change.nd rfl (.inl rfl) (pe_ix (k_ix (K := K) rfl) (k_fld (K := K) rfl (pv 0) rfl) (pv 1) (fun _ _ => rfl)) (hf := .inr rfl))
    (pss_cons (ps_set (i := 4) sc_Table_change.nd rfl (.inl rfl) (pe_ix (k_ix (K := K) rfl) (pv 3) (pv 2) (fun _ _ => rfl)) (hf := .inr rfl))
    (pss_cons (ps_for PassesOwn.never rfl (pi_range1 (by rfl) T.b_range (pa_cons (k_fld (K := K) rfl (pv 0) rfl) pa_nil)) (pg_name (i := 5) sc_Table_change.nd rfl (.inl rfl) (.inr rfl))
      (pss_one (ps_if (pt_cmpR (k_neD (K := K) hr.units rfl) (pv 5) (pv 1) (nomark _))
        (pss_one (ps_asg (pe_meth (pv 0) T.cl T.mt_cleared (ok_Table_cleared T) (hr.mono (by decide)) T.d_Table_cleared.b .nil pass0 (pa_cons (pe_ix (k_ix (K := K) rfl) (k_fld (K := K) rfl (pv 0) rfl) (pv 5) (fun _ _ => rfl)) (pa_cons (pv 3) (pa_cons (pv 2) pa_nil)))) (pg_sub (k_fld (K := K) rfl (pv 0) rfl) (pv 5) set_list)))
        pss_nil)))
    (pss_cons (ps_fld (pv 0) (pe_meth (pv 0) T.cl T.mt_cleared (ok_Table_cleared T) (hr.mono (by decide)) T.d_Table_cleared.b .nil pass0 (pa_cons (k_fld (K := K) rfl (pv 0) rfl) (pa_cons (pv 3) (pa_cons (pv 2) pa_nil)))) rfl)
    (pss_cons (ps_fld (pv 0) (pv 4) rfl)
    (pss_one (ps_asg (pv 2) (pg_sub (k_fld (K := K) rfl (pv 0) rfl) (pv 1) set_list))))))))), ?_⟩
  refine fin h fun ss μ O ⟨a, l, hh, S, i, col, e1, e2, ok, hi, hc, e3⟩ => ?_
  subst e1 e2 e3
  have hw := ok.w
  have hh3 := ok.h
  have hfl := ok.fl
  have hll := ok.ll
  have hhl := ok.hl
  obtain ⟨_, li, bi⟩ := ok.toTabOk0.line hi
  have htl := turn_len (a := i) (c := col) (S := S)
  refine t_seq (M := At [.mr a, I (i : Int), I (col : Int), .un, .un, .un, .un] (tabM T.C a l hh { S with lines := turnT i col S })) ?_ fun x y ⟨e1, e2⟩ => ?_
  · refine t_if (b := decide (cell (S.line i) col < 0)) (et_op (ev_op (ev_line T (ev_varM rfl) rfl (ev_varI rfl) rfl (by omega)) (ev_varI rfl) (rv_ixL (at_nat (iD_getD (by omega))))) ev_int rv_lt) (fun hcc => ?_) (fun hcc => ?_)
    · have e : turnT i col S = S.lines.set i (negL (S.line i)) := by unfold turnT; rw [if_pos (of_decide_eq_true hcc)]
      rw [e]
      refine t_setI (s := Ls (iD (negL (S.line i)))) (i := (i : Int)) (j := i) (μ1 := tabM T.C a l hh S) (μ2 := tabM T.C a l hh S) (μ3 := tabM T.C a l hh S) 1 (ev_map (ix := [6]) (ei_list (ds := iD (S.line i)) (ev_line T (ev_varM rfl) rfl (ev_varI rfl) rfl (by omega))) glin_nil (by rw [iD_len]; omega) (fun j h => h) (by unfold negL; rw [iD_len, iD_len, List.length_map]) fun k d d' hd hd' => ?_) (ev_lines T (ev_varM rfl) rfl) (ev_varI rfl) rfl (by unfold ims dLn; rw [List.length_map, List.length_map, hll]; exact ixN_nat hi) ⟨rfl, ?_⟩
      · obtain ⟨z, hz, rfl⟩ := iD_get hd
        obtain ⟨y, hy, rfl⟩ := iD_get hd'
        unfold negL at hy
        rw [List.getElem?_map, hz] at hy
        cases hy
        exact ⟨_, bnd_name, ev_neg (ev_varI rfl)⟩
      · rw [dLn_set]
        rfl
    · have e : turnT i col S = S.lines := by unfold turnT; rw [if_neg (of_decide_eq_false hcc)]
      rw [e]
      exact t_next ⟨rfl, rfl⟩
  subst e1 e2
  obtain ⟨tl, tb⟩ := ok.toTabOk0.turn (c := col) hi hi
  have htk : ∀ k, k < S.high → ((turnT i col S).getD k []).length = S.wide + S.high + 1 ∧ ∀ z ∈ (turnT i col S).getD k [], z.natAbs < 2 ^ 100 := fun k hk => ok.toTabOk0.turn hi hk
  refine q_set (s := Ls (iD ((turnT i col S).getD i []))) (μ1 := tabM T.C a l hh { S with lines := turnT i col S }) (ev_line (S := { S with lines := turnT i col S }) T (ev_varM rfl) rfl (ev_varI rfl) rfl (by show i < (turnT i col S).length; omega)) ?_
  refine q_set (s := I (cell ((turnT i col S).getD i []) col)) (ev_op (ev_varI rfl) (ev_varI rfl) (rv_ixL (at_nat (iD_getD (by omega))))) ?_
  refine t_seq (M := fun x y => ∃ x5, x = [.mr a, I (i : Int), I (col : Int), Ls (iD ((turnT i col S).getD i [])), I (cell ((turnT i col S).getD i []) col), x5, .un] ∧ y = tabM T.C a l hh { S with lines := (changeT i col S).lines }) ?_ fun x y ⟨x5, e1, e2⟩ => ?_
  · refine t_for (ix := [5]) (ds := rngD 0 S.high) (μ0 := tabM T.C a l hh { S with lines := turnT i col S }) ?_ (fun k x y => ∃ x5, x = [.mr a, I (i : Int), I (col : Int), Ls (iD ((turnT i col S).getD i [])), I (cell ((turnT i col S).getD i []) col), x5, .un] ∧ y = tabM T.C a l hh { S with lines := linesK i col S k }) ⟨.un, rfl, by rw [linesK_zero hll]⟩ (fun _ _ _ _ => glin_nil) (fun k d x y hd ⟨x5, e1, e2⟩ => ?_) fun x y ⟨x5, e1, e2⟩ => ?_
    · have key := ei_rng1 (K := K) (δ := [.mr a, I (i : Int), I (col : Int), Ls (iD ((turnT i col S).getD i [])), I (cell ((turnT i col S).getD i []) col), .un, .un]) (μ := tabM T.C a l hh { S with lines := turnT i col S }) (tr := tCons (tFld K (tVar 0) "high") tNil) (ea_cons (ev_high (S := { S with lines := turnT i col S }) T (ev_varM rfl) rfl) ea_nil) (show (-1000 : Int) ≤ (S.high : Int) by omega) (show (S.high : Int) ≤ 100000 by omega)
      rw [Int.toNat_natCast] at key
      exact key
    · subst e1 e2
      obtain ⟨hk, rfl⟩ := rngD_get hd
      have zk : (0 : Int) + (k : Int) = (k : Int) := Int.zero_add _
      rw [zk]
      refine ⟨_, bnd_name, ?_⟩
      refine t_if (et_op (ev_varI rfl) (ev_varI rfl) rv_neI) (fun hcc => ?_) (fun hcc => ?_)
      · have hne : k ≠ i := by
          intro e
          subst e
          simp at hcc
        rw [linesK_succ hk hne]
        have hlk : (linesK i col S k).getD k [] = (turnT i col S).getD k [] := by rw [linesK_get hk, if_neg (fun z => Nat.lt_irrefl _ z.1)]
        have hkl := linesK_len (a := i) (c := col) (S := S) (k := k)
        generalize linesK i col S k = LK at hlk hkl
        obtain ⟨kl, kb⟩ := htk k hk
        refine t_setI (s := Ls (iD (clearedL S.low ((turnT i col S).getD k []) ((turnT i col S).getD i []) col))) (i := (k : Int)) (j := k) (μ1 := tabM T.C a l hh { S with lines := LK }) (μ2 := tabM T.C a l hh { S with lines := LK }) (μ3 := tabM T.C a l hh { S with lines := LK }) 1
          (ev_methF (ev_varM rfl) rfl rfl (ea_cons (s := Ls (iD ((turnT i col S).getD k []))) (μ1 := tabM T.C a l hh { S with lines := LK }) ?_ (ea_cons (ev_varI rfl) (ea_cons (ev_varI rfl) ea_nil))) ⟨a, l, hh, { S with lines := LK }, (turnT i col S).getD k [], (turnT i col S).getD i [], col, rfl, rfl, ok.lp, ok.lb, by omega, by omega, by omega, kb, tb, rfl⟩)
          (ev_lines (S := { S with lines := LK }) T (ev_varM rfl) rfl) (ev_varI rfl) rfl (by unfold ims dLn; rw [List.length_map, List.length_map]; show ixN LK.length _ = _; rw [hkl]; exact ixN_nat hk) ⟨_, rfl, ?_⟩
        · rw [← hlk]
          exact ev_line (S := { S with lines := LK }) T (ev_varM rfl) rfl (ev_varI rfl) rfl (by show k < LK.length; omega)
        · show [_, (l, MO.lst ((ims (dLn LK)).set k (Ls (iD (clearedL S.low ((turnT i col S).getD k []) ((turnT i col S).getD i []) col)))))] ++ _ = _
          rw [dLn_set]
          rfl
      · have hik : k = i := by
          apply Classical.byContradiction
          intro z
          have : (!decide ((k : Int) = (i : Int))) = true := by
            rw [decide_eq_false (by omega)]; rfl
          rw [this] at hcc
          cases hcc
        subst hik
        rw [linesK_same]
        exact t_next ⟨_, rfl, rfl⟩
    · subst e1 e2
      rw [rngD_len, linesK_end]
      exact ⟨x5, rfl, rfl⟩
  subst e1 e2
  generalize hLL : (changeT i col S).lines = LL
  generalize hld : (turnT i col S).getD i [] = lead at tl tb
  refine q_fld (s := Ls (iD (clearedL S.low S.left lead col))) (μ1 := tabM T.C a l hh { S with lines := LL }) (μ2 := tabM T.C a l hh { S with lines := LL }) (fs := tabF l hh { S with lines := LL }) 0
    (ev_methF (ev_varM rfl) rfl rfl (ea_cons (ev_left (S := { S with lines := LL }) T (ev_varM rfl) rfl) (ea_cons (ev_varI rfl) (ea_cons (ev_varI rfl) ea_nil))) ⟨a, l, hh, { S with lines := LL }, S.left, lead, col, rfl, rfl, ok.lp, ok.lb, by omega, by omega, by omega, ok.fb, tb, rfl⟩)
    (ev_varM rfl) rfl T.cl T.n_left (show 7 < 1000 by decide) ?_
  refine (show Tri K _ _ (tabM T.C a l hh { S with lines := LL, left := clearedL S.low S.left lead col }) _ _ from ?_)
  refine q_fld (s := I (cell lead col)) (μ1 := tabM T.C a l hh { S with lines := LL, left := clearedL S.low S.left lead col }) (μ2 := tabM T.C a l hh { S with lines := LL, left := clearedL S.low S.left lead col }) (fs := tabF l hh { S with lines := LL, left := clearedL S.low S.left lead col }) 0
    (ev_varI rfl) (ev_varM rfl) rfl T.cl T.n_low (show 7 < 1000 by decide) ?_
  refine (show Tri K _ _ (tabM T.C a l hh { S with lines := LL, left := clearedL S.low S.left lead col, low := cell lead col }) _ _ from ?_)
  refine t_setI (s := I (col : Int)) (i := (i : Int)) (j := i) (μ1 := tabM T.C a l hh { S with lines := LL, left := clearedL S.low S.left lead col, low := cell lead col }) (μ2 := tabM T.C a l hh { S with lines := LL, left := clearedL S.low S.left lead col, low := cell lead col }) (μ3 := tabM T.C a l hh { S with lines := LL, left := clearedL S.low S.left lead col, low := cell lead col }) 2
    (ev_varI rfl) (ev_heldF (S := { S with lines := LL, left := clearedL S.low S.left lead col, low := cell lead col }) T (ev_varM rfl) rfl) (ev_varI rfl) rfl (by unfold ims iN; rw [List.length_map, List.length_map]; show ixN S.held.length _ = _; rw [hhl]; exact ixN_nat hi) ⟨rfl, ?_⟩
  show [_, _, (hh, MO.lst ((ims (iN S.held)).set i (I (col : Int))))] = _
  rw [iN_set, ← hLL, ← hld]
  rfl
end
end WM

set_option Elab.async false
set_option linter.all false
set_option maxRecDepth 100000
set_option maxHeartbeats 2000000
namespace WM
open PySem PySem.Spec PyProof.Rows L2 StX
def pRng (q : Nat → Bool) : PyData → Bool
  | .int j => q j.toNat
  | _ => false
theorem pRng_nat (q : Nat → Bool) (k : Nat) : pRng q (.int (k : Int)) = q k := by
  show q ((k : Int)).toNat = q k
  rw [Int.toNat_natCast]
theorem filt_rng (q : Nat → Bool) : ∀ n : Nat, ((rngD 0 n).filter (pRng q)).map id = iN ((List.range n).filter q) := by
  intro n
  unfold rngD iN
  rw [List.map_id, List.filter_map]
  congr 1
  · funext i
    show PyData.int (0 + ((i : Nat) : Int)) = _
    rw [Int.zero_add]
  · congr 1
    funext i
    show pRng q (.int (0 + ((i : Nat) : Int))) = q i
    rw [Int.zero_add, pRng_nat]
theorem shaped_iN (ns : List Nat) : SeqAt.shaped (.list (iN ns)) = true := shaped_list fun d hd => by
  obtain ⟨n, _, rfl⟩ := List.mem_map.mp hd
  exact ⟨rfl, dep_int _⟩
theorem change_wide {i c : Nat} {S : Tab} : (changeT i c S).wide = S.wide ∧ (changeT i c S).high = S.high := ⟨rfl, rfl⟩
theorem clearStep_wide {S : Tab} {i : Nat} : (clearStep S i).wide = S.wide ∧ (clearStep S i).high = S.high := by
  unfold clearStep
  split
  · split
    · exact ⟨rfl, rfl⟩
    · exact ⟨rfl, rfl⟩
  · exact ⟨rfl, rfl⟩
theorem clearT_succ (S : Tab) (k : Nat) : clearT S (k + 1) = clearStep (clearT S k) k := by
  unfold clearT
  rw [List.range_succ, List.foldl_append]
  rfl
theorem clearT_wide (S : Tab) : ∀ k, (clearT S k).wide = S.wide ∧ (clearT S k).high = S.high
  | 0 => ⟨rfl, rfl⟩
  | k + 1 => by
    rw [clearT_succ]
    have h1 := clearStep_wide (S := clearT S k) (i := k)
    have h2 := clearT_wide S k
    exact ⟨h1.1.trans h2.1, h1.2.trans h2.2⟩
section
variable {P : Program} {w : World} {K : PySem.W.Frag} {mg : Str → Option Value} {base : Heap}
def pre_Table_clear_base (C : Addr) : PreT := fun ss μ O => ∃ (a l h : Addr) (S : Tab), ss = [.mr a] ∧ μ = tabM C a l h S ∧ (∀ k, k ≤ S.high → TabOk (clearT S k)) ∧ O = fun r m => r = .im .none ∧ m = tabM C a l h (clearT S S.high)
theorem ok_Table_clear_base (T : Txt K mg) : FnOk P w K mg base CX0 (3 + 1) T.d_Table_clear_base.f T.d_Table_clear_base.fd P_Table_clear_base (SpW K (pre_Table_clear_base T.C)) := by
  refine T.d_Table_clear_base.F.ok sc_Table_clear_base (sp_len fun ss μ O ⟨_, _, _, _, e, _⟩ => by rw [e]; rfl) (fun cdv A outer s H vs Q E hr h => ?_)
  refine ⟨_, (pss_one (ps_for PassesOwn.never rfl (pi_range1 (by rfl) T.b_range (pa_cons (k_fld (K := K) rfl (pv 0) rfl) pa_nil)) (pg_name (i := 1) sc_Table_clear_base.nd rfl (.inr rfl) (.inl rfl))
      (pss_one (ps_if (pt_cmpR op_ge (pe_ix (k_ix (K := K) rfl) (k_fld (K := K) rfl (pv 0) rfl) (pv 1) (fun _ _ => rfl)) (k_fld (K := K) rfl (pv 0) rfl) (nomark _))
        (pss_cons (ps_setLc (i := 2) (own := [("spot", 3)]) rfl sc_Table_clear_base.nd rfl rfl (sw_true rfl rfl rfl (by decide +kernel)) (pi_range1 (by rfl) T.b_range (pa_cons (k_fld (K := K) rfl (pv 0) rfl) pa_nil)) (blkOk_by (N := N_Table_clear_base) (sc := defScope s_Table_clear_base) (by decide +kernel)) (fun _ _ _ _ _ => (pg_name (i := 3) sc_Table_clear_base.nd rfl (.inl rfl) (.inr rfl))) (fun _ _ _ _ _ => (pts_one (pt_cmpR (k_neD (K := K) hr.units rfl) (pe_ix (k_ix (K := K) rfl) (pe_ix (k_ix (K := K) rfl) (k_fld (K := K) rfl (pv 0) rfl) (pv 1) (fun _ _ => rfl)) (pv 3) (fun _ _ => rfl)) pe_int (nomark _)))) (fun _ _ _ _ _ => (pv 3)))
        (pss_one (ps_if (pt_cmpR (k_neD (K := K) hr.units rfl) (pv 2) (pe_lst pa_nil) (nomark _))
          (pss_one (ps_expr (pe_meth (pv 0) T.cl T.mt_change (ok_Table_change T) (hr.mono (by decide)) T.d_Table_change.b .nil pass0 (pa_cons (pv 1) (pa_cons (pe_ix (k_ix (K := K) rfl) (pv 2) pe_int (fun _ _ => rfl)) pa_nil)))))
          pss_nil)))
        pss_nil)))), ?_⟩
  refine fin h fun ss μ O ⟨a, l, hh, S, e1, e2, oks, e3⟩ => ?_
  subst e1 e2 e3
  have ok0 : TabOk S := oks 0 (Nat.zero_le _)
  have hh3 := ok0.h
  have hw := ok0.w
  refine t_for (ix := [1]) (ds := rngD 0 S.high) (μ0 := tabM T.C a l hh S) ?_ (fun k x y => ∃ x1 x2, x = [.mr a, x1, x2, .un] ∧ y = tabM T.C a l hh (clearT S k)) ⟨.un, .un, rfl, rfl⟩ (fun _ _ _ _ => glin_nil) (fun k d x y hd ⟨x1, x2, e1, e2⟩ => ?_) fun x y ⟨x1, x2, e1, e2⟩ => ?_
  · have key := ei_rng1 (K := K) (δ := [.mr a, .un, .un, .un]) (μ := tabM T.C a l hh S) (tr := tCons (tFld K (tVar 0) "high") tNil) (ea_cons (ev_high (S := S) T (ev_varM rfl) rfl) ea_nil) (by omega) (by omega)
    rw [Int.toNat_natCast] at key
    exact key
  · subst e1 e2
    obtain ⟨hk, rfl⟩ := rngD_get hd
    have zk : (0 : Int) + (k : Int) = (k : Int) := Int.zero_add _
    rw [zk]
    have ok := oks k (by omega)
    obtain ⟨w1, w2⟩ := clearT_wide S k
    rw [clearT_succ]
    generalize clearT S k = Z at ok w1 w2
    have hll := ok.ll
    have hhl := ok.hl
    refine ⟨_, bnd_name, ?_⟩
    refine t_if (b := decide ((Z.wide : Int) ≤ ((Z.hold k : Nat) : Int))) (et_op (ev_hold (S := Z) T (ev_varM rfl) rfl (ev_varI rfl) rfl (by omega)) (ev_wide (S := Z) T (ev_varM rfl) rfl) rv_ge) (fun hc => ?_) (fun hc => ?_)
    · have hc2 : Z.wide ≤ Z.hold k := by have := of_decide_eq_true hc; omega
      obtain ⟨_, lk, _⟩ := ok.toTabOk0.line (i := k) (by omega)
      refine q_set (s := Ls (iN (nzT Z k))) (μ1 := tabM T.C a l hh Z) ?_ ?_
      · unfold nzT
        rw [← filt_rng]
        refine ev_filt (ix := [3]) (ds := rngD 0 Z.wide) (μ0 := tabM T.C a l hh Z) _ id ?_ glin_nil (by rw [rngD_len]; omega) (fun j h => h) fun i d hd => ?_
        · have key := ei_rng1 (K := K) (δ := [.mr a, I (k : Int), x2, .un]) (μ := tabM T.C a l hh Z) (tr := tCons (tFld K (tVar 0) "wide") tNil) (ea_cons (ev_wide (S := Z) T (ev_varM rfl) rfl) ea_nil) (by omega) (by omega)
          rw [Int.toNat_natCast] at key
          exact key
        · obtain ⟨hi, rfl⟩ := rngD_get hd
          have zi : (0 : Int) + (i : Int) = (i : Int) := Int.zero_add _
          rw [zi, pRng_nat]
          exact ⟨_, bnd_name, et_op (ev_op (ev_line (S := Z) T (ev_varM rfl) rfl (ev_varI rfl) rfl (by omega)) (ev_varI rfl) (rv_ixL (at_nat (iD_getD (by omega))))) ev_int rv_neI, fun _ => ev_varI rfl⟩
      cases hnz : nzT Z k with
      | nil =>
        have e : clearStep Z k = Z := by unfold clearStep; rw [if_pos hc2, hnz]
        rw [e]
        exact t_if (b := false) (et_op (ev_varI rfl) (ev_lst (ds := []) ea_nil (by simp)) (rv_ne (by decide +kernel) (by decide +kernel))) (fun z => nomatch z) fun _ => t_next ⟨_, _, rfl, rfl⟩
      | cons c cs =>
        have e : clearStep Z k = changeT k c Z := by unfold clearStep; rw [if_pos hc2, hnz]
        have hcm : c ∈ nzT Z k := by rw [hnz]; simp
        have hcw : c < Z.wide := List.mem_range.mp (List.mem_filter.mp hcm).1
        rw [e]
        refine t_if (b := true) (et_op (ev_varI rfl) (ev_lst (ds := []) ea_nil (by simp)) ?_) (fun _ => ?_) (fun z => nomatch z)
        · have := rv_ne (K := K) (μ := tabM T.C a l hh Z) (shaped_iN (c :: cs)) (show SeqAt.shaped (.list []) = true by decide +kernel)
          rw [eqv_nil] at this
          exact this
        · have hat : atI (iN (c :: cs)) 0 = some (.int (c : Int)) := by show atI _ ((0 : Nat) : Int) = _; exact at_nat rfl
          exact t_drop (ev_methF (ev_varM rfl) rfl rfl (ea_cons (ev_varI rfl) (ea_cons (ev_op (ev_varI rfl) ev_int (rv_ixL hat)) ea_nil)) ⟨a, l, hh, Z, k, c, rfl, rfl, ok, by omega, by omega, rfl⟩) ⟨_, _, rfl, rfl⟩
    · have hc2 : ¬ Z.wide ≤ Z.hold k := by have := of_decide_eq_false hc; omega
      have e : clearStep Z k = Z := by unfold clearStep; rw [if_neg hc2]
      rw [e]
      exact t_next ⟨_, _, rfl, rfl⟩
  · subst e1 e2
    rw [rngD_len]
    exact ⟨rfl, rfl⟩
def pre_Table_descend (C : Addr) : PreT := fun ss μ O => ∃ (a l h : Addr) (S : Tab) (many n : Nat) (r : Option Nat) (Z : Tab), ss = [.mr a, I (many : Int)] ∧ μ = tabM C a l h S ∧ many ≤ S.wide ∧ DescN many n S r Z ∧ O = fun s m => s = .im (oD r) ∧ m = tabM C a l h Z
theorem DescN.ok {many n : Nat} {S Z : Tab} {r : Option Nat} (h : DescN many n S r Z) : TabOk S := by
  cases h with
  | stop h _ => exact h
  | off h _ _ => exact h
  | step h _ _ _ => exact h
theorem ok_Table_descend (T : Txt K mg) : FnOk P w K mg base CX0 (3 + 1) T.d_Table_descend.f T.d_Table_descend.fd P_Table_descend (SpW K (pre_Table_descend T.C)) := by
  refine T.d_Table_descend.F.ok sc_Table_descend (sp_len fun ss μ O ⟨_, _, _, _, _, _, _, _, e, _⟩ => by rw [e]; rfl) (fun cdv A outer s H vs Q E hr h => ?_)
  refine ⟨_, (pss_one (ps_while PassesOwn.never (pt_val pe_bl)
      (pss_cons (ps_setLc (i := 2) (own := [("at", 3)]) rfl sc_Table_descend.nd rfl rfl (sw_true rfl rfl rfl (by decide +kernel)) (pi_range1 (by rfl) T.b_range (pa_cons (pv 1) pa_nil)) (blkOk_by (N := N_Table_descend) (sc := defScope s_Table_descend) (by decide +kernel)) (fun _ _ _ _ _ => (pg_name (i := 3) sc_Table_descend.nd rfl (.inl rfl) (.inr rfl))) (fun _ _ _ _ _ => (pts_one (pt_cmpR op_lt (pe_ix (k_ix (K := K) rfl) (k_fld (K := K) rfl (pv 0) rfl) (pv 3) (fun _ _ => rfl)) pe_int (nomark _)))) (fun _ _ _ _ _ => (pv 3)))
      (pss_cons (ps_if (pt_cmpR (k_eqD (K := K) hr.units rfl) (pv 2) (pe_lst pa_nil) (nomark _))
        (pss_one (ps_ret pe_non))
        pss_nil)
      (pss_cons (ps_set (i := 3) sc_Table_descend.nd rfl (.inl rfl) (pe_meth (pv 0) T.cl T.mt_going (ok_Table_going T) (hr.mono (by decide)) T.d_Table_going.b .nil pass0 (pa_cons (pe_ix (k_ix (K := K) rfl) (pv 2) pe_int (fun _ _ => rfl)) pa_nil)) (hf := .inr rfl))
      (pss_cons (ps_if (pt_cmpR op_isNn (pv 3) pe_non (nomark _))
        (pss_one (ps_ret (pe_ix (k_ix (K := K) rfl) (pv 2) pe_int (fun _ _ => rfl))))
        pss_nil)
      (pss_one (ps_expr (pe_meth (pv 0) T.cl T.mt_change (ok_Table_change T) (hr.mono (by decide)) T.d_Table_change.b .nil pass0 (pa_cons (pv 3) (pa_cons (pe_ix (k_ix (K := K) rfl) (pv 2) pe_int (fun _ _ => rfl)) pa_nil))))))))))), ?_⟩
  refine fin h fun ss μ O ⟨a, l, hh, S, many, n, r, Z, e1, e2, hm, dn, e3⟩ => ?_
  subst e1 e2 e3
  refine t_while (fun m x y => ∃ Y x2 x3, x = [.mr a, I (many : Int), x2, x3] ∧ y = tabM T.C a l hh Y ∧ many ≤ Y.wide ∧ DescN many m Y r Z) n ⟨S, .un, .un, rfl, rfl, hm, dn⟩ fun m x y ⟨Y, x2, x3, e1, e2, hm, dn⟩ => ?_
  subst e1 e2
  have ok := dn.ok
  have hw := ok.w
  have hh3 := ok.h
  have hfl := ok.fl
  refine ⟨true, et_val ev_bl, fun _ => ?_, fun z => nomatch z⟩
  refine q_set (s := Ls (iN (someT many Y))) (μ1 := tabM T.C a l hh Y) ?_ ?_
  · unfold someT
    rw [← filt_rng]
    refine ev_filt (ix := [3]) (ds := rngD 0 many) (μ0 := tabM T.C a l hh Y) _ id ?_ glin_nil (by rw [rngD_len]; omega) (fun j h => h) fun i d hd => ?_
    · have key := ei_rng1 (K := K) (δ := [.mr a, I (many : Int), x2, x3]) (μ := tabM T.C a l hh Y) (tr := tCons (tVar 1) tNil) (ea_cons (ev_varI rfl) ea_nil) (by omega) (by omega)
      rw [Int.toNat_natCast] at key
      exact key
    · obtain ⟨hi, rfl⟩ := rngD_get hd
      have zi : (0 : Int) + (i : Int) = (i : Int) := Int.zero_add _
      rw [zi, pRng_nat]
      exact ⟨_, bnd_name, et_op (ev_op (ev_left (S := Y) T (ev_varM rfl) rfl) (ev_varI rfl) (rv_ixL (at_nat (iD_getD (by omega))))) ev_int rv_lt, fun _ => ev_varI rfl⟩
  have hmem : ∀ c ∈ someT many Y, c < many := fun c hc => List.mem_range.mp (List.mem_filter.mp hc).1
  have tst : EvT K (tTest (tOp (rEqD K) (tVar 2) (tLst tNil))) [.mr a, I (many : Int), Ls (iN (someT many Y)), x3] (tabM T.C a l hh Y) (iN (someT many Y)).isEmpty (tabM T.C a l hh Y) := by
    refine et_op (ev_varI rfl) (ev_lst (ds := []) ea_nil (by simp)) ?_
    have := rv_eq (K := K) (μ := tabM T.C a l hh Y) (shaped_iN (someT many Y)) (show SeqAt.shaped (.list []) = true by decide +kernel)
    rw [eqv_nil] at this
    exact this
  have go : ∀ c cs, someT many Y = c :: cs → Ev K (tMeth T.C "going" (SpW K (pre_Table_going T.C)) [] E0 (tVar 0) (tCons (tOp (rIx K) (tVar 2) (tC (.int 0))) tNil)) [.mr a, I (many : Int), Ls (iN (c :: cs)), x3] (tabM T.C a l hh Y) (.im (oD (goingT Y c))) (tabM T.C a l hh Y) := fun c cs hs => by
    have hat : atI (iN (c :: cs)) 0 = some (.int (c : Int)) := by show atI _ ((0 : Nat) : Int) = _; exact at_nat rfl
    have hc := hmem c (by rw [hs]; simp)
    exact ev_methF (ev_varM rfl) rfl rfl (ea_cons (ev_op (ev_varI rfl) ev_int (rv_ixL hat)) ea_nil) ⟨a, l, hh, Y, c, rfl, rfl, ok.toTabOk0, by omega, rfl⟩
  cases dn with
  | stop _ hs =>
    rw [hs] at tst ⊢
    exact q_if (b := true) tst (fun _ => q_retS (t_ret ev_non ⟨rfl, rfl⟩)) (fun z => nomatch z)
  | @off _ c cs _ hs hg =>
    have hgo := go c cs hs
    rw [hs] at tst ⊢
    rw [hg] at hgo
    refine q_if (b := false) tst (fun z => nomatch z) fun _ => q_next (q_set hgo ?_)
    have hat : atI (iN (c :: cs)) 0 = some (.int (c : Int)) := by show atI _ ((0 : Nat) : Int) = _; exact at_nat rfl
    exact q_if (b := true) (et_op (ev_varI rfl) ev_non rv_isN) (fun _ => q_retS (t_ret (ev_op (ev_varI rfl) ev_int (rv_ixL hat)) ⟨rfl, rfl⟩)) (fun z => nomatch z)
  | @step _ _ c i k cs _ _ hs hg dn2 =>
    have hgo := go c cs hs
    have hc := hmem c (by rw [hs]; simp)
    rw [hs] at tst ⊢
    rw [hg] at hgo
    have hi : i < Y.high := going_lt _ none (fun i hi => List.mem_range.mp hi) (fun _ z => nomatch z) i hg
    refine q_if (b := false) tst (fun z => nomatch z) fun _ => q_next (q_set hgo ?_)
    have hat : atI (iN (c :: cs)) 0 = some (.int (c : Int)) := by show atI _ ((0 : Nat) : Int) = _; exact at_nat rfl
    refine q_if (b := false) (et_op (ev_varI rfl) ev_non rv_isN) (fun z => nomatch z) fun _ => q_next ?_
    exact t_drop (ev_methF (ev_varM rfl) rfl rfl (ea_cons (ev_varI rfl) (ea_cons (ev_op (ev_varI rfl) ev_int (rv_ixL hat)) ea_nil)) ⟨a, l, hh, Y, i, c, rfl, rfl, ok, hi, by omega, rfl⟩) ⟨k, by omega, changeT i c Y, _, _, rfl, rfl, hm, dn2⟩
end
end WM

set_option Elab.async false
set_option linter.all false
set_option maxRecDepth 100000
set_option maxHeartbeats 2000000
namespace WM
open PySem PySem.Spec PyProof.Rows L2 StX
structure InOk (costs : List Int) (rows : List (List Int)) (rights : List Int) : Prop where
  n : 1 ≤ costs.length ∧ costs.length ≤ 3
  m : 1 ≤ rows.length ∧ rows.length ≤ 3
  rr : rights.length = rows.length
  rl : ∀ r ∈ rows, r.length = costs.length
  cb : ∀ z ∈ costs, Bi 50 z
  rb : ∀ r ∈ rows, ∀ z ∈ r, Bi 50 z
  tb : ∀ z ∈ rights, Bi 50 z
structure TbIn (wd : Nat) (rows : List (List Int)) (rights : List Int) : Prop where
  m : 1 ≤ rows.length ∧ rows.length ≤ 3
  w : wd ≤ 6
  rr : rights.length = rows.length
  rl : ∀ r ∈ rows, r.length = wd
  rb : ∀ r ∈ rows, ∀ z ∈ r, Bi 50 z
  tb : ∀ z ∈ rights, Bi 50 z
theorem unitN_len (v : Int) (n i : Nat) : (unitN v n i).length = n := by unfold unitN; rw [List.length_map, List.length_range]
theorem extRows_len (rows : List (List Int)) : (extRows rows).length = rows.length := by unfold extRows; rw [List.length_map, List.length_range]
theorem InOk.ext {costs : List Int} {rows : List (List Int)} {rights : List Int} (h : InOk costs rows rights) : TbIn (costs.length + rows.length) (extRows rows) rights := by
  have hn := h.n
  have hm := h.m
  refine ⟨by rw [extRows_len]; exact h.m, by omega, by rw [extRows_len]; exact h.rr, fun r hr => ?_, fun r hr z hz => ?_, h.tb⟩
  · unfold extRows at hr
    obtain ⟨i, hi, rfl⟩ := List.mem_map.mp hr
    have hi := List.mem_range.mp hi
    rw [List.length_append, unitN_len, h.rl _ (List.mem_of_getElem? (getD_at (z := ([] : List Int)) hi))]
  · unfold extRows at hr
    obtain ⟨i, hi, rfl⟩ := List.mem_map.mp hr
    have hi := List.mem_range.mp hi
    rcases List.mem_append.mp hz with hz | hz
    · exact h.rb _ (List.mem_of_getElem? (getD_at (z := ([] : List Int)) hi)) z hz
    · unfold unitN at hz
      obtain ⟨s, _, rfl⟩ := List.mem_map.mp hz
      split
      · show (-1 : Int).natAbs < 2 ^ 50; decide
      · exact bi0
theorem sgT_abs (r z : Int) : (sgT r * z).natAbs = z.natAbs := by
  unfold sgT
  split
  · rw [Int.neg_one_mul, Int.natAbs_neg]
  · rw [Int.one_mul]
theorem TbIn.wide {wd : Nat} {rows : List (List Int)} {rights : List Int} (h : TbIn wd rows rights) : (rows.getD 0 []).length = wd := h.rl _ (List.mem_of_getElem? (getD_at (z := ([] : List Int)) (by have := h.m; omega)))
theorem TbIn.init {wd : Nat} {rows : List (List Int)} {rights : List Int} (h : TbIn wd rows rights) : TabOk0 (initT rows rights) := by
  have hw := h.wide
  have hlen : ∀ r ∈ (initT rows rights).lines, ∃ i, i < rows.length ∧ r = initLine rows rights i := fun r hr => by
    obtain ⟨i, hi, rfl⟩ := List.mem_map.mp hr
    exact ⟨i, List.mem_range.mp hi, rfl⟩
  refine ⟨h.m, by show (rows.getD 0 []).length ≤ 6; rw [hw]; exact h.w, by show (rights.map _).length = rows.length; rw [List.length_map]; exact h.rr, by show ((List.range rows.length).map _).length = rows.length; rw [List.length_map, List.length_range], by show ((List.range rows.length).map _).length = rows.length; rw [List.length_map, List.length_range], fun r hr => ?_, fun r hr z hz => ?_, by show (0 : Int) < 1; decide, by show (1 : Int).natAbs < 2 ^ 100; decide, fun k hk => ?_⟩
  · obtain ⟨i, hi, rfl⟩ := hlen r hr
    show (initLine rows rights i).length = (rows.getD 0 []).length + rows.length + 1
    unfold initLine
    rw [List.length_append, List.length_append, List.length_map, unitN_len, hw, h.rl _ (List.mem_of_getElem? (getD_at (z := ([] : List Int)) hi))]
    rfl
  · obtain ⟨i, hi, rfl⟩ := hlen r hr
    unfold initLine at hz
    rcases List.mem_append.mp hz with hz | hz
    · rcases List.mem_append.mp hz with hz | hz
      · obtain ⟨y, hy, rfl⟩ := List.mem_map.mp hz
        rw [sgT_abs]
        exact Bi.mono (h.rb _ (List.mem_of_getElem? (getD_at (z := ([] : List Int)) hi)) y hy) (by decide)
      · unfold unitN at hz
        obtain ⟨s, _, rfl⟩ := List.mem_map.mp hz
        split <;> decide
    · have e := List.mem_singleton.mp hz
      rw [e, sgT_abs]
      exact Bi.mono (h.tb _ (List.mem_of_getElem? (getD_at (z := 0) (by rw [h.rr]; exact hi)))) (by decide)
  · obtain ⟨i, hi, rfl⟩ := List.mem_map.mp hk
    have := List.mem_range.mp hi
    show (rows.getD 0 []).length + i < (rows.getD 0 []).length + rows.length
    omega
section
variable {P : Program} {w : World} {K : PySem.W.Frag} {mg : Str → Option Value} {base : Heap}
def pre_Table_init (C : Addr) : PreT := fun ss μ O => ∃ (a : Addr) (wd : Nat) (rows : List (List Int)) (rights : List Int), ss = [.mr a, Ls (dLn rows), Ls (iD rights)] ∧ μ = [(a, .ins C [])] ∧ TbIn wd rows rights ∧ O = fun r m => r = .im .none ∧ ∃ l h, m = tabM C a l h (initT rows rights)
theorem ok_Table_init (T : Txt K mg) : FnOk P w K mg base CX0 (1 + 1) T.d_Table_init.f T.d_Table_init.fd P_Table_init (SpW K (pre_Table_init T.C)) := by
  refine T.d_Table_init.F.ok sc_Table_init (sp_len fun ss μ O ⟨_, _, _, _, e, _⟩ => by rw [e]; rfl) (fun cdv A outer s H vs Q E hr h => ?_)
  refine ⟨_, (pss_cons (ps_fld (pv 0) (pe_callB (k_len (K := K) rfl) (by rfl) T.b_len (by decide +kernel) (pa_cons (pe_ix (k_ix (K := K) rfl) (pv 1) pe_int (fun _ _ => rfl)) pa_nil)) rfl)
    (pss_cons (ps_fld (pv 0) (pe_callB (k_len (K := K) rfl) (by rfl) T.b_len (by decide +kernel) (pa_cons (pv 1) pa_nil)) rfl)
    (pss_cons (ps_fld (pv 0) (pe_lc (own := [("right", 7)]) rfl sc_Table_init.nd (k_piL (K := K) rfl (pv 2)) (blkOk_by (N := N_Table_init) (sc := defScope s_Table_init) (by decide +kernel)) (fun _ _ _ _ _ => (pg_name (i := 7) sc_Table_init.nd rfl (.inl rfl) (.inr rfl))) (fun _ _ _ _ _ => pts_nil) (fun _ _ _ _ _ => (pe_cmpR op_lt (pv 7) pe_int (nomark _)))) rfl)
    (pss_cons (ps_fld (pv 0) (pe_lst pa_nil) rfl)
    (pss_cons (ps_for PassesOwn.never rfl (k_enum (K := K) rfl (by rfl) T.b_enumerate (pa_cons (pv 1) pa_nil)) (k_gtup (K := K) (n := 2) rfl rfl (pgs_cons (pg_name (i := 3) sc_Table_init.nd rfl (.inr rfl) (.inl rfl)) (pgs_cons (pg_name (i := 4) sc_Table_init.nd rfl (.inl rfl) (.inr rfl)) pgs_nil)))
      (pss_cons (ps_set (i := 5) sc_Table_init.nd rfl (.inr rfl) (pe_ifExp (pt_val (pe_ix (k_ix (K := K) rfl) (k_fld (K := K) rfl (pv 0) rfl) (pv 3) (fun _ _ => rfl))) (pe_un un_neg pe_int) pe_int) (hf := .inl rfl))
      (pss_cons (ps_setLc (i := 6) (own := [("spot", 8)]) rfl sc_Table_init.nd rfl rfl (sw_true rfl rfl rfl (by decide +kernel)) (pi_range1 (by rfl) T.b_range (pa_cons (k_fld (K := K) rfl (pv 0) rfl) pa_nil)) (blkOk_by (N := N_Table_init) (sc := defScope s_Table_init) (by decide +kernel)) (fun _ _ _ _ _ => (pg_name (i := 8) sc_Table_init.nd rfl (.inl rfl) (.inr rfl))) (fun _ _ _ _ _ => pts_nil) (fun _ _ _ _ _ => (pe_ifExp (pt_cmpR (k_eqD (K := K) hr.units rfl) (pv 8) (pv 3) (nomark _)) pe_int pe_int)))
      (pss_one (ps_expr (pe_bm PySem.F.plainAttrs_list PySem.F.slot_list_append PySem.F.type_list_append mt_append (k_fld (K := K) rfl (pv 0) rfl) (pa_cons (pe_op (k_add (K := K) rfl) (pe_op (k_add (K := K) rfl) (pe_lc (own := [("one", 9)]) rfl sc_Table_init.nd (k_piL (K := K) rfl (pv 4)) (blkOk_by (N := N_Table_init) (sc := defScope s_Table_init) (by decide +kernel)) (fun _ _ _ _ _ => (pg_name (i := 9) sc_Table_init.nd rfl (.inl rfl) (.inr rfl))) (fun _ _ _ _ _ => pts_nil) (fun _ _ _ _ _ => (pe_op op_mulA (pv 5) (pv 9)))) (pv 6)) (pe_lst (pa_cons (pe_op op_mulA (pv 5) (pe_ix (k_ix (K := K) rfl) (pv 2) (pv 3) (fun _ _ => rfl))) pa_nil))) pa_nil)))))))
    (pss_cons (ps_fld (pv 0) (pe_lc (own := [("at", 3)]) rfl sc_Table_init.nd (pi_range1 (by rfl) T.b_range (pa_cons (k_fld (K := K) rfl (pv 0) rfl) pa_nil)) (blkOk_by (N := N_Table_init) (sc := defScope s_Table_init) (by decide +kernel)) (fun _ _ _ _ _ => (pg_name (i := 3) sc_Table_init.nd rfl (.inl rfl) (.inr rfl))) (fun _ _ _ _ _ => pts_nil) (fun _ _ _ _ _ => (pe_op (k_add (K := K) rfl) (k_fld (K := K) rfl (pv 0) rfl) (pv 3)))) rfl)
    (pss_cons (ps_fld (pv 0) pe_int rfl)
    (pss_one (ps_fld (pv 0) (pe_lst pa_nil) rfl))))))))), ?_⟩
  refine fin h fun ss μ O ⟨a, wd, rows, rights, e1, e2, ok, e3⟩ => ?_
  subst e1 e2 e3
  have hm := ok.m
  have hw := ok.w
  have hrr := ok.rr
  have hwd := ok.wide
  have dl : (dLn rows).length = rows.length := List.length_map ..
  have g0 : (dLn rows)[0]? = some (.list (iD (rows.getD 0 []))) := by
    unfold dLn
    rw [List.getElem?_map, getD_at (z := ([] : List Int)) (by omega : 0 < rows.length)]
    rfl
  have g0' : atI (dLn rows) 0 = some (.list (iD (rows.getD 0 []))) := by show atI _ ((0 : Nat) : Int) = _; exact at_nat g0
  refine q_fld (s := I (wd : Int)) (μ1 := [(a, .ins T.C [])]) (μ2 := [(a, .ins T.C [])]) (fs := []) 0 ?_ (ev_varM rfl) rfl T.cl T.n_wide (by decide) ?_
  · have key := ev_cb (K := K) (δ := [.mr a, Ls (dLn rows), Ls (iD rights), .un, .un, .un, .un, .un, .un, .un]) (μ := [(a, .ins T.C [])]) (ea_cons (ev_op (ev_varI (i := 1) rfl) (ev_int (i := 0)) (rv_ixL g0')) ea_nil) rc_lenL
    rw [iD_len, hwd] at key
    exact key
  refine (show Tri K _ _ [(a, .ins T.C [("wide", I (wd : Int))])] _ _ from ?_)
  refine q_fld (s := I (rows.length : Int)) (μ1 := [(a, .ins T.C [("wide", I (wd : Int))])]) (μ2 := [(a, .ins T.C [("wide", I (wd : Int))])]) (fs := [("wide", I (wd : Int))]) 0 ?_ (ev_varM rfl) rfl T.cl T.n_high (show 1 < 1000 by decide) ?_
  · have key := ev_cb (K := K) (δ := [.mr a, Ls (dLn rows), Ls (iD rights), .un, .un, .un, .un, .un, .un, .un]) (μ := [(a, .ins T.C [("wide", I (wd : Int))])]) (ea_cons (ev_varI (i := 1) rfl) ea_nil) rc_lenL
    rw [dl] at key
    exact key
  generalize htn : (rights.map fun r => decide (r < 0)) = tn
  have htl : tn.length = rows.length := by rw [← htn, List.length_map]; exact hrr
  refine (show Tri K _ _ [(a, .ins T.C [("wide", I (wd : Int)), ("high", I (rows.length : Int))])] _ _ from ?_)
  refine q_fld (s := Ls (tn.map PyData.bool)) (μ1 := [(a, .ins T.C [("wide", I (wd : Int)), ("high", I (rows.length : Int))])]) (μ2 := [(a, .ins T.C [("wide", I (wd : Int)), ("high", I (rows.length : Int))])]) (fs := [("wide", I (wd : Int)), ("high", I (rows.length : Int))]) 0
    (ev_map (ix := [7]) (ei_list (ds := iD rights) (ev_varI rfl)) glin_nil (by rw [iD_len]; omega) (fun j h => h) (by rw [List.length_map, iD_len, htl, hrr]) fun i d d' hd hd' => ?_) (ev_varM rfl) rfl T.cl T.n_turned (show 2 < 1000 by decide) ?_
  · obtain ⟨z, hz, rfl⟩ := iD_get hd
    have ee : d' = .bool (decide (z < 0)) := by
      rw [← htn, List.getElem?_map, List.getElem?_map, hz] at hd'
      cases hd'
      rfl
    rw [ee]
    exact ⟨_, bnd_name, ev_op (ev_varI rfl) ev_int rv_lt⟩
  refine (show Tri K _ _ [(a, .ins T.C [("wide", I (wd : Int)), ("high", I (rows.length : Int)), ("turned", Ls (tn.map PyData.bool))])] _ _ from ?_)
  refine q_fldF (xs := []) (μ1 := [(a, .ins T.C [("wide", I (wd : Int)), ("high", I (rows.length : Int)), ("turned", Ls (tn.map PyData.bool))])]) (fs := [("wide", I (wd : Int)), ("high", I (rows.length : Int)), ("turned", Ls (tn.map PyData.bool))]) 0 (ef_lst ea_nil (by simp)) (fun l => ev_varM rfl) rfl T.cl T.n_lines (show 3 < 1000 by decide) fun l => ?_
  refine (show Tri K _ _ ([(a, .ins T.C [("wide", I (wd : Int)), ("high", I (rows.length : Int)), ("turned", Ls (tn.map PyData.bool)), ("lines", .mr l)]), (l, .lst (ims (dLn ((List.range 0).map (initLine rows rights)))))]) _ _ from ?_)
  generalize hF4 : ([("wide", I (wd : Int)), ("high", I (rows.length : Int)), ("turned", Ls (tn.map PyData.bool)), ("lines", .mr l)] : List (Str × Slot)) = F4
  have lkT : List.lookup ("turned" : Str) F4 = some (Ls (tn.map PyData.bool)) := by rw [← hF4]; rfl
  have lkH : List.lookup ("high" : Str) F4 = some (I (rows.length : Int)) := by rw [← hF4]; rfl
  have lkL : List.lookup ("lines" : Str) F4 = some (.mr l) := by rw [← hF4]; rfl
  have lkW : List.lookup ("wide" : Str) F4 = some (I (wd : Int)) := by rw [← hF4]; rfl
  refine t_seq (M := fun x y => ∃ x3 x4 x5 x6, x = [.mr a, Ls (dLn rows), Ls (iD rights), x3, x4, x5, x6, .un, .un, .un] ∧ y = [(a, .ins T.C F4), (l, .lst (ims (dLn ((List.range rows.length).map (initLine rows rights)))))]) ?_ fun x y ⟨x3, x4, x5, x6, e1, e2⟩ => ?_
  · refine t_for (ix := [3, 4]) (ei_enum (ds := dLn rows) (G := []) (ea_cons (ev_varI rfl) ea_nil) lst_im glin_nil) (fun k x y => ∃ x3 x4 x5 x6, x = [.mr a, Ls (dLn rows), Ls (iD rights), x3, x4, x5, x6, .un, .un, .un] ∧ y = [(a, .ins T.C F4), (l, .lst (ims (dLn ((List.range k).map (initLine rows rights)))))]) ⟨.un, .un, .un, .un, rfl, rfl⟩ (fun _ _ _ _ => glin_nil) (fun k d x y hd ⟨x3, x4, x5, x6, e1, e2⟩ => ?_) fun x y ⟨x3, x4, x5, x6, e1, e2⟩ => ?_
    · subst e1 e2
      obtain ⟨d0, hd0, rfl⟩ := enumD_get' hd
      obtain ⟨r, hr', rfl⟩ := dLn_get hd0
      have hk := (List.getElem?_eq_some_iff.mp hr').1
      have er : rows.getD k [] = r := by rw [List.getD_eq_getElem?_getD, hr']; rfl
      have hrl := ok.rl r (List.mem_of_getElem? hr')
      have hrb := ok.rb r (List.mem_of_getElem? hr')
      have hkr : k < rights.length := by omega
      have hct : (tn.map PyData.bool)[k]? = some (.bool (decide (rights.getD k 0 < 0))) := by
        rw [← htn, List.getElem?_map, List.getElem?_map, getD_at (z := 0) hkr]
        rfl
      have hsg1 : Bi 1 (sgT (rights.getD k 0)) := by
        unfold sgT
        split
        · show (-1 : Int).natAbs < 2 ^ 1; decide
        · show (1 : Int).natAbs < 2 ^ 1; decide
      generalize hMU : ([(a, MO.ins T.C F4), (l, .lst (ims (dLn ((List.range k).map (initLine rows rights)))))] : Mu) = MU
      have hM0 : MU[0]? = some (a, .ins T.C F4) := by rw [← hMU]; rfl
      have hM1 : MU[1]? = some (l, .lst (ims (dLn ((List.range k).map (initLine rows rights))))) := by rw [← hMU]; rfl
      refine ⟨_, bnd_tup2, ?_⟩
      refine q_set (s := I (sgT (rights.getD k 0))) (μ1 := MU) (ev_if (et_val (ev_op (ev_fld 0 (ev_varM rfl) hM0 T.cl T.n_turned lkT) (ev_varI rfl) (rv_ixL (at_nat hct)))) (fun hc => ?_) (fun hc => ?_)) ?_
      · have e : sgT (rights.getD k 0) = -1 := by unfold sgT; rw [if_pos (of_decide_eq_true hc)]
        rw [e]
        exact ev_neg ev_int
      · have e : sgT (rights.getD k 0) = 1 := by unfold sgT; rw [if_neg (of_decide_eq_false hc)]
        rw [e]
        exact ev_int
      refine q_set (s := Ls (iD (unitN 1 rows.length k))) (μ1 := MU) (ev_map (ix := [8]) (ds := rngD 0 rows.length) (μ0 := MU) ?_ glin_nil (by rw [rngD_len]; omega) (fun j h => h) (by rw [iD_len, unitN_len, rngD_len]) fun i d e hd he => ?_) ?_
      · have key := ei_rng1 (K := K) (δ := [.mr a, Ls (dLn rows), Ls (iD rights), I (k : Int), Ls (iD r), I (sgT (rights.getD k 0)), x6, .un, .un, .un]) (μ := MU) (tr := tCons (tFld K (tVar 0) "high") tNil) (ea_cons (ev_fld 0 (ev_varM rfl) hM0 T.cl T.n_high lkH) ea_nil) (by omega) (by omega)
        rw [Int.toNat_natCast] at key
        exact key
      · obtain ⟨hi, rfl⟩ := rngD_get hd
        have zi : (0 : Int) + (i : Int) = (i : Int) := Int.zero_add _
        rw [zi]
        have ee : e = .int (if i = k then 1 else 0) := by
          unfold unitN iD at he
          rw [List.getElem?_map, List.getElem?_map, List.getElem?_range hi] at he
          cases he
          rfl
        rw [ee]
        refine ⟨_, bnd_name, ev_if (et_op (ev_varI rfl) (ev_varI rfl) rv_eqI) (fun hc => ?_) (fun hc => ?_)⟩
        · have := of_decide_eq_true hc
          rw [if_pos (by omega)]
          exact ev_int
        · have := of_decide_eq_false hc
          rw [if_neg (by omega)]
          exact ev_int
      have eline : iD (initLine rows rights k) = (iD (r.map fun z => sgT (rights.getD k 0) * z) ++ iD (unitN 1 rows.length k)) ++ [.int (sgT (rights.getD k 0) * rights.getD k 0)] := by
        unfold initLine
        rw [er]
        unfold iD
        rw [List.map_append, List.map_append]
        rfl
      refine t_app (s := Ls (iD (initLine rows rights k))) (μ1 := MU) (μ2 := MU) 1 (ev_fld 0 (ev_varM rfl) hM0 T.cl T.n_lines lkL) ?_ ⟨1, _, hM1⟩ hM1 (by unfold ims dLn; rw [List.length_map, List.length_map, List.length_map, List.length_range]; omega) ⟨_, _, _, _, rfl, ?_⟩
      · rw [eline]
        refine ev_op (ev_op (ev_map (ix := [9]) (es := iD (r.map fun z => sgT (rights.getD k 0) * z)) (ei_list (ds := iD r) (ev_varI rfl)) glin_nil (by rw [iD_len]; omega) (fun j h => h) (by rw [iD_len, iD_len, List.length_map]) fun i d e hd he => ?_) (ev_varI rfl) (rv_cat (by rw [iD_len, iD_len, unitN_len, List.length_map]; omega)))
          (ev_lst (ds := [.int _]) (ea_cons (ev_op (ev_varI rfl) (ev_op (ev_varI rfl) (ev_varI rfl) (rv_ixL (at_nat (iD_getD hkr)))) (rv_mul (cmul_of hsg1 (ok.tb _ (List.mem_of_getElem? (getD_at hkr))) (by decide) (by decide) (by decide)))) ea_nil) (by simp)) (rv_cat (by rw [List.length_append, iD_len, iD_len, unitN_len, List.length_map]; simp; omega))
        obtain ⟨z, hz, rfl⟩ := iD_get hd
        obtain ⟨y, hy, rfl⟩ := iD_get he
        rw [List.getElem?_map, hz] at hy
        cases hy
        exact ⟨_, bnd_name, ev_op (ev_varI rfl) (ev_varI rfl) (rv_mul (cmul_of hsg1 (hrb z (List.mem_of_getElem? hz)) (by decide) (by decide) (by decide)))⟩
      · rw [← hMU, List.range_succ, List.map_append]
        show [_, (l, MO.lst (ims (dLn ((List.range k).map (initLine rows rights))) ++ [Ls (iD (initLine rows rights k))]))] = _
        unfold ims dLn
        rw [List.map_append, List.map_append]
        rfl
    · subst e1 e2
      refine ⟨x3, x4, x5, x6, rfl, ?_⟩
      rw [enumD_len, dl]
  subst e1 e2
  generalize hMU : ([(a, MO.ins T.C F4), (l, .lst (ims (dLn ((List.range rows.length).map (initLine rows rights)))))] : Mu) = MU
  have hM0 : MU[0]? = some (a, .ins T.C F4) := by rw [← hMU]; rfl
  generalize hHD : ((List.range rows.length).map fun i => wd + i) = HD
  have hHL : HD.length = rows.length := by rw [← hHD, List.length_map, List.length_range]
  have hf4l : F4.length < 1000 := by rw [← hF4]; show 4 < 1000; decide
  refine q_fldF (xs := ims (iN HD)) (μ1 := MU) (fs := F4) 0 (ef_map (ix := [3]) (ds := rngD 0 rows.length) (μ0 := MU) ?_ glin_nil (by rw [rngD_len]; omega) (fun j h => h) (by unfold iN; rw [List.length_map, hHL, rngD_len]) fun i d e hd he => ?_) (fun h => ev_varM rfl) hM0 T.cl T.n_held hf4l fun h => ?_
  · have key := ei_rng1 (K := K) (δ := [.mr a, Ls (dLn rows), Ls (iD rights), x3, x4, x5, x6, .un, .un, .un]) (μ := MU) (tr := tCons (tFld K (tVar 0) "high") tNil) (ea_cons (ev_fld 0 (ev_varM rfl) hM0 T.cl T.n_high lkH) ea_nil) (by omega) (by omega)
    rw [Int.toNat_natCast] at key
    exact key
  · obtain ⟨hi, rfl⟩ := rngD_get hd
    have zi : (0 : Int) + (i : Int) = (i : Int) := Int.zero_add _
    rw [zi]
    have ee : e = .int ((wd : Int) + (i : Int)) := by
      unfold iN at he
      rw [← hHD, List.getElem?_map, List.getElem?_map, List.getElem?_range hi] at he
      cases he
      exact congrArg PyData.int (Int.natCast_add wd i)
    rw [ee]
    exact ⟨_, bnd_name, ev_op (ev_fld 0 (ev_varM rfl) hM0 T.cl T.n_wide lkW) (ev_varI rfl) rv_add⟩
  subst hMU hF4
  have einit : initT rows rights = ⟨wd, rows.length, tn, (List.range rows.length).map (initLine rows rights), HD, 1, []⟩ := by
    unfold initT
    rw [hwd, htn, hHD]
  generalize ((List.range rows.length).map (initLine rows rights)) = LN at einit
  refine (show Tri K _ _ ([(a, .ins T.C [("wide", I (wd : Int)), ("high", I (rows.length : Int)), ("turned", Ls (tn.map PyData.bool)), ("lines", .mr l), ("held", .mr h)]), (l, .lst (ims (dLn LN))), (h, .lst (ims (iN HD)))]) _ _ from ?_)
  refine q_fld (s := I 1) (μ1 := [(a, .ins T.C [("wide", I (wd : Int)), ("high", I (rows.length : Int)), ("turned", Ls (tn.map PyData.bool)), ("lines", .mr l), ("held", .mr h)]), (l, .lst (ims (dLn LN))), (h, .lst (ims (iN HD)))]) (μ2 := [(a, .ins T.C [("wide", I (wd : Int)), ("high", I (rows.length : Int)), ("turned", Ls (tn.map PyData.bool)), ("lines", .mr l), ("held", .mr h)]), (l, .lst (ims (dLn LN))), (h, .lst (ims (iN HD)))]) (fs := [("wide", I (wd : Int)), ("high", I (rows.length : Int)), ("turned", Ls (tn.map PyData.bool)), ("lines", .mr l), ("held", .mr h)]) 0 ev_int (ev_varM rfl) rfl T.cl T.n_low (show 5 < 1000 by decide) ?_
  refine (show Tri K _ _ ([(a, .ins T.C [("wide", I (wd : Int)), ("high", I (rows.length : Int)), ("turned", Ls (tn.map PyData.bool)), ("lines", .mr l), ("held", .mr h), ("low", I 1)]), (l, .lst (ims (dLn LN))), (h, .lst (ims (iN HD)))]) _ _ from ?_)
  refine t_fld (s := Ls []) (μ1 := [(a, .ins T.C [("wide", I (wd : Int)), ("high", I (rows.length : Int)), ("turned", Ls (tn.map PyData.bool)), ("lines", .mr l), ("held", .mr h), ("low", I 1)]), (l, .lst (ims (dLn LN))), (h, .lst (ims (iN HD)))]) (μ2 := [(a, .ins T.C [("wide", I (wd : Int)), ("high", I (rows.length : Int)), ("turned", Ls (tn.map PyData.bool)), ("lines", .mr l), ("held", .mr h), ("low", I 1)]), (l, .lst (ims (dLn LN))), (h, .lst (ims (iN HD)))]) (fs := [("wide", I (wd : Int)), ("high", I (rows.length : Int)), ("turned", Ls (tn.map PyData.bool)), ("lines", .mr l), ("held", .mr h), ("low", I 1)]) 0 (ev_lst (ds := []) ea_nil (by simp)) (ev_varM rfl) rfl T.cl T.n_left (show 6 < 1000 by decide) ⟨rfl, l, h, ?_⟩
  rw [einit]
  rfl
end
end WM

set_option Elab.async false
set_option linter.all false
set_option maxRecDepth 100000
set_option maxHeartbeats 2000000
namespace WM
open PySem PySem.Spec PyProof.Rows L2 StX
def dTold : Told → PyData
  | .none paper low => .tuple [.str "none", .none, .tuple [.list (iD paper), .int low]]
  | .endless plan low => .tuple [.str "endless", .tuple [.list (iD plan), .int low], .none]
  | .best plan paper low => .tuple [.str "best", .tuple [.list (iD plan), .int low], .tuple [.list (iD paper), .int low]]
theorem desc_wide {many n : Nat} {S Z : Tab} {r : Option Nat} (h : DescN many n S r Z) : Z.wide = S.wide ∧ Z.high = S.high := by
  induction h with
  | stop _ _ => exact ⟨rfl, rfl⟩
  | off _ _ _ => exact ⟨rfl, rfl⟩
  | step _ _ _ _ ih => exact ih
theorem costs1_len (n m : Nat) : (costs1 n m).length = n + m + m := by unfold costs1; rw [List.length_append, List.length_replicate, List.length_replicate]
theorem costs2_len (c : List Int) (m : Nat) : (costs2 c m).length = c.length + m + m := by unfold costs2; rw [List.length_append, List.length_replicate]; omega
theorem flat_iD (v : Int) (n : Nat) : (List.replicate n [PyData.int v]).flatten = iD (List.replicate n v) := by
  rw [flat_rep]
  unfold iD
  rw [List.map_replicate]
section
variable {P : Program} {w : World} {K : PySem.W.Frag} {mg : Str → Option Value} {base : Heap}
def pre_solved : PreT := fun ss μ O => ∃ (costs : List Int) (rows : List (List Int)) (rights : List Int) (told : Told), ss = [Tp (iD costs), Ls (rows.map (seqd true)), Ls (iD rights)] ∧ μ = [] ∧ InOk costs rows rights ∧ SolveRun costs rows rights told ∧ O = Is (.im (dTold told)) []
theorem ok_solved (T : Txt K mg) : FnOk P w K mg base CX0 (4 + 1) T.d_solved.f T.d_solved.fd P_solved (SpW K pre_solved) := by
  refine T.d_solved.F.ok sc_solved (sp_len fun ss μ O ⟨_, _, _, _, e, _⟩ => by rw [e]; rfl) (fun cdv A outer s H vs Q E hr h => ?_)
  refine ⟨_, (pss_cons (ps_asg (pe_tup (pa_cons (pe_callB (k_len (K := K) rfl) (by rfl) T.b_len (by decide +kernel) (pa_cons (pv 0) pa_nil)) (pa_cons (pe_callB (k_len (K := K) rfl) (by rfl) T.b_len (by decide +kernel) (pa_cons (pv 1) pa_nil)) pa_nil))) (k_gtup (K := K) (n := 2) rfl rfl (pgs_cons (pg_name (i := 7) sc_solved.nd rfl (.inl rfl) (.inr rfl)) (pgs_cons (pg_name (i := 8) sc_solved.nd rfl (.inr rfl) (.inl rfl)) pgs_nil))))
    (pss_cons (ps_setLc (i := 3) (own := [("at", 11), ("row", 12)]) rfl sc_solved.nd rfl rfl (sw_true rfl rfl rfl (by decide +kernel)) (k_enum (K := K) rfl (by rfl) T.b_enumerate (pa_cons (pv 1) pa_nil)) (blkOk_by (N := N_solved) (sc := defScope s_solved) (by decide +kernel)) (fun _ _ _ _ _ => (k_gtup (K := K) (n := 2) rfl rfl (pgs_cons (pg_name (i := 11) sc_solved.nd rfl (.inr rfl) (.inl rfl)) (pgs_cons (pg_name (i := 12) sc_solved.nd rfl (.inl rfl) (.inr rfl)) pgs_nil)))) (fun _ _ _ _ _ => pts_nil) (fun _ _ _ _ _ => (pe_lst (k_star (K := K) rfl (pv 12) (k_star (K := K) rfl (pe_lc (own := [("spot", 13)]) rfl sc_solved.nd (pi_range1 (by rfl) T.b_range (pa_cons (pv 8) pa_nil)) (blkOk_by (N := N_solved) (sc := relS _ (defScope s_solved)) (by decide +kernel)) (fun _ _ _ _ _ => (pg_name (i := 13) sc_solved.nd rfl (.inl rfl) (.inr rfl))) (fun _ _ _ _ _ => pts_nil) (fun _ _ _ _ _ => (pe_ifExp (pt_cmpR (k_eqD (K := K) hr.units rfl) (pv 13) (pv 11) (nomark _)) (pe_un un_neg pe_int) pe_int))) pa_nil)))))
    (pss_cons (ps_set (i := 4) sc_solved.nd rfl (.inl rfl) (pe_make T.mkT (ok_Table_init T) (hr.mono (by decide)) (by rfl) T.mgC T.d_Table_init.b .nil pass0 (pa_cons (pv 3) (pa_cons (pv 2) pa_nil))) (hf := .inr rfl))
    (pss_cons (ps_expr (pe_meth (pv 4) T.cl T.mt_weigh (ok_Table_weigh T) (hr.mono (by decide)) T.d_Table_weigh.b .nil pass0 (pa_cons (pe_op (k_add (K := K) rfl) (pe_op op_mulA (pe_lst (pa_cons pe_int pa_nil)) (pe_op (k_add (K := K) rfl) (pv 7) (pv 8))) (pe_op op_mulA (pe_lst (pa_cons pe_int pa_nil)) (pv 8))) pa_nil)))
    (pss_cons (ps_expr (pe_meth (pv 4) T.cl T.mt_descend (ok_Table_descend T) (hr.mono (by decide)) T.d_Table_descend.b .nil pass0 (pa_cons (pe_op (k_add (K := K) rfl) (pv 7) (pv 8)) pa_nil)))
    (pss_cons (ps_if (pt_cmpR (k_neD (K := K) hr.units rfl) (pe_ix (k_ix (K := K) rfl) (k_fld (K := K) rfl (pv 4) rfl) (pe_un un_neg pe_int) (fun _ _ => rfl)) pe_int (nomark _))
      (pss_one (ps_ret (pe_tup (pa_cons pe_str (pa_cons pe_non (pa_cons (pe_meth (pv 4) T.cl T.mt_paper (ok_Table_paper T) (hr.mono (by decide)) T.d_Table_paper.b .nil pass0 (pa_cons pe_int pa_nil)) pa_nil))))))
      pss_nil)
    (pss_cons (ps_expr (pe_meth0 (pv 4) T.cl T.mt_clear_base (ok_Table_clear_base T) (hr.mono (by decide)) T.d_Table_clear_base.b .nil pass0))
    (pss_cons (ps_expr (pe_meth (pv 4) T.cl T.mt_weigh (ok_Table_weigh T) (hr.mono (by decide)) T.d_Table_weigh.b .nil pass0 (pa_cons (pe_lst (k_star (K := K) rfl (pv 0) (k_star (K := K) rfl (pe_op op_mulA (pe_lst (pa_cons pe_int pa_nil)) (pe_op op_mulA pe_int (pv 8))) pa_nil))) pa_nil)))
    (pss_cons (ps_set (i := 5) sc_solved.nd rfl (.inl rfl) (pe_meth (pv 4) T.cl T.mt_descend (ok_Table_descend T) (hr.mono (by decide)) T.d_Table_descend.b .nil pass0 (pa_cons (pe_op (k_add (K := K) rfl) (pv 7) (pv 8)) pa_nil)) (hf := .inr rfl))
    (pss_cons (ps_asg (pe_meth0 (pv 4) T.cl T.mt_plan (ok_Table_plan T) (hr.mono (by decide)) T.d_Table_plan.b .nil pass0) (k_gtup (K := K) (n := 2) rfl rfl (pgs_cons (pg_name (i := 9) sc_solved.nd rfl (.inl rfl) (.inr rfl)) (pgs_cons (pg_name (i := 10) sc_solved.nd rfl (.inl rfl) (.inr rfl)) pgs_nil))))
    (pss_cons (ps_set (i := 6) sc_solved.nd rfl (.inl rfl) (pe_tup (pa_cons (pe_slice (k_slL (K := K) rfl) (pv 9) po_none (po_some (pv 7))) (pa_cons (pv 10) pa_nil))) (hf := .inr rfl))
    (pss_cons (ps_if (pt_cmpR op_notNn (pv 5) pe_non (nomark _))
      (pss_one (ps_ret (pe_tup (pa_cons pe_str (pa_cons (pv 6) (pa_cons pe_non pa_nil))))))
      pss_nil)
    (pss_one (ps_ret (pe_tup (pa_cons pe_str (pa_cons (pv 6) (pa_cons (pe_meth (pv 4) T.cl T.mt_paper (ok_Table_paper T) (hr.mono (by decide)) T.d_Table_paper.b .nil pass0 (pa_cons pe_int pa_nil)) pa_nil)))))))))))))))))), ?_⟩
  refine fin h fun ss μ O ⟨costs, rows, rights, told, e1, e2, ok, run, e3⟩ => ?_
  subst e1 e2 e3
  have hn := ok.n
  have hm := ok.m
  have hrr := ok.rr
  have rl : (rows.map (seqd true)).length = rows.length := List.length_map ..
  refine q_asg (ix := [7, 8]) (d := .tuple [.int (costs.length : Int), .int (rows.length : Int)]) (μ1 := []) ?_ bnd_tup2 ?_
  · have key := ev_tup (K := K) (δ := [Tp (iD costs), Ls (rows.map (seqd true)), Ls (iD rights), .un, .un, .un, .un, .un, .un, .un, .un, .un, .un, .un]) (μ := []) (ds := [.int ((iD costs).length : Int), .int ((rows.map (seqd true)).length : Int)]) (ea_cons (ev_cb (ea_cons (ev_varI (i := 0) rfl) ea_nil) rc_lenT) (ea_cons (ev_cb (ea_cons (ev_varI (i := 1) rfl) ea_nil) rc_lenL) ea_nil)) (by simp)
    rw [iD_len, rl] at key
    exact key
  -- the rows with their surplus
  refine q_set (s := Ls (dLn (extRows rows))) (μ1 := []) (ev_map (ix := [11, 12]) (ei_enum (ds := rows.map (seqd true)) (G := []) (ea_cons (ev_varI rfl) ea_nil) lst_im glin_nil) glin_nil (by rw [enumD_len, rl]; omega) (fun j h => h) (by unfold dLn; rw [List.length_map, extRows_len, enumD_len, rl]) fun k d e hd he => ?_) ?_
  · obtain ⟨d0, hd0, rfl⟩ := enumD_get' hd
    obtain ⟨r, hr', rfl⟩ : ∃ r, rows[k]? = some r ∧ d0 = .tuple (iD r) := by
      rw [List.getElem?_map] at hd0
      cases e : rows[k]? with
      | none => rw [e] at hd0; cases hd0
      | some r => rw [e] at hd0; cases hd0; exact ⟨r, rfl, rfl⟩
    have hk := (List.getElem?_eq_some_iff.mp hr').1
    have er : rows.getD k [] = r := by rw [List.getD_eq_getElem?_getD, hr']; rfl
    have hrl := ok.rl r (List.mem_of_getElem? hr')
    have ee : e = .list (iD (r ++ unitN (-1) rows.length k)) := by
      unfold dLn extRows at he
      rw [List.getElem?_map, List.getElem?_map, List.getElem?_range hk] at he
      cases he
      show PyData.list (iD (rows.getD k [] ++ _)) = _
      rw [er]
    rw [ee]
    refine ⟨_, bnd_tup2, ev_lst ?_ (by rw [iD_len, List.length_append, unitN_len]; omega)⟩
    have e2 : ims (iD (r ++ unitN (-1) rows.length k)) = ims (iD r) ++ (ims (iD (unitN (-1) rows.length k)) ++ []) := by
      unfold ims iD
      rw [List.map_append, List.map_append, List.append_nil]
    rw [e2]
    refine ea_starT (ev_varI rfl) (ea_starL (μ1 := []) (ev_map (ix := [13]) (ds := rngD 0 rows.length) ?_ glin_nil (by rw [rngD_len]; omega) (fun j h => h) (by rw [iD_len, unitN_len, rngD_len]) fun i d e hd he => ?_) ea_nil)
    · have key := ei_rng1 (K := K) (δ := [Tp (iD costs), Ls (rows.map (seqd true)), Ls (iD rights), .un, .un, .un, .un, I (costs.length : Int), I (rows.length : Int), .un, .un, I (k : Int), Tp (iD r), .un]) (μ := []) (tr := tCons (tVar 8) tNil) (ea_cons (ev_varI rfl) ea_nil) (by omega) (by omega)
      rw [Int.toNat_natCast] at key
      exact key
    · obtain ⟨hi, rfl⟩ := rngD_get hd
      have zi : (0 : Int) + (i : Int) = (i : Int) := Int.zero_add _
      rw [zi]
      have ee : e = .int (if i = k then -1 else 0) := by
        unfold unitN iD at he
        rw [List.getElem?_map, List.getElem?_map, List.getElem?_range hi] at he
        cases he
        rfl
      rw [ee]
      refine ⟨_, bnd_name, ev_if (et_op (ev_varI rfl) (ev_varI rfl) rv_eqI) (fun hc => ?_) (fun hc => ?_)⟩
      · have := of_decide_eq_true hc
        rw [if_pos (by omega)]
        exact ev_neg ev_int
      · have := of_decide_eq_false hc
        rw [if_neg (by omega)]
        exact ev_int
  have tbi := ok.ext
  have ok0 := tbi.init
  refine q_make (O := fun a r m => r = .im .none ∧ ∃ l h, m = tabM T.C a l h (initT (extRows rows) rights)) 4 (ea_cons (ev_varI rfl) (ea_cons (ev_varI rfl) ea_nil)) (fun a => ⟨a, _, extRows rows, rights, rfl, rfl, tbi, rfl⟩) (fun a m ⟨_, l, hh, e⟩ => ?_) (fun a r m hO => hO.1)
  subst e
  rw [List.append_nil]
  have hw0 : (initT (extRows rows) rights).wide = costs.length + rows.length := tbi.wide
  have hh0 : (initT (extRows rows) rights).high = rows.length := extRows_len rows
  generalize hS0 : initT (extRows rows) rights = S0 at ok0 hw0 hh0
  have wadd : (costs.length : Int) + (rows.length : Int) = ((costs.length + rows.length : Nat) : Int) := (Int.natCast_add ..).symm
  -- phase one
  refine q_drop (μ1 := tabM T.C a l hh (weighT (costs1 costs.length rows.length) S0)) (ev_methF (μ1 := tabM T.C a l hh S0) (rel := tabM T.C a l hh S0) (ev_varM rfl) rfl rfl (ea_cons (s := Ls (iD (costs1 costs.length rows.length))) (μ1 := tabM T.C a l hh S0) ?_ ea_nil) ⟨a, l, hh, S0, costs1 costs.length rows.length, rfl, rfl, ok0, by rw [costs1_len]; omega, fun z hz => ?_, rfl⟩) ?_
  · have key := ev_op (K := K) (δ := [Tp (iD costs), Ls (rows.map (seqd true)), Ls (iD rights), Ls (dLn (extRows rows)), .mr a, .un, .un, I (costs.length : Int), I (rows.length : Int), .un, .un, .un, .un, .un]) (μ := tabM T.C a l hh S0)
      (ev_op (ev_lst (ds := [.int 0]) (ea_cons (ev_int (i := 0)) ea_nil) (by simp)) (ev_op (ev_varI (i := 7) rfl) (ev_varI (i := 8) rfl) rv_add) (rv_rep (by omega) (by omega) (by simp))) (ev_op (ev_lst (ds := [.int 1]) (ea_cons (ev_int (i := 1)) ea_nil) (by simp)) (ev_varI (i := 8) rfl) (rv_rep (by omega) (by omega) (by simp))) (rv_cat (by rw [flat_iD, flat_iD, iD_len, iD_len, List.length_replicate, List.length_replicate]; omega))
    rw [flat_iD, flat_iD, wadd, Int.toNat_natCast, Int.toNat_natCast] at key
    have e : iD (costs1 costs.length rows.length) = iD (List.replicate (costs.length + rows.length) 0) ++ iD (List.replicate rows.length 1) := by
      unfold costs1 iD
      rw [List.map_append]
    rw [e]
    exact key
  · unfold costs1 at hz
    rcases List.mem_append.mp hz with hz | hz
    · rw [List.eq_of_mem_replicate hz]; decide
    · rw [List.eq_of_mem_replicate hz]; decide
  have dsc : ∀ {S Z : Tab} {n : Nat} {r : Option Nat} {x5 x6 x9 x10 : Slot}, S.wide = costs.length + rows.length → DescN (costs.length + rows.length) n S r Z →
      Ev K (tMeth T.C "descend" (SpW K (pre_Table_descend T.C)) [] E0 (tVar 4) (tCons (tOp (rAddA K) (tVar 7) (tVar 8)) tNil)) [Tp (iD costs), Ls (rows.map (seqd true)), Ls (iD rights), Ls (dLn (extRows rows)), .mr a, x5, x6, I (costs.length : Int), I (rows.length : Int), x9, x10, .un, .un, .un] (tabM T.C a l hh S) (.im (oD r)) (tabM T.C a l hh Z) := fun {S Z n r x5 x6 x9 x10} hw dn => by
    refine ev_methF (ev_varM rfl) rfl rfl (ea_cons (s := I ((costs.length + rows.length : Nat) : Int)) (μ1 := tabM T.C a l hh S) ?_ ea_nil) ⟨a, l, hh, S, costs.length + rows.length, n, r, Z, rfl, rfl, by omega, dn, rfl⟩
    have key := ev_op (K := K) (δ := [Tp (iD costs), Ls (rows.map (seqd true)), Ls (iD rights), Ls (dLn (extRows rows)), .mr a, x5, x6, I (costs.length : Int), I (rows.length : Int), x9, x10, .un, .un, .un]) (μ := tabM T.C a l hh S) (ev_varI (i := 7) rfl) (ev_varI (i := 8) rfl) rv_add
    rw [wadd] at key
    exact key
  have lastE : ∀ {Z : Tab}, TabOk Z → EvT K (tTest (tOp (rNeD K) (tOp (rIx K) (tFld K (tVar 4) "left") (tUn (rU fun i => V.int (-i)) (tC (.int 1)))) (tC (.int 0)))) [Tp (iD costs), Ls (rows.map (seqd true)), Ls (iD rights), Ls (dLn (extRows rows)), .mr a, .un, .un, I (costs.length : Int), I (rows.length : Int), .un, .un, .un, .un, .un] (tabM T.C a l hh Z) (!decide (lastZ Z.left = 0)) (tabM T.C a l hh Z) := fun {Z} okZ =>
    et_op (ev_op (ev_left (S := Z) T (ev_varM rfl) rfl) (ev_neg ev_int) (rv_ixL (last_iD (by have := okZ.fl; omega)))) ev_int rv_neI
  have tail2 : ∀ {T1 : Tab}, T1.wide = costs.length + rows.length → T1.high = rows.length → (∀ k, k ≤ T1.high → TabOk (clearT T1 k)) → ∀ {R : Slot → Mu → Prop} {N : DEnv → Mu → Prop} {tz : TS},
      Tri K tz [Tp (iD costs), Ls (rows.map (seqd true)), Ls (iD rights), Ls (dLn (extRows rows)), .mr a, .un, .un, I (costs.length : Int), I (rows.length : Int), .un, .un, .un, .un, .un] (tabM T.C a l hh (weighT (costs2 costs rows.length) (clearT T1 T1.high))) N R →
      Tri K (tSeq (tDrop (tMeth T.C "clear_base" (SpW K (pre_Table_clear_base T.C)) [] E0 (tVar 4) tNil)) (tSeq (tDrop (tMeth T.C "weigh" (SpW K (pre_Table_weigh T.C)) [] E0 (tVar 4) (tCons (tLst (tStar K (tVar 0) (tStar K (tOp rMulA (tLst (tCons (tC (.int 0)) tNil)) (tOp rMulA (tC (.int 2)) (tVar 8))) tNil))) tNil))) tz)) [Tp (iD costs), Ls (rows.map (seqd true)), Ls (iD rights), Ls (dLn (extRows rows)), .mr a, .un, .un, I (costs.length : Int), I (rows.length : Int), .un, .un, .un, .un, .un] (tabM T.C a l hh T1) N R := fun {T1} hw1 hh1 oks {R N tz} kk => by
    obtain ⟨w1, w2⟩ := clearT_wide T1 T1.high
    refine q_drop (ev_methF (ev_varM rfl) rfl rfl ea_nil ⟨a, l, hh, T1, rfl, rfl, oks, rfl⟩) ?_
    have okC := oks T1.high (Nat.le_refl _)
    generalize clearT T1 T1.high = C1 at okC w1 w2 kk
    refine q_drop (μ1 := tabM T.C a l hh (weighT (costs2 costs rows.length) C1)) (ev_methF (μ1 := tabM T.C a l hh C1) (rel := tabM T.C a l hh C1) (ev_varM rfl) rfl rfl (ea_cons (s := Ls (iD (costs2 costs rows.length))) (μ1 := tabM T.C a l hh C1) ?_ ea_nil) ⟨a, l, hh, C1, costs2 costs rows.length, rfl, rfl, okC.toTabOk0, by rw [costs2_len]; omega, fun z hz => ?_, rfl⟩) kk
    · refine ev_lst ?_ (by rw [iD_len, costs2_len]; omega)
      have hcm : CMulW 2 (rows.length : Int) := cmul_of (k := 2) (l := 2) (show (2 : Int).natAbs < 2 ^ 2 by decide) (show ((rows.length : Nat) : Int).natAbs < 2 ^ 2 by omega) (by decide) (by decide) (by decide)
      have key := ea_starT (K := K) (δ := [Tp (iD costs), Ls (rows.map (seqd true)), Ls (iD rights), Ls (dLn (extRows rows)), .mr a, .un, .un, I (costs.length : Int), I (rows.length : Int), .un, .un, .un, .un, .un]) (μ := tabM T.C a l hh C1) (ev_varI (i := 0) rfl)
        (ea_starL (ev_op (ev_lst (ds := [.int 0]) (ea_cons (ev_int (i := 0)) ea_nil) (by simp)) (ev_op (ev_int (i := 2)) (ev_varI (i := 8) rfl) (rv_mul hcm)) (rv_rep (by omega) (by omega) (by simp))) ea_nil)
      have e2 : (2 * (rows.length : Int)).toNat = 2 * rows.length := by omega
      rw [flat_iD, e2] at key
      have e : ims (iD (costs2 costs rows.length)) = ims (iD costs) ++ (ims (iD (List.replicate (2 * rows.length) 0)) ++ []) := by
        unfold costs2 ims iD
        rw [List.map_append, List.map_append, List.append_nil]
      rw [e]
      exact key
    · unfold costs2 at hz
      rcases List.mem_append.mp hz with hz | hz
      · exact Bi.mono (ok.cb z hz) (by decide)
      · rw [List.eq_of_mem_replicate hz]; decide
  have take_n : ((costs.length : Nat) : Int) = ((costs.length : Nat) : Int) := rfl
  have planE : ∀ {Z : Tab} {x5 : Slot}, TabOk0 Z → ∀ {R : Slot → Mu → Prop} {N : DEnv → Mu → Prop} {tz : TS},
      Tri K tz [Tp (iD costs), Ls (rows.map (seqd true)), Ls (iD rights), Ls (dLn (extRows rows)), .mr a, x5, Tp [.list (iD ((planT Z).take costs.length)), .int Z.low], I (costs.length : Int), I (rows.length : Int), Ls (iD (planT Z)), I Z.low, .un, .un, .un] (tabM T.C a l hh Z) N R →
      Tri K (tSeq (tAsg (tMeth T.C "plan" (SpW K (pre_Table_plan T.C)) [] E0 (tVar 4) tNil) (gTup K 2 (gCons (gName 9) (gCons (gName 10) gNil)))) (tSeq (tAsg (tTup (tCons (tSl (rSlL K) (tVar 9) tNoPart (tPart (tVar 7))) (tCons (tVar 10) tNil))) (gName 6)) tz)) [Tp (iD costs), Ls (rows.map (seqd true)), Ls (iD rights), Ls (dLn (extRows rows)), .mr a, x5, .un, I (costs.length : Int), I (rows.length : Int), .un, .un, .un, .un, .un] (tabM T.C a l hh Z) N R := fun {Z x5} okZ {R N tz} kk => by
    refine q_asg (ix := [9, 10]) (ev_methF (ev_varM rfl) rfl rfl ea_nil ⟨a, l, hh, Z, rfl, rfl, okZ, rfl⟩) (bnd_tup2 (d := .list (iD (planT Z))) (e := .int Z.low)) ?_
    refine q_set (s := Tp [.list (iD ((planT Z).take costs.length)), .int Z.low]) (μ1 := tabM T.C a l hh Z) (ev_tup (ds := [.list (iD ((planT Z).take costs.length)), .int Z.low]) (ea_cons (μ1 := tabM T.C a l hh Z) ?_ (ea_cons (ev_varI rfl) ea_nil)) (by simp)) kk
    have e : iD ((planT Z).take costs.length) = (iD (planT Z)).take costs.length := by unfold iD; rw [List.map_take]
    rw [e]
    exact ev_slL (ev_varI rfl) (ev_varI rfl)
  cases run with
  | @none n r T1 dn okZ hz =>
    rw [hS0] at dn
    have hb : (!decide (lastZ T1.left = 0)) = true := by rw [decide_eq_false hz]; rfl
    refine q_drop (dsc hw0 dn) ?_
    refine q_if (lastE okZ) (fun _ => ?_) (fun z => by rw [hb] at z; cases z)
    exact q_retS (t_ret (ev_tup (ds := [.str "none", .none, .tuple [.list (iD (paperT 1 T1)), .int T1.low]]) (ea_cons ev_str (ea_cons ev_non (ea_cons (ev_methF (ev_varM rfl) rfl rfl (ea_cons ev_int ea_nil) ⟨a, l, hh, T1, 1, rfl, rfl, okZ, ⟨by decide, by decide⟩, rfl⟩) ea_nil))) (by simp)) ⟨rfl, List.nil_sublist _⟩)
  | @endless n n2 r c T1 T2 dn okZ hz oks dn2 okZ2 =>
    rw [hS0] at dn
    have hb : (!decide (lastZ T1.left = 0)) = false := by rw [decide_eq_true hz]; rfl
    obtain ⟨d1, d2⟩ := desc_wide dn
    have d1 : T1.wide = S0.wide := d1
    have d2 : T1.high = S0.high := d2
    obtain ⟨c1, c2⟩ := clearT_wide T1 T1.high
    refine q_drop (dsc hw0 dn) ?_
    refine q_if (lastE okZ) (fun z => by rw [hb] at z; cases z) fun _ => q_next ?_
    refine tail2 (by omega) (by omega) oks ?_
    refine q_set (dsc (show (clearT T1 T1.high).wide = _ by omega) dn2) ?_
    refine planE okZ2.toTabOk0 ?_
    exact q_if (b := true) (et_op (ev_varI rfl) ev_non rv_notN) (fun _ => q_retS (t_ret (ev_tup (ds := [.str "endless", .tuple [.list (iD ((planT T2).take costs.length)), .int T2.low], .none]) (ea_cons ev_str (ea_cons (ev_varI rfl) (ea_cons ev_non ea_nil))) (by simp)) ⟨rfl, List.nil_sublist _⟩)) (fun z => nomatch z)
  | @best n n2 r T1 T2 dn okZ hz oks dn2 okZ2 =>
    rw [hS0] at dn
    have hb : (!decide (lastZ T1.left = 0)) = false := by rw [decide_eq_true hz]; rfl
    obtain ⟨d1, d2⟩ := desc_wide dn
    have d1 : T1.wide = S0.wide := d1
    have d2 : T1.high = S0.high := d2
    obtain ⟨c1, c2⟩ := clearT_wide T1 T1.high
    refine q_drop (dsc hw0 dn) ?_
    refine q_if (lastE okZ) (fun z => by rw [hb] at z; cases z) fun _ => q_next ?_
    refine tail2 (by omega) (by omega) oks ?_
    refine q_set (dsc (show (clearT T1 T1.high).wide = _ by omega) dn2) ?_
    refine planE okZ2.toTabOk0 ?_
    refine q_if (b := false) (et_op (ev_varI rfl) ev_non rv_notN) (fun z => nomatch z) fun _ => q_next ?_
    exact t_ret (ev_tup (ds := [.str "best", .tuple [.list (iD ((planT T2).take costs.length)), .int T2.low], .tuple [.list (iD (paperT 0 T2)), .int T2.low]]) (ea_cons ev_str (ea_cons (ev_varI rfl) (ea_cons (ev_methF (ev_varM rfl) rfl rfl (ea_cons ev_int ea_nil) ⟨a, l, hh, T2, 0, rfl, rfl, okZ2, ⟨by decide, by decide⟩, rfl⟩) ea_nil))) (by simp)) ⟨rfl, List.nil_sublist _⟩
end
end WM

set_option Elab.async false
set_option linter.all false
set_option maxRecDepth 100000
set_option maxHeartbeats 2000000
namespace WM
open PySem PySem.Spec PyProof.Rows L2 StX

/-! ### what is read of what solved told -/
def planQ (p : Pl) : Told → Option (List Rat)
  | .none _ _ => none
  | .endless plan low => some (plan.map fun z => Rat.divInt z (low * plL p))
  | .best plan _ low => some (plan.map fun z => Rat.divInt z (low * plL p))
def paperQ : Told → Option (List Rat)
  | .best _ paper low => some (paper.map fun z => Rat.divInt z low)
  | _ => none
def worthQ (t : Tk) (p : Pl) : Told → Option Rat
  | .best plan _ low => some (Rat.divInt (dotL t.costs plan) (low * plL p))
  | _ => none
def wordQ : Told → Str
  | .none _ _ => "none"
  | .endless _ _ => "endless"
  | .best _ _ _ => "best"
def dOL : Option (List Rat) → PyData
  | none => .none
  | some qs => .tuple (dQs qs)
def dOQ : Option Rat → PyData
  | none => .none
  | some q => dQ q
structure NumSz (n : Nat) (low : Int) (zs : List Int) : Prop where
  len : zs.length = n
  b : ∀ z ∈ zs, Bi 110 z
  lp : 0 < low
  lb : Bi 100 low
def ToldSz (n m : Nat) : Told → Prop
  | .none _ _ => True
  | .endless plan low => NumSz n low plan
  | .best plan paper low => NumSz n low plan ∧ NumSz m low paper
theorem planT_len (S : Tab) : (planT S).length = S.wide := by
  unfold planT
  exact fold_inv (Q := fun f : List Int => f.length = S.wide) (fun f p hp hf => by rw [planStep_len]; exact hf) _ (List.length_replicate ..)
theorem planT_b {S : Tab} (ok : TabOk0 S) : ∀ z ∈ planT S, Bi 110 z := by
  unfold planT
  refine fold_inv (Q := fun f : List Int => ∀ z ∈ f, Bi 110 z) (fun f p hp hf z hz => ?_) _ (fun z hz => by rw [List.eq_of_mem_replicate hz]; exact bi0)
  unfold planStep at hz
  split at hz
  · rcases List.mem_or_eq_of_mem_set hz with hz | hz
    · exact hf z hz
    · rw [hz]
      exact (bRow (ok.rb p.1 (List.of_mem_zip hp).1)).mono (by decide)
  · exact hf z hz
theorem plan_sz {S : Tab} {n : Nat} (ok : TabOk0 S) (hn : n ≤ S.wide) : NumSz n S.low ((planT S).take n) :=
  ⟨by rw [List.length_take, planT_len]; omega, fun z hz => planT_b ok z (List.mem_of_mem_take hz), ok.lp, ok.lb⟩
theorem paper_sz {S : Tab} {own : Int} (ok : TabOk S) (ho : 0 ≤ own ∧ own ≤ 1) : NumSz S.high S.low (paperT own S) := by
  refine ⟨by unfold paperT; rw [List.length_map, List.length_range], fun z hz => ?_, ok.lp, ok.lb⟩
  unfold paperT at hz
  obtain ⟨i, _, rfl⟩ := List.mem_map.mp hz
  have h1 : Bi 1 own := show own.natAbs < 2 ^ 1 by omega
  have h3 : Bi 101 (own * S.low) := (h1.mul (show Bi 100 S.low from ok.lb)).mono (by decide)
  have h2 : Bi 102 (own * S.low - cell S.left (S.wide + i)) := (h3.sub ((bRow ok.fb).mono (by decide))).mono (by decide)
  unfold payT
  split
  · exact h2.neg.mono (by decide)
  · exact h2.mono (by decide)
theorem run_sz {costs : List Int} {rows : List (List Int)} {rights : List Int} {told : Told} (ok : InOk costs rows rights) (run : SolveRun costs rows rights told) : ToldSz costs.length rows.length told := by
  have w0 : (initT (extRows rows) rights).wide = costs.length + rows.length := ok.ext.wide
  have h0 : (initT (extRows rows) rights).high = rows.length := extRows_len rows
  cases run with
  | none _ _ _ => trivial
  | @endless n n2 r c T1 T2 dn okZ hz oks dn2 okZ2 =>
    obtain ⟨d1, d2⟩ := desc_wide dn
    obtain ⟨c1, c2⟩ := clearT_wide T1 T1.high
    obtain ⟨f1, f2⟩ := desc_wide dn2
    have d1 : T1.wide = costs.length + rows.length := d1.trans w0
    have f1 : T2.wide = (clearT T1 T1.high).wide := f1
    exact plan_sz okZ2.toTabOk0 (by omega)
  | @best n n2 r T1 T2 dn okZ hz oks dn2 okZ2 =>
    obtain ⟨d1, d2⟩ := desc_wide dn
    obtain ⟨c1, c2⟩ := clearT_wide T1 T1.high
    obtain ⟨f1, f2⟩ := desc_wide dn2
    have d1 : T1.wide = costs.length + rows.length := d1.trans w0
    have d2 : T1.high = rows.length := d2.trans h0
    have f1 : T2.wide = (clearT T1 T1.high).wide := f1
    have f2 : T2.high = (clearT T1 T1.high).high := f2
    have e : T2.high = rows.length := by omega
    refine ⟨plan_sz okZ2.toTabOk0 (by omega), ?_⟩
    have := paper_sz (own := 0) okZ2 ⟨by decide, by decide⟩
    rw [e] at this
    exact this
theorem TkOk.inOk {t : Tk} {p : Pl} (ht : TkOk t) (hp : PlOk p) : InOk t.costs (t.rows.map (·.nums)) (rightsZ t p) := by
  refine ⟨ht.wide, by rw [List.length_map]; exact ht.high, by rw [List.length_map, rightsZ_len], fun r hr => ?_, fun z hz => (ht.cost8 z hz).mono (by decide), fun r hr z hz => ?_, fun z hz => (rightZ_bi ht hp z hz).mono (by decide)⟩
  · obtain ⟨x, hx, rfl⟩ := List.mem_map.mp hr
    exact (ht.rows x hx).len
  · obtain ⟨x, hx, rfl⟩ := List.mem_map.mp hr
    exact ((ht.rows x hx).b8 z hz).mono (by decide)
abbrev Runs (t : Tk) (p : Pl) (told : Told) : Prop := SolveRun t.costs (t.rows.map (·.nums)) (rightsZ t p) told
theorem runs_sz {t : Tk} {p : Pl} {told : Told} (ht : TkOk t) (hp : PlOk p) (h : Runs t p told) : ToldSz t.costs.length t.rows.length told := by
  have := run_sz (ht.inOk hp) h
  rw [List.length_map] at this
  exact this
theorem eqv_str (a b : Str) : PyData.eqv (.str a) (.str b) = decide (a = b) := by
  simp only [PyData.eqv]
  by_cases h : a = b
  · subst h; simp
  · rw [decide_eq_false h]; exact beq_eq_false_iff_ne.mpr h
section
variable {P : Program} {w : World} {K : PySem.W.Frag} {mg : Str → Option Value} {base : Heap}
theorem sh_word (told : Told) : SeqAt.shaped (.str (wordQ told)) = true := by
  cases told
  · show SeqAt.shaped (.str "none") = true; decide +kernel
  · show SeqAt.shaped (.str "endless") = true; decide +kernel
  · show SeqAt.shaped (.str "best") = true; decide +kernel
theorem rv_eqS {μ : Mu} {a b : Str} (h1 : SeqAt.shaped (.str a) = true) (h2 : SeqAt.shaped (.str b) = true) : RV K (rEqD K) μ (.im (.str a)) (.im (.str b)) (B (decide (a = b))) := by
  rw [← eqv_str]
  exact rv_eq h1 h2
theorem rv_neS {μ : Mu} {a b : Str} (h1 : SeqAt.shaped (.str a) = true) (h2 : SeqAt.shaped (.str b) = true) : RV K (rNeD K) μ (.im (.str a)) (.im (.str b)) (B (!decide (a = b))) := by
  rw [← eqv_str]
  exact rv_ne h1 h2
def pre_solved_at : PreT := fun ss μ O => ∃ t p told, ss = [.im (dTask t), .im (dPl p)] ∧ μ = [] ∧ TkOk t ∧ PlOk p ∧ Runs t p told ∧ O = Is (Tp [dTold told, .int (plL p)]) []
theorem ok_solved_at (T : Txt K mg) : FnOk P w K mg base CX0 (5 + 1) T.d_solved_at.f T.d_solved_at.fd P_solved_at (SpW K pre_solved_at) := by
  refine T.d_solved_at.F.ok sc_solved_at (sp_len fun ss μ O ⟨_, _, _, e, _⟩ => by rw [e]; rfl) (fun cdv A outer s H vs Q E hr h => ?_)
  refine ⟨_, (pss_cons (ps_asg (pe_call (ok_whole_place T) (hr.mono (by decide)) (by rfl) T.m_whole_place T.d_whole_place.F.kp T.d_whole_place.b .nil pass0 (pa_cons (pv 1) pa_nil)) (k_gtup (K := K) (n := 3) rfl rfl (pgs_cons (pg_name (i := 2) sc_solved_at.nd rfl (.inl rfl) (.inr rfl)) (pgs_cons (pg_name (i := 3) sc_solved_at.nd rfl (.inl rfl) (.inr rfl)) (pgs_cons (pg_name (i := 4) sc_solved_at.nd rfl (.inl rfl) (.inr rfl)) pgs_nil)))))
    (pss_one (ps_ret (pe_tup (pa_cons (pe_call (ok_solved T) (hr.mono (by decide)) (by rfl) T.m_solved T.d_solved.F.kp T.d_solved.b .nil pass0 (pa_cons (pe_ix (k_ix (K := K) rfl) (pv 0) pe_int (fun _ _ => rfl)) (pa_cons (pe_lc (own := [("row", 5)]) rfl sc_solved_at.nd (k_piT (K := K) rfl (pe_ix (k_ix (K := K) rfl) (pv 0) pe_int (fun _ _ => rfl))) (blkOk_by (N := N_solved_at) (sc := defScope s_solved_at) (by decide +kernel)) (fun _ _ _ _ _ => (pg_name (i := 5) sc_solved_at.nd rfl (.inl rfl) (.inr rfl))) (fun _ _ _ _ _ => pts_nil) (fun _ _ _ _ _ => (pe_ix (k_ix (K := K) rfl) (pv 5) pe_int (fun _ _ => rfl)))) (pa_cons (pe_call (ok_rights_at T) (hr.mono (by decide)) (by rfl) T.m_rights_at T.d_rights_at.F.kp T.d_rights_at.b .nil pass0 (pa_cons (pv 0) (pa_cons (pe_tup (pa_cons (pv 2) (pa_cons (pv 3) pa_nil))) (pa_cons (pv 4) pa_nil)))) pa_nil)))) (pa_cons (pv 4) pa_nil)))))), ?_⟩
  refine fin h fun ss μ O ⟨t, p, told, e1, e2, ht, hp, run, e3⟩ => ?_
  subst e1 e2 e3
  have hh := ht.high
  refine q_asg (ix := [2, 3, 4]) (ev_call0 (ea_cons (ev_varI rfl) ea_nil) ⟨p, rfl, rfl, hp, rfl⟩) (bnd_tup3 (d := .int (plE p)) (e := .int (plN p)) (f := .int (plL p))) ?_
  refine t_ret (ev_tup (ds := [dTold told, .int (plL p)]) (ea_cons (ev_call0 (ea_cons (ev_op (ev_varI rfl) ev_int (rv_ixT (d := .tuple (iD t.costs)) rfl)) (ea_cons (s := Ls ((t.rows.map (·.nums)).map (seqd true))) (μ1 := []) (ev_map (ix := [5]) (ei_tup (ds := t.rows.map dRow) (ev_op (ev_varI rfl) ev_int (rv_ixT (d := .tuple (t.rows.map dRow)) rfl))) glin_nil (by rw [List.length_map]; omega) (fun j h => h) (by rw [List.length_map, List.length_map, List.length_map]) fun k d e hd he => ?_)
    (ea_cons (ev_call0 (ea_cons (ev_varI rfl) (ea_cons (ev_tup (ds := [.int (plE p), .int (plN p)]) (ea_cons (ev_varI rfl) (ea_cons (ev_varI rfl) ea_nil)) (by simp)) (ea_cons (ev_varI rfl) ea_nil))) ⟨t, p, rfl, rfl, ht, hp, rfl⟩) ea_nil))) ⟨t.costs, t.rows.map (·.nums), rightsZ t p, told, rfl, rfl, ht.inOk hp, run, rfl⟩) (ea_cons (ev_varI rfl) ea_nil)) (by simp)) is_refl
  obtain ⟨r, hr', rfl⟩ := rows_get hd
  have ee : e = .tuple (iD r.nums) := by
    rw [List.getElem?_map, List.getElem?_map, hr'] at he
    cases he
    rfl
  rw [ee]
  exact ⟨_, bnd_name, ev_op (ev_varI rfl) ev_int (rv_ixT (d := .tuple (iD r.nums)) rfl)⟩
theorem ix_told0 (told : Told) : ∃ ds, dTold told = .tuple ds ∧ atI ds 0 = some (.str (wordQ told)) := by
  cases told <;> exact ⟨_, rfl, rfl⟩
def pre_ending_at : PreT := fun ss μ O => ∃ t p told, ss = [.im (dTask t), .im (dPl p)] ∧ μ = [] ∧ TkOk t ∧ PlOk p ∧ Runs t p told ∧ O = Is (.im (.str (wordQ told))) []
theorem ok_ending_at (T : Txt K mg) : FnOk P w K mg base CX0 (6 + 1) T.d_ending_at.f T.d_ending_at.fd P_ending_at (SpW K pre_ending_at) := by
  refine T.d_ending_at.F.ok sc_ending_at (sp_len fun ss μ O ⟨_, _, _, e, _⟩ => by rw [e]; rfl) (fun cdv A outer s H vs Q E hr h => ?_)
  refine ⟨_, (pss_cons (ps_expr (pe_call (ok_need_both T) (hr.mono (by decide)) (by rfl) T.m_need_both T.d_need_both.F.kp T.d_need_both.b .nil pass0 (pa_cons (pv 0) (pa_cons (pv 1) pa_nil))))
    (pss_one (ps_ret (pe_ix (k_ix (K := K) rfl) (pe_ix (k_ix (K := K) rfl) (pe_call (ok_solved_at T) (hr.mono (by decide)) (by rfl) T.m_solved_at T.d_solved_at.F.kp T.d_solved_at.b .nil pass0 (pa_cons (pv 0) (pa_cons (pv 1) pa_nil))) pe_int (fun _ _ => rfl)) pe_int (fun _ _ => rfl))))), ?_⟩
  refine fin h fun ss μ O ⟨t, p, told, e1, e2, ht, hp, run, e3⟩ => ?_
  subst e1 e2 e3
  obtain ⟨ds, hds, h0⟩ := ix_told0 told
  refine q_drop (ev_call0 (ea_cons (ev_varI rfl) (ea_cons (ev_varI rfl) ea_nil)) ⟨t, p, rfl, rfl, ht, rfl⟩) ?_
  refine t_ret (ev_op (ev_op (ev_call0 (ea_cons (ev_varI rfl) (ea_cons (ev_varI rfl) ea_nil)) ⟨t, p, told, rfl, rfl, ht, hp, run, rfl⟩) ev_int (rv_ixT (d := .tuple ds) (by rw [hds]; rfl))) ev_int (rv_ixT h0)) is_refl
theorem pl_low {p : Pl} {n : Nat} {low : Int} {zs : List Int} (hp : PlOk p) (h : NumSz n low zs) : low * plL p ≠ 0 ∧ Bi 8000 (low * plL p) ∧ CMulW low (plL p) := by
  have h1 := plL_pos p
  have h2 := h.lp
  obtain ⟨_, _, b3⟩ := pl_bi hp
  exact ⟨Int.mul_ne_zero (by omega) (by omega), (h.lb.mul b3).mono (by decide), cmul_of h.lb b3 (by decide) (by decide) (by decide)⟩
def pre_worth_at : PreT := fun ss μ O => ∃ t p told, ss = [.im (dTask t), .im (dPl p)] ∧ μ = [] ∧ TkOk t ∧ PlOk p ∧ Runs t p told ∧ O = Is (.im (dOQ (worthQ t p told))) []
theorem ok_worth_at (T : Txt K mg) : FnOk P w K mg base CX0 (6 + 1) T.d_worth_at.f T.d_worth_at.fd P_worth_at (SpW K pre_worth_at) := by
  refine T.d_worth_at.F.ok sc_worth_at (sp_len fun ss μ O ⟨_, _, _, e, _⟩ => by rw [e]; rfl) (fun cdv A outer s H vs Q E hr h => ?_)
  refine ⟨_, (pss_cons (ps_expr (pe_call (ok_need_both T) (hr.mono (by decide)) (by rfl) T.m_need_both T.d_need_both.F.kp T.d_need_both.b .nil pass0 (pa_cons (pv 0) (pa_cons (pv 1) pa_nil))))
    (pss_cons (ps_asg (pe_call (ok_solved_at T) (hr.mono (by decide)) (by rfl) T.m_solved_at T.d_solved_at.F.kp T.d_solved_at.b .nil pass0 (pa_cons (pv 0) (pa_cons (pv 1) pa_nil))) (k_gtup (K := K) (n := 2) rfl rfl (pgs_cons (pg_name (i := 2) sc_worth_at.nd rfl (.inl rfl) (.inr rfl)) (pgs_cons (pg_name (i := 3) sc_worth_at.nd rfl (.inl rfl) (.inr rfl)) pgs_nil))))
    (pss_one (ps_ret (pe_ifExp (pt_cmpR (k_eqD (K := K) hr.units rfl) (pe_ix (k_ix (K := K) rfl) (pv 2) pe_int (fun _ _ => rfl)) pe_str (nomark _)) (pe_call (ok_fraction T) (hr.mono (by decide)) (by rfl) T.m_fraction T.d_fraction.F.kp T.d_fraction.b .nil pass0 (pa_cons (pe_call (ok_inner T) (hr.mono (by decide)) (by rfl) T.m_inner T.d_inner.F.kp T.d_inner.b .nil pass0 (pa_cons (pe_ix (k_ix (K := K) rfl) (pv 0) pe_int (fun _ _ => rfl)) (pa_cons (pe_ix (k_ix (K := K) rfl) (pe_ix (k_ix (K := K) rfl) (pv 2) pe_int (fun _ _ => rfl)) pe_int (fun _ _ => rfl)) pa_nil))) (pa_cons (pe_op op_mulA (pe_ix (k_ix (K := K) rfl) (pe_ix (k_ix (K := K) rfl) (pv 2) pe_int (fun _ _ => rfl)) pe_int (fun _ _ => rfl)) (pv 3)) pa_nil))) pe_non))))), ?_⟩
  refine fin h fun ss μ O ⟨t, p, told, e1, e2, ht, hp, run, e3⟩ => ?_
  subst e1 e2 e3
  have hw := ht.wide
  have sz := runs_sz ht hp run
  refine q_drop (ev_call0 (ea_cons (ev_varI rfl) (ea_cons (ev_varI rfl) ea_nil)) ⟨t, p, rfl, rfl, ht, rfl⟩) ?_
  refine q_asg (ix := [2, 3]) (ev_call0 (ea_cons (ev_varI rfl) (ea_cons (ev_varI rfl) ea_nil)) ⟨t, p, told, rfl, rfl, ht, hp, run, rfl⟩) (bnd_tup2 (d := dTold told) (e := .int (plL p))) ?_
  obtain ⟨ds, hds, h0⟩ := ix_told0 told
  refine t_ret (μ1 := []) (ev_if (c := decide (wordQ told = "best")) (μ1 := []) (et_op (ev_op (ev_varI (d := .tuple ds) (by rw [← hds]; rfl)) ev_int (rv_ixT h0)) ev_str (rv_eqS (sh_word told) (by decide +kernel))) (fun hc => ?_) (fun hc => ?_)) is_refl
  · cases told with
    | none paper low => exact absurd (of_decide_eq_true hc) (show ¬ (("none" : Str) = "best") by decide +kernel)
    | endless plan low => exact absurd (of_decide_eq_true hc) (show ¬ (("endless" : Str) = "best") by decide +kernel)
    | best plan paper low =>
      obtain ⟨s1, s2⟩ := sz
      obtain ⟨n0, lb, cm⟩ := pl_low hp s1
      have sl := s1.len
      have dB := dotL_bi (k := 2900) t.costs plan (by omega) fun a ha b hb => ((ht.cost8 a ha).mul (s1.b b hb)).mono (by decide)
      refine ev_call0 (ea_cons (ev_call0 (ea_cons (ev_op (ev_varI rfl) ev_int (rv_ixT (d := .tuple (iD t.costs)) rfl)) (ea_cons (ev_op (ev_op (ev_varI (d := dTold (.best plan paper low)) rfl) ev_int (rv_ixT (d := .tuple [.list (iD plan), .int low]) rfl)) ev_int (rv_ixT (d := .list (iD plan)) rfl)) ea_nil)) ⟨t.costs, plan, _, rfl, .inl rfl, rfl, by omega, fun n hn => (ht.cost8 n hn).mono (by decide), fun n hn => (s1.b n hn).mono (by decide), rfl⟩)
        (ea_cons (ev_op (ev_op (ev_op (ev_varI (d := dTold (.best plan paper low)) rfl) ev_int (rv_ixT (d := .tuple [.list (iD plan), .int low]) rfl)) ev_int (rv_ixT (d := .int low) rfl)) (ev_varI rfl) (rv_mul cm)) ea_nil)) ⟨_, _, rfl, rfl, n0, dB.mono (by decide), lb, rfl⟩
  · cases told with
    | none paper low => exact ev_non
    | endless plan low => exact ev_non
    | best plan paper low => exact absurd rfl (of_decide_eq_false hc)
theorem ev_fracs {δ : DEnv} {te tl : TE} {zs : List Int} {i n : Nat} {d low : Int} (T : Txt K mg) (h : NumSz n low zs) (hn : n ≤ 1000) (h0 : d ≠ 0) (hb : Bi 8000 d) (he : Ev K te δ [] (Ls (iD zs)) []) (hl : ∀ z, Ev K tl ((wipeD δ [i]).set i (I z)) [] (I d) []) (hi : i < δ.length) :
    Ev K (tCB (rTupO K) (tCons (tLc (iList K te) (gName i) tYes (tCall (SpW K pre_fraction) [] E0 (tCons (tVar i) (tCons tl tNil))) [i]) tNil)) δ [] (Tp (dQs (zs.map fun z => Rat.divInt z d))) [] := by
  refine ev_cb (ea_cons (ev_map (ix := [i]) (es := dQs (zs.map fun z => Rat.divInt z d)) (ei_list he) glin_nil (by rw [iD_len, h.len]; omega) (fun j h => h) (by rw [dQs_len, iD_len, List.length_map]) fun k x y hx hy => ?_) ea_nil) rc_tupL
  obtain ⟨z, hz, rfl⟩ := iD_get hx
  obtain ⟨q, hq, rfl⟩ := dQs_get hy
  rw [List.getElem?_map, hz] at hq
  cases hq
  have hlen : i < (wipeD δ [i]).length := by rw [wipeD_len]; exact hi
  exact ⟨_, bnd_name, ev_call0 (ea_cons (ev_varI (List.getElem?_set_self hlen)) (ea_cons (hl z) ea_nil)) ⟨z, d, rfl, rfl, h0, (h.b z (List.mem_of_getElem? hz)).mono (by decide), hb, rfl⟩⟩
def pre_some_plan : PreT := fun ss μ O => ∃ t p told, ss = [.im (dTask t), .im (dPl p)] ∧ μ = [] ∧ TkOk t ∧ PlOk p ∧ Runs t p told ∧ O = Is (.im (dOL (planQ p told))) []
theorem ok_some_plan (T : Txt K mg) : FnOk P w K mg base CX0 (6 + 1) T.d_some_plan.f T.d_some_plan.fd P_some_plan (SpW K pre_some_plan) := by
  refine T.d_some_plan.F.ok sc_some_plan (sp_len fun ss μ O ⟨_, _, _, e, _⟩ => by rw [e]; rfl) (fun cdv A outer s H vs Q E hr h => ?_)
  refine ⟨_, (pss_cons (ps_expr (pe_call (ok_need_both T) (hr.mono (by decide)) (by rfl) T.m_need_both T.d_need_both.F.kp T.d_need_both.b .nil pass0 (pa_cons (pv 0) (pa_cons (pv 1) pa_nil))))
    (pss_cons (ps_asg (pe_call (ok_solved_at T) (hr.mono (by decide)) (by rfl) T.m_solved_at T.d_solved_at.F.kp T.d_solved_at.b .nil pass0 (pa_cons (pv 0) (pa_cons (pv 1) pa_nil))) (k_gtup (K := K) (n := 2) rfl rfl (pgs_cons (pg_name (i := 2) sc_some_plan.nd rfl (.inr rfl) (.inl rfl)) (pgs_cons (pg_name (i := 3) sc_some_plan.nd rfl (.inr rfl) (.inl rfl)) pgs_nil))))
    (pss_one (ps_ret (pe_ifExp (pt_cmpR (k_neD (K := K) hr.units rfl) (pe_ix (k_ix (K := K) rfl) (pv 2) pe_int (fun _ _ => rfl)) pe_str (nomark _)) (pe_callTy (k_tuple (K := K) rfl) (by rfl) T.b_tuple (by decide +kernel) (pa_cons (pe_lc (own := [("one", 4)]) rfl sc_some_plan.nd (k_piL (K := K) rfl (pe_ix (k_ix (K := K) rfl) (pe_ix (k_ix (K := K) rfl) (pv 2) pe_int (fun _ _ => rfl)) pe_int (fun _ _ => rfl))) (blkOk_by (N := N_some_plan) (sc := defScope s_some_plan) (by decide +kernel)) (fun _ _ _ _ _ => (pg_name (i := 4) sc_some_plan.nd rfl (.inl rfl) (.inr rfl))) (fun _ _ _ _ _ => pts_nil) (fun _ _ _ _ _ => (pe_call (ok_fraction T) (hr.mono (by decide)) (by rfl) T.m_fraction T.d_fraction.F.kp T.d_fraction.b .nil pass0 (pa_cons (pv 4) (pa_cons (pe_op op_mulA (pe_ix (k_ix (K := K) rfl) (pe_ix (k_ix (K := K) rfl) (pv 2) pe_int (fun _ _ => rfl)) pe_int (fun _ _ => rfl)) (pv 3)) pa_nil))))) pa_nil)) pe_non))))), ?_⟩
  refine fin h fun ss μ O ⟨t, p, told, e1, e2, ht, hp, run, e3⟩ => ?_
  subst e1 e2 e3
  have hw := ht.wide
  have sz := runs_sz ht hp run
  refine q_drop (ev_call0 (ea_cons (ev_varI rfl) (ea_cons (ev_varI rfl) ea_nil)) ⟨t, p, rfl, rfl, ht, rfl⟩) ?_
  refine q_asg (ix := [2, 3]) (ev_call0 (ea_cons (ev_varI rfl) (ea_cons (ev_varI rfl) ea_nil)) ⟨t, p, told, rfl, rfl, ht, hp, run, rfl⟩) (bnd_tup2 (d := dTold told) (e := .int (plL p))) ?_
  obtain ⟨ds, hds, h0⟩ := ix_told0 told
  refine t_ret (μ1 := []) (ev_if (c := !decide (wordQ told = "none")) (μ1 := []) (et_op (ev_op (ev_varI (d := .tuple ds) (by rw [← hds]; rfl)) ev_int (rv_ixT h0)) ev_str (rv_neS (sh_word told) (by decide +kernel))) (fun hc => ?_) (fun hc => ?_)) is_refl
  · cases told with
    | none paper low => exact absurd hc (show ¬ ((!decide (("none" : Str) = "none")) = true) by decide +kernel)
    | endless plan low =>
      obtain ⟨n0, lb, cm⟩ := pl_low hp sz
      exact ev_fracs (n := t.costs.length) T sz (by omega) n0 lb (ev_op (ev_op (ev_varI (d := dTold (.endless plan low)) rfl) ev_int (rv_ixT (d := .tuple [.list (iD plan), .int low]) rfl)) ev_int (rv_ixT (d := .list (iD plan)) rfl)) (fun z => ev_op (ev_op (ev_op (ev_varI (d := dTold (.endless plan low)) rfl) ev_int (rv_ixT (d := .tuple [.list (iD plan), .int low]) rfl)) ev_int (rv_ixT (d := .int low) rfl)) (ev_varI rfl) (rv_mul cm)) (show 4 < 5 by decide)
    | best plan paper low =>
      obtain ⟨n0, lb, cm⟩ := pl_low hp sz.1
      exact ev_fracs (n := t.costs.length) T sz.1 (by omega) n0 lb (ev_op (ev_op (ev_varI (d := dTold (.best plan paper low)) rfl) ev_int (rv_ixT (d := .tuple [.list (iD plan), .int low]) rfl)) ev_int (rv_ixT (d := .list (iD plan)) rfl)) (fun z => ev_op (ev_op (ev_op (ev_varI (d := dTold (.best plan paper low)) rfl) ev_int (rv_ixT (d := .tuple [.list (iD plan), .int low]) rfl)) ev_int (rv_ixT (d := .int low) rfl)) (ev_varI rfl) (rv_mul cm)) (show 4 < 5 by decide)
  · cases told with
    | none paper low => exact ev_non
    | endless plan low => exact absurd hc (show ¬ ((!decide (("endless" : Str) = "none")) = false) by decide +kernel)
    | best plan paper low => exact absurd hc (show ¬ ((!decide (("best" : Str) = "none")) = false) by decide +kernel)
def pre_some_paper : PreT := fun ss μ O => ∃ t p told, ss = [.im (dTask t), .im (dPl p)] ∧ μ = [] ∧ TkOk t ∧ PlOk p ∧ Runs t p told ∧ O = Is (.im (dOL (paperQ told))) []
theorem ok_some_paper (T : Txt K mg) : FnOk P w K mg base CX0 (6 + 1) T.d_some_paper.f T.d_some_paper.fd P_some_paper (SpW K pre_some_paper) := by
  refine T.d_some_paper.F.ok sc_some_paper (sp_len fun ss μ O ⟨_, _, _, e, _⟩ => by rw [e]; rfl) (fun cdv A outer s H vs Q E hr h => ?_)
  refine ⟨_, (pss_cons (ps_expr (pe_call (ok_need_both T) (hr.mono (by decide)) (by rfl) T.m_need_both T.d_need_both.F.kp T.d_need_both.b .nil pass0 (pa_cons (pv 0) (pa_cons (pv 1) pa_nil))))
    (pss_cons (ps_asg (pe_call (ok_solved_at T) (hr.mono (by decide)) (by rfl) T.m_solved_at T.d_solved_at.F.kp T.d_solved_at.b .nil pass0 (pa_cons (pv 0) (pa_cons (pv 1) pa_nil))) (k_gtup (K := K) (n := 2) rfl rfl (pgs_cons (pg_name (i := 2) sc_some_paper.nd rfl (.inr rfl) (.inl rfl)) (pgs_cons (pg_name (i := 3) sc_some_paper.nd rfl (.inl rfl) (.inr rfl)) pgs_nil))))
    (pss_one (ps_ret (pe_ifExp (pt_cmpR (k_eqD (K := K) hr.units rfl) (pe_ix (k_ix (K := K) rfl) (pv 2) pe_int (fun _ _ => rfl)) pe_str (nomark _)) (pe_callTy (k_tuple (K := K) rfl) (by rfl) T.b_tuple (by decide +kernel) (pa_cons (pe_lc (own := [("one", 4)]) rfl sc_some_paper.nd (k_piL (K := K) rfl (pe_ix (k_ix (K := K) rfl) (pe_ix (k_ix (K := K) rfl) (pv 2) pe_int (fun _ _ => rfl)) pe_int (fun _ _ => rfl))) (blkOk_by (N := N_some_paper) (sc := defScope s_some_paper) (by decide +kernel)) (fun _ _ _ _ _ => (pg_name (i := 4) sc_some_paper.nd rfl (.inl rfl) (.inr rfl))) (fun _ _ _ _ _ => pts_nil) (fun _ _ _ _ _ => (pe_call (ok_fraction T) (hr.mono (by decide)) (by rfl) T.m_fraction T.d_fraction.F.kp T.d_fraction.b .nil pass0 (pa_cons (pv 4) (pa_cons (pe_ix (k_ix (K := K) rfl) (pe_ix (k_ix (K := K) rfl) (pv 2) pe_int (fun _ _ => rfl)) pe_int (fun _ _ => rfl)) pa_nil))))) pa_nil)) pe_non))))), ?_⟩
  refine fin h fun ss μ O ⟨t, p, told, e1, e2, ht, hp, run, e3⟩ => ?_
  subst e1 e2 e3
  have hw := ht.high
  have sz := runs_sz ht hp run
  refine q_drop (ev_call0 (ea_cons (ev_varI rfl) (ea_cons (ev_varI rfl) ea_nil)) ⟨t, p, rfl, rfl, ht, rfl⟩) ?_
  refine q_asg (ix := [2, 3]) (ev_call0 (ea_cons (ev_varI rfl) (ea_cons (ev_varI rfl) ea_nil)) ⟨t, p, told, rfl, rfl, ht, hp, run, rfl⟩) (bnd_tup2 (d := dTold told) (e := .int (plL p))) ?_
  obtain ⟨ds, hds, h0⟩ := ix_told0 told
  refine t_ret (μ1 := []) (ev_if (c := decide (wordQ told = "best")) (μ1 := []) (et_op (ev_op (ev_varI (d := .tuple ds) (by rw [← hds]; rfl)) ev_int (rv_ixT h0)) ev_str (rv_eqS (sh_word told) (by decide +kernel))) (fun hc => ?_) (fun hc => ?_)) is_refl
  · cases told with
    | none paper low => exact absurd (of_decide_eq_true hc) (show ¬ (("none" : Str) = "best") by decide +kernel)
    | endless plan low => exact absurd (of_decide_eq_true hc) (show ¬ (("endless" : Str) = "best") by decide +kernel)
    | best plan paper low =>
      have hlp := sz.2.lp
      exact ev_fracs (n := t.rows.length) T sz.2 (by omega) (by omega) (sz.2.lb.mono (by decide)) (ev_op (ev_op (ev_varI (d := dTold (.best plan paper low)) rfl) ev_int (rv_ixT (d := .tuple [.list (iD paper), .int low]) rfl)) ev_int (rv_ixT (d := .list (iD paper)) rfl)) (fun z => ev_op (ev_op (ev_varI (d := dTold (.best plan paper low)) rfl) ev_int (rv_ixT (d := .tuple [.list (iD paper), .int low]) rfl)) ev_int (rv_ixT (d := .int low) rfl)) (show 4 < 5 by decide)
  · cases told with
    | none paper low => exact ev_non
    | endless plan low => exact ev_non
    | best plan paper low => exact absurd rfl (of_decide_eq_false hc)
def BestP (t : Tk) (p : Pl) (told : Told) (qs : List Rat) : Prop := Keeps t p qs ∧ worthQ t p told = some (innerR t.costs qs)
instance (t : Tk) (p : Pl) (told : Told) (qs : List Rat) : Decidable (BestP t p told qs) := by unfold BestP; exact inferInstance
def pre_is_best_plan : PreT := fun ss μ O => ∃ t p told qs, ss = [.im (dTask t), .im (dPl p), Tp (dQs qs)] ∧ μ = [] ∧ TkOk t ∧ PlOk p ∧ Runs t p told ∧ qs.length = t.costs.length ∧ (∀ q ∈ qs, Bq 700 q) ∧ O = Is (B (decide (BestP t p told qs))) []
theorem eqv_oq (o : Option Rat) (q : Rat) : PyData.eqv (dOQ o) (dQ q) = decide (o = some q) := by
  cases o with
  | none => unfold dOQ dQ; simp [PyData.eqv]
  | some x =>
    show PyData.eqv (dQ x) (dQ q) = _
    rw [eqv_dQ, decide_eq_decide]
    exact ⟨fun z => by rw [z], fun z => by cases z; rfl⟩
theorem shaped_oq (o : Option Rat) : SeqAt.shaped (dOQ o) = true := by
  cases o with
  | none => rfl
  | some x => exact shaped_dQ x
theorem ok_is_best_plan (T : Txt K mg) : FnOk P w K mg base CX0 (7 + 1) T.d_is_best_plan.f T.d_is_best_plan.fd P_is_best_plan (SpW K pre_is_best_plan) := by
  refine T.d_is_best_plan.F.ok sc_is_best_plan (sp_len fun ss μ O ⟨_, _, _, _, e, _⟩ => by rw [e]; rfl) (fun cdv A outer s H vs Q E hr h => ?_)
  refine ⟨_, (pss_cons (ps_expr (pe_call (ok_need_both T) (hr.mono (by decide)) (by rfl) T.m_need_both T.d_need_both.F.kp T.d_need_both.b .nil pass0 (pa_cons (pv 0) (pa_cons (pv 1) pa_nil))))
    (pss_cons (ps_expr (pe_call (ok_need_fractions T) (hr.mono (by decide)) (by rfl) T.m_need_fractions T.d_need_fractions.F.kp T.d_need_fractions.b .nil pass0 (pa_cons (pv 2) (pa_cons (pe_callB (k_len (K := K) rfl) (by rfl) T.b_len (by decide +kernel) (pa_cons (pe_ix (k_ix (K := K) rfl) (pv 0) pe_int (fun _ _ => rfl)) pa_nil)) pa_nil))))
    (pss_cons (ps_if (pt_not (pt_val (pe_call (ok_is_plan_of T) (hr.mono (by decide)) (by rfl) T.m_is_plan_of T.d_is_plan_of.F.kp T.d_is_plan_of.b .nil pass0 (pa_cons (pv 0) (pa_cons (pv 1) (pa_cons (pv 2) pa_nil))))))
      (pss_one (ps_ret pe_bl))
      pss_nil)
    (pss_cons (ps_asg (pe_call (ok_whole T) (hr.mono (by decide)) (by rfl) T.m_whole T.d_whole.F.kp T.d_whole.b .nil pass0 (pa_cons (pv 2) pa_nil)) (k_gtup (K := K) (n := 2) rfl rfl (pgs_cons (pg_name (i := 3) sc_is_best_plan.nd rfl (.inl rfl) (.inr rfl)) (pgs_cons (pg_name (i := 4) sc_is_best_plan.nd rfl (.inl rfl) (.inr rfl)) pgs_nil))))
    (pss_one (ps_ret (pe_cmpR (k_eqD (K := K) hr.units rfl) (pe_call (ok_worth_at T) (hr.mono (by decide)) (by rfl) T.m_worth_at T.d_worth_at.F.kp T.d_worth_at.b .nil pass0 (pa_cons (pv 0) (pa_cons (pv 1) pa_nil))) (pe_call (ok_fraction T) (hr.mono (by decide)) (by rfl) T.m_fraction T.d_fraction.F.kp T.d_fraction.b .nil pass0 (pa_cons (pe_call (ok_inner T) (hr.mono (by decide)) (by rfl) T.m_inner T.d_inner.F.kp T.d_inner.b .nil pass0 (pa_cons (pe_ix (k_ix (K := K) rfl) (pv 0) pe_int (fun _ _ => rfl)) (pa_cons (pv 3) pa_nil))) (pa_cons (pv 4) pa_nil))) (nomark _)))))))), ?_⟩
  refine fin h fun ss μ O ⟨t, p, told, qs, e1, e2, ht, hp, run, hl, hb, e3⟩ => ?_
  subst e1 e2 e3
  have hw := ht.wide
  have hlow := lowQ_bi (k := 700) (by omega) hb
  have hwb := wholeN_bi hb hlow
  refine q_drop (ev_call0 (ea_cons (ev_varI rfl) (ea_cons (ev_varI rfl) ea_nil)) ⟨t, p, rfl, rfl, ht, rfl⟩) ?_
  have lt : Ev K (tCB (rLenQ K) (tCons (tOp (rIx K) (tVar 0) (tC (.int 0))) tNil)) [.im (dTask t), .im (dPl p), Tp (dQs qs), .un, .un] [] (I (qs.length : Int)) [] := by
    have := ev_cb (K := K) (δ := [.im (dTask t), .im (dPl p), Tp (dQs qs), .un, .un]) (μ := []) (ea_cons (ev_op (ev_varI (i := 0) rfl) (ev_int (i := 0)) (rv_ixT (d := .tuple (iD t.costs)) rfl)) ea_nil) rc_lenT
    rw [iD_len, ← hl] at this
    exact this
  refine q_drop (ev_call0 (ea_cons (ev_varI rfl) (ea_cons lt ea_nil)) ⟨qs, rfl, rfl, by omega, rfl⟩) ?_
  refine q_if (et_not (et_val (ev_call0 (ea_cons (ev_varI rfl) (ea_cons (ev_varI rfl) (ea_cons (ev_varI rfl) ea_nil))) ⟨t, p, qs, rfl, rfl, ht, hp, hl, hb, rfl⟩))) (fun hc => ?_) (fun hc => ?_)
  · refine q_retS (t_ret (s := B false) ev_bl ?_)
    have : decide (BestP t p told qs) = false := decide_eq_false fun z => by
      rw [decide_eq_true z.1] at hc
      cases hc
    rw [this]
    exact is_refl
  have hk : Keeps t p qs := by
    apply Classical.byContradiction
    intro z
    rw [decide_eq_false z] at hc
    cases hc
  refine q_next ?_
  refine q_asg (ix := [3, 4]) (ev_call0 (ea_cons (ev_varI rfl) ea_nil) ⟨qs, rfl, rfl, by omega, hb, rfl⟩) (bnd_tup2 (d := .list (iD (wholeN (lowQ qs) qs))) (e := .int (lowQ qs))) ?_
  have hdot := dotL_bi (k := 2900) t.costs (wholeN (lowQ qs) qs) (by omega) fun a ha b hb' => ((ht.cost8 a ha).mul (hwb b hb')).mono (by decide)
  have hl0 := lowQ_pos qs
  have q1 : Rat.divInt (dotL t.costs (wholeN (lowQ qs) qs)) (lowQ qs) = innerR t.costs qs := divInt_of (by omega) (dot_eq _ _ fun q hq => lowQ_dvd hq)
  have hfin : decide (BestP t p told qs) = PyData.eqv (dOQ (worthQ t p told)) (dQ (innerR t.costs qs)) := by
    rw [eqv_oq, decide_eq_decide]
    exact ⟨fun z => z.2, fun z => ⟨hk, z⟩⟩
  rw [hfin]
  refine t_ret (ev_op (ev_call0 (ea_cons (ev_varI rfl) (ea_cons (ev_varI rfl) ea_nil)) ⟨t, p, told, rfl, rfl, ht, hp, run, rfl⟩) (ev_call0 (s := .im (dQ (innerR t.costs qs))) (ea_cons (ev_call0 (ea_cons (ev_op (ev_varI rfl) ev_int (rv_ixT (d := .tuple (iD t.costs)) rfl)) (ea_cons (ev_varI rfl) ea_nil)) ⟨t.costs, wholeN (lowQ qs) qs, _, rfl, .inl rfl, rfl, by omega, fun n hn => (ht.cost8 n hn).mono (by decide), fun n hn => (hwb n hn).mono (by decide), rfl⟩) (ea_cons (ev_varI rfl) ea_nil))
    ⟨_, _, rfl, rfl, by omega, hdot.mono (by decide), hlow.mono (by decide), by rw [q1]⟩) (rv_eq (shaped_oq _) (shaped_dQ _))) is_refl
end
end WM

set_option Elab.async false
set_option linter.all false
set_option maxRecDepth 100000
set_option maxHeartbeats 2000000
namespace WM
open PySem PySem.Spec PyProof.Rows L2 StX

/-! ### alike with itself -/
def AlD : Nat → PyData → Prop
  | _, .none => True
  | _, .str x => SeqAt.shaped (.str x) = true
  | _, .int _ => True
  | n + 1, .list ds => ds.length ≤ 10 ∧ ∀ d ∈ ds, AlD n d
  | n + 1, .tuple ds => ds.length ≤ 10 ∧ ∀ d ∈ ds, AlD n d
  | _, _ => False
theorem eqv_none : PyData.eqv .none .none = true := by simp [PyData.eqv]
theorem eqv_bb (b : Bool) : PyData.eqv (.bool b) (.bool b) = true := by simp [PyData.eqv]
def pre_alike (n : Nat) : PreT := fun ss μ O => ∃ d, ss = [.im d, .im d] ∧ μ = [] ∧ AlD n d ∧ O = Is (B true) []
section
variable {P : Program} {w : World} {K : PySem.W.Frag} {mg : Str → Option Value} {base : Heap}
theorem any2 {a : String} {b : Bool} (h1 : kitB a "tuple" = some false) (h2 : kitB a "list" = some b) : PySem.W.kitAny K (.type a) [.type "tuple", .type "list"] = some b := by
  refine kitAny_cons (kit_ty h1) (fun _ => kitAny_cons (kit_ty h2) (fun e => ?_) (fun e => e)) (fun z => nomatch z)
  rw [e]
  rfl
theorem any1 {a : String} (h1 : kitB a "tuple" = some true) : PySem.W.kitAny K (.type a) [.type "tuple", .type "list"] = some true := kitAny_cons (kit_ty h1) (fun z => nomatch z) (fun _ => rfl)
theorem rv_eqB {μ : Mu} {b : Bool} : RV K (rEqD K) μ (B b) (B b) (B true) := by
  have := rv_eq (K := K) (μ := μ) (d := .bool b) (e := .bool b) rfl rfl
  rw [eqv_bb] at this
  exact this
theorem rv_neB {μ : Mu} {b : Bool} : RV K (rNeD K) μ (B b) (B b) (B false) := by
  have := rv_ne (K := K) (μ := μ) (d := .bool b) (e := .bool b) rfl rfl
  rw [eqv_bb] at this
  exact this
abbrev tAlS : TS → TS := fun body =>
  tSeq (tIfS (tB (tCB (rIsiT K) (tCons (tVar 1) (tCons (tTup (tCons (tC (.ty "tuple")) (tCons (tC (.ty "list")) tNil))) tNil)))) body tNext)
    (tSeq (tIfS (tOr (tTest (tOp rIsNn (tVar 1) (tC .non))) (tB (tCB (rIsi K) (tCons (tVar 1) (tCons (tC (.ty "str")) tNil)))))
      (tRet (tAndV (tOp (rEqD K) (tVar 0) (tVar 1)) (tOp (rEqD K) (tCB (rIsi K) (tCons (tVar 0) (tCons (tC (.ty "str")) tNil))) (tCB (rIsi K) (tCons (tVar 1) (tCons (tC (.ty "str")) tNil)))))) tNext)
      (tRet (tAndV (tCB (rIsi K) (tCons (tVar 0) (tCons (tC (.ty "int")) tNil))) (tAndV (tOp (rEqD K) (tCB (rIsi K) (tCons (tVar 0) (tCons (tC (.ty "bool")) tNil))) (tCB (rIsi K) (tCons (tVar 1) (tCons (tC (.ty "bool")) tNil)))) (tOp (rEqD K) (tVar 0) (tVar 1))))))
theorem al_flat {n : Nat} {d : PyData} {body : TS} {x2 : Slot} (h : AlD n d) (hf : (∃ x, d = .str x) ∨ (∃ i, d = .int i) ∨ d = .none) :
    Tri K (tAlS (K := K) body) [.im d, .im d, x2] [] (fun _ m => Is (B true) [] (.im .none) m) (Is (B true) []) := by
  rcases hf with ⟨x, rfl⟩ | ⟨i, rfl⟩ | rfl
  · have hsh : SeqAt.shaped (.str x) = true := by cases n <;> exact h
    refine q_if (b := false) (et_val (ev_isi2 (ev_varI rfl) (any2 (a := "str") (by decide +kernel) (by decide +kernel)))) (fun z => nomatch z) fun _ => q_next ?_
    refine q_if (b := true) (et_or (c := false) (d := true) (et_op (ev_varI rfl) ev_non rv_isN) fun _ => et_val (ev_isi (ev_varI rfl) (show kitB "str" "str" = some true by decide +kernel))) (fun _ => ?_) (fun z => nomatch z)
    refine q_retS (t_ret (ev_andV (c := true) (d := true) ?_ fun _ => ev_op (ev_isi (ev_varI rfl) (show kitB "str" "str" = some true by decide +kernel)) (ev_isi (ev_varI rfl) (show kitB "str" "str" = some true by decide +kernel)) rv_eqB) is_refl)
    have := ev_op (K := K) (δ := [.im (.str x), .im (.str x), x2]) (μ := []) (ev_varI (i := 0) rfl) (ev_varI (i := 1) rfl) (rv_eqS hsh hsh)
    rw [decide_eq_true rfl] at this
    exact this
  · refine q_if (b := false) (et_val (ev_isi2 (ev_varI rfl) (any2 (a := "int") (by decide +kernel) (by decide +kernel)))) (fun z => nomatch z) fun _ => q_next ?_
    refine q_if (b := false) (et_or (c := false) (d := false) (et_op (ev_varI rfl) ev_non rv_isN) fun _ => et_val (ev_isi (ev_varI rfl) (show kitB "int" "str" = some false by decide +kernel))) (fun z => nomatch z) fun _ => q_next ?_
    refine t_ret (ev_andV (c := true) (d := true) (ev_isi (ev_varI rfl) (show kitB "int" "int" = some true by decide +kernel)) fun _ => ev_andV (c := true) (d := true) (ev_op (ev_isi (ev_varI rfl) (show kitB "int" "bool" = some false by decide +kernel)) (ev_isi (ev_varI rfl) (show kitB "int" "bool" = some false by decide +kernel)) rv_eqB) fun _ => ?_) is_refl
    have := ev_op (K := K) (δ := [I i, I i, x2]) (μ := []) (ev_varI (i := 0) rfl) (ev_varI (i := 1) rfl) rv_eqI
    rw [decide_eq_true rfl] at this
    exact this
  · refine q_if (b := false) (et_val (ev_isi2 (ev_varI rfl) (any2 (a := "NoneType") (by decide +kernel) (by decide +kernel)))) (fun z => nomatch z) fun _ => q_next ?_
    refine q_if (b := true) (et_or (c := true) (d := true) (et_op (ev_varI rfl) ev_non rv_isN) (fun z => nomatch z)) (fun _ => ?_) (fun z => nomatch z)
    refine q_retS (t_ret (ev_andV (c := true) (d := true) ?_ fun _ => ev_op (ev_isi (ev_varI rfl) (show kitB "NoneType" "str" = some false by decide +kernel)) (ev_isi (ev_varI rfl) (show kitB "NoneType" "str" = some false by decide +kernel)) rv_eqB) is_refl)
    have := ev_op (K := K) (δ := [.im .none, .im .none, x2]) (μ := []) (ev_varI (i := 0) rfl) (ev_varI (i := 1) rfl) (rv_eq rfl rfl)
    rw [eqv_none] at this
    exact this
theorem al0_law (T : Txt K mg) : FnOk P w K mg base CX0 (0 + 1) T.d_law_alike.f T.d_law_alike.fd P_law_alike (SpW K (pre_alike 0)) := by
  refine T.d_law_alike.F.ok sc_law_alike (sp_len fun ss μ O ⟨_, e, _⟩ => by rw [e]; rfl) (fun cdv A outer s H vs Q E hr h => ?_)
  refine ⟨_, (pss_cons (ps_if (pt_val (pe_callB (k_isiT (K := K) rfl) (by rfl) T.b_isinstance (by decide +kernel) (pa_cons (pv 1) (pa_cons (pe_tup (pa_cons (pe_bltn (v := .ty "tuple") (by rfl) T.b_tuple (by decide +kernel) rfl) (pa_cons (pe_bltn (v := .ty "list") (by rfl) T.b_list (by decide +kernel) rfl) pa_nil))) pa_nil))))
      pss_never
      pss_nil)
    (pss_cons (ps_if (PW.pt (pw_or (pt_cmpR op_isNn (pv 1) pe_non (nomark _)) (pw_or1 (pt_val (pe_callB (k_isi (K := K) rfl) (by rfl) T.b_isinstance (by decide +kernel) (pa_cons (pv 1) (pa_cons (pe_bltn (v := .ty "str") (by rfl) T.b_str (by decide +kernel) rfl) pa_nil)))))))
      (pss_one (ps_ret (pe_and (pe_cmpR (k_eqD (K := K) hr.units rfl) (pv 0) (pv 1) (nomark _)) (pe_one (pe_cmpR (k_eqD (K := K) hr.units rfl) (pe_callB (k_isi (K := K) rfl) (by rfl) T.b_isinstance (by decide +kernel) (pa_cons (pv 0) (pa_cons (pe_bltn (v := .ty "str") (by rfl) T.b_str (by decide +kernel) rfl) pa_nil))) (pe_callB (k_isi (K := K) rfl) (by rfl) T.b_isinstance (by decide +kernel) (pa_cons (pv 1) (pa_cons (pe_bltn (v := .ty "str") (by rfl) T.b_str (by decide +kernel) rfl) pa_nil))) (nomark _))))))
      pss_nil)
    (pss_one (ps_ret (pe_and (pe_callB (k_isi (K := K) rfl) (by rfl) T.b_isinstance (by decide +kernel) (pa_cons (pv 0) (pa_cons (pe_bltn (v := .ty "int") (by rfl) T.b_int (by decide +kernel) rfl) pa_nil))) (pe_and (pe_cmpR (k_eqD (K := K) hr.units rfl) (pe_callB (k_isi (K := K) rfl) (by rfl) T.b_isinstance (by decide +kernel) (pa_cons (pv 0) (pa_cons (pe_bltn (v := .ty "bool") (by rfl) T.b_bool (by decide +kernel) rfl) pa_nil))) (pe_callB (k_isi (K := K) rfl) (by rfl) T.b_isinstance (by decide +kernel) (pa_cons (pv 1) (pa_cons (pe_bltn (v := .ty "bool") (by rfl) T.b_bool (by decide +kernel) rfl) pa_nil))) (nomark _)) (pe_one (pe_cmpR (k_eqD (K := K) hr.units rfl) (pv 0) (pv 1) (nomark _))))))))), ?_⟩
  refine fin h fun ss μ O ⟨d, e1, e2, hd, e3⟩ => ?_
  subst e1 e2 e3
  have hf : (∃ x, d = .str x) ∨ (∃ i, d = .int i) ∨ d = .none := by
    cases d with
    | none => exact .inr (.inr rfl)
    | str x => exact .inl ⟨x, rfl⟩
    | int i => exact .inr (.inl ⟨i, rfl⟩)
    | bool b => exact hd.elim
    | list ds => exact hd.elim
    | tuple ds => exact hd.elim
    | dict ds => exact hd.elim
  exact al_flat (body := tNever) hd hf
theorem al_step (T : Txt K mg) {n k : Nat} (GR : FnOk P w K mg base CX0 k T.d_law_alike.f T.d_law_alike.fd P_law_alike (SpW K (pre_alike n))) : FnOk P w K mg base CX0 (k + 1) T.d_law_alike.f T.d_law_alike.fd P_law_alike (SpW K (pre_alike (n + 1))) := by
  refine T.d_law_alike.F.ok sc_law_alike (sp_len fun ss μ O ⟨_, e, _⟩ => by rw [e]; rfl) (fun cdv A outer s H vs Q E hr h => ?_)
  refine ⟨_, (pss_cons (ps_if (pt_val (pe_callB (k_isiT (K := K) rfl) (by rfl) T.b_isinstance (by decide +kernel) (pa_cons (pv 1) (pa_cons (pe_tup (pa_cons (pe_bltn (v := .ty "tuple") (by rfl) T.b_tuple (by decide +kernel) rfl) (pa_cons (pe_bltn (v := .ty "list") (by rfl) T.b_list (by decide +kernel) rfl) pa_nil))) pa_nil))))
      (pss_cons (ps_if (PW.pt (pw_or (pt_not (pt_val (pe_callB (k_isiT (K := K) rfl) (by rfl) T.b_isinstance (by decide +kernel) (pa_cons (pv 0) (pa_cons (pe_tup (pa_cons (pe_bltn (v := .ty "tuple") (by rfl) T.b_tuple (by decide +kernel) rfl) (pa_cons (pe_bltn (v := .ty "list") (by rfl) T.b_list (by decide +kernel) rfl) pa_nil))) pa_nil))))) (pw_or1 (pt_cmpR (k_neD (K := K) hr.units rfl) (pe_callB (k_isi (K := K) rfl) (by rfl) T.b_isinstance (by decide +kernel) (pa_cons (pv 0) (pa_cons (pe_bltn (v := .ty "list") (by rfl) T.b_list (by decide +kernel) rfl) pa_nil))) (pe_callB (k_isi (K := K) rfl) (by rfl) T.b_isinstance (by decide +kernel) (pa_cons (pv 1) (pa_cons (pe_bltn (v := .ty "list") (by rfl) T.b_list (by decide +kernel) rfl) pa_nil))) (nomark _)))))
        (pss_one (ps_ret pe_bl))
        pss_nil)
      (pss_cons (ps_if (pt_cmpR (k_neD (K := K) hr.units rfl) (pe_callB (k_len (K := K) rfl) (by rfl) T.b_len (by decide +kernel) (pa_cons (pv 0) pa_nil)) (pe_callB (k_len (K := K) rfl) (by rfl) T.b_len (by decide +kernel) (pa_cons (pv 1) pa_nil)) (nomark _))
        (pss_one (ps_ret pe_bl))
        pss_nil)
      (pss_one (ps_ret (pe_cmpR (k_eqD (K := K) hr.units rfl) (pe_lc (own := [("_law_k", 2)]) rfl sc_law_alike.nd (pi_range1 (by rfl) T.b_range (pa_cons (pe_callB (k_len (K := K) rfl) (by rfl) T.b_len (by decide +kernel) (pa_cons (pv 1) pa_nil)) pa_nil)) (blkOk_by (N := N_law_alike) (sc := defScope s_law_alike) (by decide +kernel)) (fun _ _ _ _ _ => (pg_name (i := 2) sc_law_alike.nd rfl (.inl rfl) (.inr rfl))) (fun _ _ _ _ _ => (pts_one (pt_not (pt_val (pe_call GR (hr.mono (by omega)) (by rfl) T.m_law_alike T.d_law_alike.F.kp T.d_law_alike.b .nil pass0 (pa_cons (pe_ix (k_ix (K := K) rfl) (pv 0) (pv 2) (fun _ _ => rfl)) (pa_cons (pe_ix (k_ix (K := K) rfl) (pv 1) (pv 2) (fun _ _ => rfl)) pa_nil))))))) (fun _ _ _ _ _ => (pv 2))) (pe_lst pa_nil) (nomark _))))))
      pss_nil)
    (pss_cons (ps_if (PW.pt (pw_or (pt_cmpR op_isNn (pv 1) pe_non (nomark _)) (pw_or1 (pt_val (pe_callB (k_isi (K := K) rfl) (by rfl) T.b_isinstance (by decide +kernel) (pa_cons (pv 1) (pa_cons (pe_bltn (v := .ty "str") (by rfl) T.b_str (by decide +kernel) rfl) pa_nil)))))))
      (pss_one (ps_ret (pe_and (pe_cmpR (k_eqD (K := K) hr.units rfl) (pv 0) (pv 1) (nomark _)) (pe_one (pe_cmpR (k_eqD (K := K) hr.units rfl) (pe_callB (k_isi (K := K) rfl) (by rfl) T.b_isinstance (by decide +kernel) (pa_cons (pv 0) (pa_cons (pe_bltn (v := .ty "str") (by rfl) T.b_str (by decide +kernel) rfl) pa_nil))) (pe_callB (k_isi (K := K) rfl) (by rfl) T.b_isinstance (by decide +kernel) (pa_cons (pv 1) (pa_cons (pe_bltn (v := .ty "str") (by rfl) T.b_str (by decide +kernel) rfl) pa_nil))) (nomark _))))))
      pss_nil)
    (pss_one (ps_ret (pe_and (pe_callB (k_isi (K := K) rfl) (by rfl) T.b_isinstance (by decide +kernel) (pa_cons (pv 0) (pa_cons (pe_bltn (v := .ty "int") (by rfl) T.b_int (by decide +kernel) rfl) pa_nil))) (pe_and (pe_cmpR (k_eqD (K := K) hr.units rfl) (pe_callB (k_isi (K := K) rfl) (by rfl) T.b_isinstance (by decide +kernel) (pa_cons (pv 0) (pa_cons (pe_bltn (v := .ty "bool") (by rfl) T.b_bool (by decide +kernel) rfl) pa_nil))) (pe_callB (k_isi (K := K) rfl) (by rfl) T.b_isinstance (by decide +kernel) (pa_cons (pv 1) (pa_cons (pe_bltn (v := .ty "bool") (by rfl) T.b_bool (by decide +kernel) rfl) pa_nil))) (nomark _)) (pe_one (pe_cmpR (k_eqD (K := K) hr.units rfl) (pv 0) (pv 1) (nomark _))))))))), ?_⟩
  refine fin h fun ss μ O ⟨d, e1, e2, hd, e3⟩ => ?_
  subst e1 e2 e3
  have seqC : ∀ (ds : List PyData) (d : PyData) (bl bt : Bool), (d = .list ds ∧ bl = true ∨ d = .tuple ds ∧ bl = false) → ds.length ≤ 10 → (∀ x ∈ ds, AlD n x) →
      Tri K (tSeq (tIfS (tOr (tNot (tB (tCB (rIsiT K) (tCons (tVar 0) (tCons (tTup (tCons (tC (.ty "tuple")) (tCons (tC (.ty "list")) tNil))) tNil))))) (tTest (tOp (rNeD K) (tCB (rIsi K) (tCons (tVar 0) (tCons (tC (.ty "list")) tNil))) (tCB (rIsi K) (tCons (tVar 1) (tCons (tC (.ty "list")) tNil)))))) (tRet (tC (.bl false))) tNext)
        (tSeq (tIfS (tTest (tOp (rNeD K) (tCB (rLenQ K) (tCons (tVar 0) tNil)) (tCB (rLenQ K) (tCons (tVar 1) tNil)))) (tRet (tC (.bl false))) tNext)
          (tRet (tOp (rEqD K) (tLc (iRng1 (tCons (tCB (rLenQ K) (tCons (tVar 1) tNil)) tNil)) (gName 2) (tNot (tB (tCall (SpW K (pre_alike n)) [] E0 (tCons (tOp (rIx K) (tVar 0) (tVar 2)) (tCons (tOp (rIx K) (tVar 1) (tVar 2)) tNil))))) (tVar 2) [2]) (tLst tNil)))))
        [.im d, .im d, .un] [] NoN (Is (B true) []) := by
    intro ds d bl bt hd hl hx
    have hq : SeqS (.im d) ds := by
      rcases hd with ⟨rfl, _⟩ | ⟨rfl, _⟩
      · exact seq_l
      · exact seq_t
    have hk : kitB (tyD d) "list" = some bl := by
      rcases hd with ⟨rfl, rfl⟩ | ⟨rfl, rfl⟩
      · show kitB "list" "list" = some true; decide +kernel
      · show kitB "tuple" "list" = some false; decide +kernel
    have ha : PySem.W.kitAny K (.type (tyD d)) [.type "tuple", .type "list"] = some true := by
      rcases hd with ⟨rfl, rfl⟩ | ⟨rfl, rfl⟩
      · exact any2 (a := "list") (by decide +kernel) (by decide +kernel)
      · exact any1 (a := "tuple") (by decide +kernel)
    refine t_no (et_or (c := false) (d := false) (et_not (c := true) (et_val (ev_isi2 (ev_varI rfl) ha))) fun _ => et_op (ev_isi (ev_varI rfl) hk) (ev_isi (ev_varI rfl) hk) rv_neB) ?_
    have hne : EvT K (tTest (tOp (rNeD K) (tCB (rLenQ K) (tCons (tVar 0) tNil)) (tCB (rLenQ K) (tCons (tVar 1) tNil)))) [.im d, .im d, .un] [] false [] := by
      have := et_op (K := K) (δ := [.im d, .im d, .un]) (μ := []) (ev_cb (ea_cons (ev_varI (i := 0) rfl) ea_nil) (rc_lenQ hq)) (ev_cb (ea_cons (ev_varI (i := 1) rfl) ea_nil) (rc_lenQ hq)) rv_neI
      rw [decide_eq_true rfl] at this
      exact this
    refine t_no hne ?_
    have hf : Ev K (tLc (iRng1 (tCons (tCB (rLenQ K) (tCons (tVar 1) tNil)) tNil)) (gName 2) (tNot (tB (tCall (SpW K (pre_alike n)) [] E0 (tCons (tOp (rIx K) (tVar 0) (tVar 2)) (tCons (tOp (rIx K) (tVar 1) (tVar 2)) tNil))))) (tVar 2) [2]) [.im d, .im d, .un] [] (Ls []) [] := by
      have := ev_filt (K := K) (δ := [.im d, .im d, .un]) (μ := []) (te := tVar 2) (t := tNot (tB (tCall (SpW K (pre_alike n)) [] E0 (tCons (tOp (rIx K) (tVar 0) (tVar 2)) (tCons (tOp (rIx K) (tVar 1) (tVar 2)) tNil))))) (g := gName 2) (ix := [2]) (vs := [2]) (fun _ => false) id (ei_rng1 (ea_cons (ev_cb (ea_cons (ev_varI (i := 1) rfl) ea_nil) (rc_lenQ hq)) ea_nil) (by omega) (by omega)) glin_nil (by rw [rngD_len]; omega) (fun j h => h) fun k d' hd' => by
        obtain ⟨hk, rfl⟩ := rngD_get hd'
        rw [Int.toNat_natCast] at hk
        have zk : (0 : Int) + (k : Int) = (k : Int) := Int.zero_add _
        rw [zk]
        have g : ds[k]? = some ds[k] := List.getElem?_eq_getElem hk
        exact ⟨_, bnd_name, et_not (c := true) (et_val (ev_call0 (ea_cons (ev_op (ev_varI rfl) (ev_varI rfl) (rv_ixQ hq (at_nat g))) (ea_cons (ev_op (ev_varI rfl) (ev_varI rfl) (rv_ixQ hq (at_nat g))) ea_nil)) ⟨ds[k], rfl, rfl, hx _ (List.mem_of_getElem? g), rfl⟩)), fun z => nomatch z⟩
      rw [List.filter_eq_nil_iff.mpr (fun _ _ => by decide)] at this
      exact this
    have := ev_op hf (ev_lst (ds := []) ea_nil (by simp)) (rv_eq (K := K) (μ := []) (d := .list []) (e := .list []) (by decide +kernel) (by decide +kernel))
    rw [show PyData.eqv (.list []) (.list []) = true by simp [PyData.eqv, PyData.eqvAll]] at this
    exact t_ret this is_refl
  cases d with
  | none => exact al_flat hd (.inr (.inr rfl))
  | str x => exact al_flat hd (.inl ⟨x, rfl⟩)
  | int i => exact al_flat hd (.inr (.inl ⟨i, rfl⟩))
  | bool b => exact hd.elim
  | dict ds => exact hd.elim
  | list ds => exact q_if (b := true) (et_val (ev_isi2 (ev_varI rfl) (any2 (a := "list") (by decide +kernel) (by decide +kernel)))) (fun _ => t_seq (seqC ds (.list ds) true true (.inl ⟨rfl, rfl⟩) hd.1 hd.2) fun _ _ z => z.elim) (fun z => nomatch z)
  | tuple ds => exact q_if (b := true) (et_val (ev_isi2 (ev_varI rfl) (any1 (a := "tuple") (by decide +kernel)))) (fun _ => t_seq (seqC ds (.tuple ds) false true (.inr ⟨rfl, rfl⟩) hd.1 hd.2) fun _ _ z => z.elim) (fun z => nomatch z)
theorem ok_law_alike (T : Txt K mg) : FnOk P w K mg base CX0 (3) T.d_law_alike.f T.d_law_alike.fd P_law_alike (SpW K (pre_alike 2)) := al_step T (al_step T (al0_law T))
end
end WM

set_option Elab.async false
set_option linter.all false
set_option maxRecDepth 100000
set_option maxHeartbeats 2000000
namespace WM
open PySem PySem.Spec PyProof.Rows L2 StX

/-! ### law itself, where the told agrees with the due -/
def wordD : Due → Str
  | .none => "none"
  | .endless => "endless"
  | .worth _ => "best"
inductive Agree (t : Tk) (p : Pl) : Due → Told → Prop
  | none {paper : List Int} {low : Int} : Agree t p .none (.none paper low)
  | endless {plan : List Int} {low : Int} : Keeps t p (plan.map fun z => Rat.divInt z (low * plL p)) → Agree t p .endless (.endless plan low)
  | best {plan paper : List Int} {low : Int} {v : Rat} : Keeps t p (plan.map fun z => Rat.divInt z (low * plL p)) → innerR t.costs (plan.map fun z => Rat.divInt z (low * plL p)) = v → Pays t (paper.map fun z => Rat.divInt z low) →
      promR t p (paper.map fun z => Rat.divInt z low) = v → Rat.divInt (dotL t.costs plan) (low * plL p) = v → Agree t p (.worth v) (.best plan paper low)
theorem w_nb : ¬ (("none" : Str) = "best") := by decide +kernel
theorem w_eb : ¬ (("endless" : Str) = "best") := by decide +kernel
theorem w_en : ¬ (("endless" : Str) = "none") := by decide +kernel
theorem w_bn : ¬ (("best" : Str) = "none") := by decide +kernel
structure Agr (t : Tk) (p : Pl) (due : Due) (told : Told) : Prop where
  wd : wordQ told = wordD due
  wo : dOQ (worthQ t p told) = if wordD due = "best" then dDue due else .none
  pn : isNonD (dOL (planQ p told)) = decide (wordD due = "none")
  yn : isNonD (dOL (paperQ told)) = !decide (wordD due = "best")
  keep : ∀ qs, planQ p told = some qs → Keeps t p qs
  bst : wordD due = "best" → ∃ qs ys v, planQ p told = some qs ∧ paperQ told = some ys ∧ due = .worth v ∧ innerR t.costs qs = v ∧ Pays t ys ∧ promR t p ys = v ∧ worthQ t p told = some v
  bp : ∀ qs, decide (BestP t p told qs) = (decide (Keeps t p qs) && (decide (wordD due = "best") && PyData.eqv (dQ (innerR t.costs qs)) (dDue due)))
  bq : ∀ qs, planQ p told = some qs → decide (BestP t p told qs) = decide (wordD due = "best")
theorem Agree.agr {t : Tk} {p : Pl} {due : Due} {told : Told} (h : Agree t p due told) : Agr t p due told := by
  cases h with
  | @none paper low =>
    have hb : ∀ qs, decide (BestP t p (.none paper low) qs) = false := fun qs => decide_eq_false fun z => nomatch z.2
    refine ⟨rfl, ?_, ?_, ?_, (fun _ z => nomatch z), (fun z => absurd z w_nb), fun qs => ?_, (fun _ z => nomatch z)⟩
    · exact (if_neg w_nb).symm
    · exact (decide_eq_true rfl).symm
    · show true = !decide (("none" : Str) = "best"); rw [decide_eq_false w_nb]; rfl
    · rw [hb]
      show false = (decide (Keeps t p qs) && (decide (("none" : Str) = "best") && _))
      rw [decide_eq_false w_nb, Bool.false_and, Bool.and_false]
  | @endless plan low hk =>
    have hb : ∀ qs, decide (BestP t p (.endless plan low) qs) = false := fun qs => decide_eq_false fun z => nomatch z.2
    refine ⟨rfl, ?_, ?_, ?_, fun qs z => ?_, fun z => absurd z w_eb, fun qs => ?_, fun qs z => ?_⟩
    · exact (if_neg w_eb).symm
    · exact (decide_eq_false w_en).symm
    · show true = !decide (("endless" : Str) = "best"); rw [decide_eq_false w_eb]; rfl
    · cases z; exact hk
    · rw [hb]
      show false = (decide (Keeps t p qs) && (decide (("endless" : Str) = "best") && _))
      rw [decide_eq_false w_eb, Bool.false_and, Bool.and_false]
    · rw [hb]
      exact (decide_eq_false w_eb).symm
  | @best plan paper low v hk hi hp hm hw =>
    have hwo : worthQ t p (.best plan paper low) = some v := congrArg some hw
    refine ⟨rfl, ?_, ?_, ?_, fun qs z => ?_, fun _ => ⟨_, _, v, rfl, rfl, rfl, hi, hp, hm, hwo⟩, fun qs => ?_, fun qs z => ?_⟩
    · rw [hwo]
      exact (if_pos rfl).symm
    · exact (decide_eq_false w_bn).symm
    · show false = !decide (("best" : Str) = "best"); rw [decide_eq_true rfl]; rfl
    · cases z; exact hk
    · show _ = (decide (Keeps t p qs) && (decide (("best" : Str) = "best") && PyData.eqv (dQ (innerR t.costs qs)) (dQ v)))
      rw [decide_eq_true (rfl : ("best" : Str) = "best"), Bool.true_and, eqv_dQ, Bool.eq_iff_iff, Bool.and_eq_true, decide_eq_true_iff, decide_eq_true_iff, decide_eq_true_iff]
      unfold BestP
      rw [hwo]
      exact ⟨fun z => ⟨z.1, (Option.some.inj z.2).symm⟩, fun z => ⟨z.1, by rw [z.2]⟩⟩
    · cases z
      refine (decide_eq_true ⟨hk, ?_⟩).trans (decide_eq_true rfl).symm
      rw [hwo, hi]
theorem div_bq {n : Nat} {zs : List Int} {low d : Int} (h : NumSz n low zs) (h0 : d ≠ 0) (hb : Bi 200 d) : (zs.map fun z => Rat.divInt z d).length = n ∧ ∀ q ∈ zs.map fun z => Rat.divInt z d, Bq 700 q := by
  refine ⟨by rw [List.length_map]; exact h.len, fun q hq => ?_⟩
  obtain ⟨z, hz, rfl⟩ := List.mem_map.mp hq
  exact (bq_divInt (k := 200) h0 ((h.b z hz).mono (by decide)) hb).mono (by decide)
theorem plan_bq {t : Tk} {p : Pl} {told : Told} (hp : PlOk p) (sz : ToldSz t.costs.length t.rows.length told) {qs : List Rat} (h : planQ p told = some qs) : qs.length = t.costs.length ∧ ∀ q ∈ qs, Bq 700 q := by
  obtain ⟨_, _, b3⟩ := pl_bi hp
  cases told with
  | none _ _ => cases h
  | endless plan low =>
    cases h
    exact div_bq sz (pl_low hp sz).1 ((sz.lb.mul b3).mono (by decide))
  | best plan paper low =>
    cases h
    exact div_bq sz.1 (pl_low hp sz.1).1 ((sz.1.lb.mul b3).mono (by decide))
theorem paper_bq {t : Tk} {told : Told} (sz : ToldSz t.costs.length t.rows.length told) {qs : List Rat} (h : paperQ told = some qs) : qs.length = t.rows.length ∧ ∀ q ∈ qs, Bq 700 q := by
  cases told with
  | none _ _ => cases h
  | endless plan low => cases h
  | best plan paper low =>
    cases h
    have := sz.2.lp
    exact div_bq sz.2 (by omega) (sz.2.lb.mono (by decide))
def drawM (ns : List Int) (big : Int) : Nat → Dr → List Rat × Dr
  | 0, st => ([], st)
  | n + 1, st =>
    let q := drawM ns big n st
    let a := takenM ns q.2 big
    let b := takenM ns a.2 2
    (q.1 ++ [Rat.divInt (a.1 - 1) (1 + b.1)], b.2)
theorem draw_ok {ns : List Int} {big : Int} (hb : 0 < big ∧ big < 10) : ∀ (n : Nat) {st : Dr}, DrOk st → DrOk (drawM ns big n st).2 ∧ (drawM ns big n st).1.length = n ∧ ∀ q ∈ (drawM ns big n st).1, Bq 700 q
  | 0, st, h => ⟨h, rfl, fun _ z => nomatch z⟩
  | n + 1, st, h => by
    obtain ⟨h1, h2, h3⟩ := draw_ok (ns := ns) hb n h
    have a1 := taken_rng (ns := ns) (st := (drawM ns big n st).2) (many := big) hb.1
    have k1 := taken_ok (ns := ns) (many := big) h1
    have a2 := taken_rng (ns := ns) (st := (takenM ns (drawM ns big n st).2 big).2) (many := 2) (by decide)
    refine ⟨taken_ok k1, ?_, fun q hq => ?_⟩
    · show ((drawM ns big n st).1 ++ [_]).length = n + 1
      rw [List.length_append, h2]
      rfl
    · have hq : q ∈ (drawM ns big n st).1 ++ [_] := hq
      rcases List.mem_append.mp hq with hq | hq
      · exact h3 q hq
      · rw [List.mem_singleton.mp hq]
        exact (bq_divInt (k := 5) (by omega) (show ((takenM ns (drawM ns big n st).2 big).1 - 1).natAbs < 2 ^ 5 by omega) (show (1 + (takenM ns (takenM ns (drawM ns big n st).2 big).2 2).1).natAbs < 2 ^ 5 by omega)).mono (by decide)
theorem dQs_app1 (xs : List Rat) (q : Rat) : dQs (xs ++ [q]) = dQs xs ++ [dQ q] := List.map_append ..
theorem shaped_due (due : Due) : SeqAt.shaped (dDue due) = true := by
  cases due with
  | none => show SeqAt.shaped (.str "none") = true; decide +kernel
  | endless => show SeqAt.shaped (.str "endless") = true; decide +kernel
  | worth q => exact shaped_dQ q
theorem sh_wordD (due : Due) : SeqAt.shaped (.str (wordD due)) = true := by
  cases due with
  | none => show SeqAt.shaped (.str "none") = true; decide +kernel
  | endless => show SeqAt.shaped (.str "endless") = true; decide +kernel
  | worth q => show SeqAt.shaped (.str "best") = true; decide +kernel
section
variable {P : Program} {w : World} {K : PySem.W.Frag} {mg : Str → Option Value} {base : Heap}
theorem ev_draw {δ : DEnv} {a : Addr} {ns : List Int} {st : Dr} {big : Int} {te : TE} {ds : List PyData} (hb : 0 < big ∧ big < 10) (ok : DrOk st) (hl : ns.length ≤ 63) (hd : ds.length ≤ 10) (h1 : δ[1]? = some (.mr a)) (hi : 12 < δ.length) (he : Ev K te δ (rowM a ns st) (Tp ds) (rowM a ns st)) :
    Ev K (tCB (rTupO K) (tCons (tLc (iTup K te) (gName 12) tYes (tCall (SpW K pre_law_fr) [] E0 (tCons (tOp (rI0 fun i j => V.int (i - j)) (tCall (SpW K pre_law_taken) [] E0 (tCons (tVar 1) (tCons (tC (.int big)) tNil))) (tC (.int 1))) (tCons (tOp (rAddA K) (tC (.int 1)) (tCall (SpW K pre_law_taken) [] E0 (tCons (tVar 1) (tCons (tC (.int 2)) tNil)))) tNil))) [12]) tNil)) δ (rowM a ns st)
      (Tp (dQs (drawM ns big ds.length st).1)) (rowM a ns (drawM ns big ds.length st).2) := by
  refine ev_cb (ea_cons ?_ ea_nil) rc_tupL
  have key := ev_lc (K := K) (δ := δ) (μ := rowM a ns st) (wi := iTup K te) (g := gName 12) (ix := [12]) (vs := [12]) (t := tYes)
    (te := tCall (SpW K pre_law_fr) [] E0 (tCons (tOp (rI0 fun i j => V.int (i - j)) (tCall (SpW K pre_law_taken) [] E0 (tCons (tVar 1) (tCons (tC (.int big)) tNil))) (tC (.int 1))) (tCons (tOp (rAddA K) (tC (.int 1)) (tCall (SpW K pre_law_taken) [] E0 (tCons (tVar 1) (tCons (tC (.int 2)) tNil)))) tNil)))
    (ei_tup he) (fun i => dQs (drawM ns big i st).1) (fun i => rowM a ns (drawM ns big i st).2) rfl rfl (by omega) (fun j h => h) (fun i d hd => by
      have q1 := (draw_ok (ns := ns) hb i ok).1
      have q2 := taken_ok (ns := ns) (many := big) q1
      have a1 := taken_rng (ns := ns) (st := (drawM ns big i st).2) (many := big) hb.1
      have a2 := taken_rng (ns := ns) (st := (takenM ns (drawM ns big i st).2 big).2) (many := 2) (by decide)
      have hv : ∀ x, ((wipeD δ [12]).set 12 (.im x))[1]? = some (.mr a) := fun x => by
        rw [List.getElem?_set_ne (by decide)]
        show ((wipeD δ []).set 12 .un)[1]? = _
        rw [List.getElem?_set_ne (by decide)]
        exact h1
      refine ⟨glin_nil, _, true, _, bnd_name, et_yes, fun _ => ⟨dQ (Rat.divInt ((takenM ns (drawM ns big i st).2 big).1 - 1) (1 + (takenM ns (takenM ns (drawM ns big i st).2 big).2 2).1)), ev_call0 (ea_cons (ev_op (ev_tk (ρ := []) (st := _) q1 hb.1 (by omega) hl (ev_varM (hv _)) ev_int) ev_int rv_sub)
        (ea_cons (ev_op ev_int (ev_tk (ρ := []) (st := _) q2 (by decide) (by decide) hl (ev_varM (hv _)) ev_int) rv_add) ea_nil)) ⟨_, _, rfl, rfl, by omega, Bi.mono (k := 8) (show ((takenM ns (drawM ns big i st).2 big).1 - 1).natAbs < 2 ^ 8 by omega) (by decide), Bi.mono (k := 8) (show (1 + (takenM ns (takenM ns (drawM ns big i st).2 big).2 2).1).natAbs < 2 ^ 8 by omega) (by decide), .inl (by omega), rfl⟩, ?_⟩, fun z => nomatch z⟩
      show dQs ((drawM ns big i st).1 ++ [_]) = _
      rw [dQs_app1]) glin_nil
  exact key
end
end WM

set_option Elab.async false
set_option linter.all false
set_option maxRecDepth 100000
set_option maxHeartbeats 4000000
namespace WM
open PySem PySem.Spec PyProof.Rows L2 StX
section
variable {P : Program} {w : World} {K : PySem.W.Frag} {mg : Str → Option Value} {base : Heap}
def pre_law : PreT := fun ss μ O => ∃ ns : List Int, ss = [.sc ns] ∧ μ = [] ∧ ns.length ≤ 63 ∧ O = Is (B true) []
theorem ok_law (hyp : ∀ t p, TkOk t → PlOk p → ∃ told, Runs t p told ∧ Agree t p (bestR t p) told) (T : Txt K mg) : FnOk P w K mg base CX0 (8 + 1) T.d_law.f T.d_law.fd P_law (SpW K pre_law) := by
  refine T.d_law.F.ok sc_law (sp_len fun ss μ O ⟨_, e, _⟩ => by rw [e]; rfl) (fun cdv A outer s H vs Q E hr h => ?_)
  refine ⟨_, (pss_cons (ps_set (i := 1) sc_law.nd rfl (.inr rfl) (pe_lst (pa_cons (pv 0) (pa_cons pe_int (pa_cons pe_int (pa_cons pe_int pa_nil))))) (hf := .inl rfl))
    (pss_cons (ps_set (i := 2) sc_law.nd rfl (.inl rfl) (pe_call (ok_law_task T) (hr.mono (by decide)) (by rfl) T.m_law_task T.d_law_task.F.kp T.d_law_task.b .nil pass0 (pa_cons (pv 1) (pa_cons pe_int (pa_cons pe_int (pa_cons pe_int pa_nil))))) (hf := .inr rfl))
    (pss_cons (ps_set (i := 3) sc_law.nd rfl (.inl rfl) (pe_call (ok_law_place T) (hr.mono (by decide)) (by rfl) T.m_law_place T.d_law_place.F.kp T.d_law_place.b .nil pass0 (pa_cons (pv 1) (pa_cons pe_int (pa_cons pe_int pa_nil)))) (hf := .inr rfl))
    (pss_cons (ps_set (i := 4) sc_law.nd rfl (.inl rfl) (pe_call (ok_law_best T) (hr.mono (by decide)) (by rfl) T.m_law_best T.d_law_best.F.kp T.d_law_best.b .nil pass0 (pa_cons (pv 2) (pa_cons (pv 3) pa_nil))) (hf := .inr rfl))
    (pss_cons (ps_set (i := 5) sc_law.nd rfl (.inl rfl) (pe_ifExp (pt_cmpR (k_inD (K := K) hr.units65 rfl) (pv 4) (pe_lst (pa_cons pe_str (pa_cons pe_str pa_nil))) (by rfl)) (pv 4) pe_str) (hf := .inr rfl))
    (pss_cons (ps_if (pt_not (pt_val (pe_call (ok_law_alike T) (hr.mono (by decide)) (by rfl) T.m_law_alike T.d_law_alike.F.kp T.d_law_alike.b .nil pass0 (pa_cons (pe_lst (pa_cons (pe_call (ok_ending_at T) (hr.mono (by decide)) (by rfl) T.m_ending_at T.d_ending_at.F.kp T.d_ending_at.b .nil pass0 (pa_cons (pv 2) (pa_cons (pv 3) pa_nil))) (pa_cons (pe_call (ok_worth_at T) (hr.mono (by decide)) (by rfl) T.m_worth_at T.d_worth_at.F.kp T.d_worth_at.b .nil pass0 (pa_cons (pv 2) (pa_cons (pv 3) pa_nil))) pa_nil))) (pa_cons (pe_lst (pa_cons (pv 5) (pa_cons (pe_ifExp (pt_cmpR (k_eqD (K := K) hr.units rfl) (pv 5) pe_str (nomark _)) (pv 4) pe_non) pa_nil))) pa_nil)))))
      (pss_one (ps_ret pe_bl))
      pss_nil)
    (pss_cons (ps_par (i := 10) (j := 11) rfl sc_law.nd rfl rfl (by decide) rfl rfl (pa_cons (pe_call (ok_some_plan T) (hr.mono (by decide)) (by rfl) T.m_some_plan T.d_some_plan.F.kp T.d_some_plan.b .nil pass0 (pa_cons (pv 2) (pa_cons (pv 3) pa_nil))) (pa_cons (pe_call (ok_some_paper T) (hr.mono (by decide)) (by rfl) T.m_some_paper T.d_some_paper.F.kp T.d_some_paper.b .nil pass0 (pa_cons (pv 2) (pa_cons (pv 3) pa_nil))) pa_nil)) (by rfl))
    (pss_cons (ps_if (PW.pt (pw_or (pt_cmpR (k_neD (K := K) hr.units rfl) (pe_cmpR op_isNn (pv 10) pe_non (nomark _)) (pe_cmpR (k_eqD (K := K) hr.units rfl) (pv 5) pe_str (nomark _)) (nomark _)) (pw_or1 (pt_cmpR (k_neD (K := K) hr.units rfl) (pe_cmpR op_isNn (pv 11) pe_non (nomark _)) (pe_cmpR (k_neD (K := K) hr.units rfl) (pv 5) pe_str (nomark _)) (nomark _)))))
      (pss_one (ps_ret pe_bl))
      pss_nil)
    (pss_cons (ps_if (PW.pt (pw_and (pt_cmpR op_notNn (pv 10) pe_non (nomark _)) (pw_and1 (PW.pt (pw_or (pt_cmpR (k_neD (K := K) hr.units rfl) (pe_callB (k_len (K := K) rfl) (by rfl) T.b_len (by decide +kernel) (pa_cons (pv 10) pa_nil)) (pe_callB (k_len (K := K) rfl) (by rfl) T.b_len (by decide +kernel) (pa_cons (pe_ix (k_ix (K := K) rfl) (pv 2) pe_int (fun _ _ => rfl)) pa_nil)) (nomark _)) (pw_or1 (pt_not (pt_val (pe_call (ok_law_keeps T) (hr.mono (by decide)) (by rfl) T.m_law_keeps T.d_law_keeps.F.kp T.d_law_keeps.b .nil pass0 (pa_cons (pv 2) (pa_cons (pv 3) (pa_cons (pv 10) pa_nil))))))))))))
      (pss_one (ps_ret pe_bl))
      pss_nil)
    (pss_cons (ps_if (pt_cmpR (k_eqD (K := K) hr.units rfl) (pv 5) pe_str (nomark _))
      (pss_cons (ps_if (PW.pt (pw_or (pt_cmpR (k_neD (K := K) hr.units rfl) (pe_call (ok_law_inner T) (hr.mono (by decide)) (by rfl) T.m_law_inner T.d_law_inner.F.kp T.d_law_inner.b .nil pass0 (pa_cons (pe_ix (k_ix (K := K) rfl) (pv 2) pe_int (fun _ _ => rfl)) (pa_cons (pv 10) pa_nil))) (pv 4) (nomark _)) (pw_or (pt_not (pt_val (pe_call (ok_law_pays T) (hr.mono (by decide)) (by rfl) T.m_law_pays T.d_law_pays.F.kp T.d_law_pays.b .nil pass0 (pa_cons (pv 2) (pa_cons (pv 11) pa_nil))))) (pw_or1 (pt_cmpR (k_neD (K := K) hr.units rfl) (pe_call (ok_law_promise T) (hr.mono (by decide)) (by rfl) T.m_law_promise T.d_law_promise.F.kp T.d_law_promise.b .nil pass0 (pa_cons (pv 2) (pa_cons (pv 3) (pa_cons (pv 11) pa_nil)))) (pv 4) (nomark _))))))
        (pss_one (ps_ret pe_bl))
        pss_nil)
      (pss_one (ps_if (PW.pt (pw_or (pt_cmpR op_notBl (pe_call (ok_shows_worth T) (hr.mono (by decide)) (by rfl) T.m_shows_worth T.d_shows_worth.F.kp T.d_shows_worth.b .nil pass0 (pa_cons (pv 2) (pa_cons (pv 3) (pa_cons (pv 10) (pa_cons (pv 11) pa_nil))))) pe_bl (nomark _)) (pw_or1 (pt_cmpR op_notBl (pe_call (ok_is_best_plan T) (hr.mono (by decide)) (by rfl) T.m_is_best_plan T.d_is_best_plan.F.kp T.d_is_best_plan.b .nil pass0 (pa_cons (pv 2) (pa_cons (pv 3) (pa_cons (pv 10) pa_nil)))) pe_bl (nomark _)))))
        (pss_one (ps_ret pe_bl))
        pss_nil)))
      pss_nil)
    (pss_cons (ps_set (i := 6) sc_law.nd rfl (.inl rfl) (pe_callTy (k_tuple (K := K) rfl) (by rfl) T.b_tuple (by decide +kernel) (pa_cons (pe_lc (own := [("_law_one", 12)]) rfl sc_law.nd (k_piT (K := K) rfl (pe_ix (k_ix (K := K) rfl) (pv 2) pe_int (fun _ _ => rfl))) (blkOk_by (N := N_law) (sc := defScope s_law) (by decide +kernel)) (fun _ _ _ _ _ => (pg_name (i := 12) sc_law.nd rfl (.inl rfl) (.inr rfl))) (fun _ _ _ _ _ => pts_nil) (fun _ _ _ _ _ => (pe_call (ok_law_fr T) (hr.mono (by decide)) (by rfl) T.m_law_fr T.d_law_fr.F.kp T.d_law_fr.b .nil pass0 (pa_cons (pe_op op_sub (pe_call (ok_law_taken T) (hr.mono (by decide)) (by rfl) T.m_law_taken T.d_law_taken.F.kp T.d_law_taken.b .nil pass0 (pa_cons (pv 1) (pa_cons pe_int pa_nil))) pe_int) (pa_cons (pe_op (k_add (K := K) rfl) pe_int (pe_call (ok_law_taken T) (hr.mono (by decide)) (by rfl) T.m_law_taken T.d_law_taken.F.kp T.d_law_taken.b .nil pass0 (pa_cons (pv 1) (pa_cons pe_int pa_nil)))) pa_nil))))) pa_nil)) (hf := .inr rfl))
    (pss_cons (ps_set (i := 7) sc_law.nd rfl (.inl rfl) (pe_callTy (k_tuple (K := K) rfl) (by rfl) T.b_tuple (by decide +kernel) (pa_cons (pe_lc (own := [("_law_one", 12)]) rfl sc_law.nd (k_piT (K := K) rfl (pe_ix (k_ix (K := K) rfl) (pv 2) pe_int (fun _ _ => rfl))) (blkOk_by (N := N_law) (sc := defScope s_law) (by decide +kernel)) (fun _ _ _ _ _ => (pg_name (i := 12) sc_law.nd rfl (.inl rfl) (.inr rfl))) (fun _ _ _ _ _ => pts_nil) (fun _ _ _ _ _ => (pe_call (ok_law_fr T) (hr.mono (by decide)) (by rfl) T.m_law_fr T.d_law_fr.F.kp T.d_law_fr.b .nil pass0 (pa_cons (pe_op op_sub (pe_call (ok_law_taken T) (hr.mono (by decide)) (by rfl) T.m_law_taken T.d_law_taken.F.kp T.d_law_taken.b .nil pass0 (pa_cons (pv 1) (pa_cons pe_int pa_nil))) pe_int) (pa_cons (pe_op (k_add (K := K) rfl) pe_int (pe_call (ok_law_taken T) (hr.mono (by decide)) (by rfl) T.m_law_taken T.d_law_taken.F.kp T.d_law_taken.b .nil pass0 (pa_cons (pv 1) (pa_cons pe_int pa_nil)))) pa_nil))))) pa_nil)) (hf := .inr rfl))
    (pss_cons (ps_set (i := 8) sc_law.nd rfl (.inl rfl) (pe_call (ok_law_keeps T) (hr.mono (by decide)) (by rfl) T.m_law_keeps T.d_law_keeps.F.kp T.d_law_keeps.b .nil pass0 (pa_cons (pv 2) (pa_cons (pv 3) (pa_cons (pv 6) pa_nil)))) (hf := .inr rfl))
    (pss_cons (ps_if (pt_not (pt_val (pe_call (ok_law_is T) (hr.mono (by decide)) (by rfl) T.m_law_is T.d_law_is.F.kp T.d_law_is.b .nil pass0 (pa_cons (pe_call (ok_is_best_plan T) (hr.mono (by decide)) (by rfl) T.m_is_best_plan T.d_is_best_plan.F.kp T.d_is_best_plan.b .nil pass0 (pa_cons (pv 2) (pa_cons (pv 3) (pa_cons (pv 6) pa_nil)))) (pa_cons (pe_and (pv 8) (pe_and (pe_cmpR (k_eqD (K := K) hr.units rfl) (pv 5) pe_str (nomark _)) (pe_one (pe_cmpR (k_eqD (K := K) hr.units rfl) (pe_call (ok_law_inner T) (hr.mono (by decide)) (by rfl) T.m_law_inner T.d_law_inner.F.kp T.d_law_inner.b .nil pass0 (pa_cons (pe_ix (k_ix (K := K) rfl) (pv 2) pe_int (fun _ _ => rfl)) (pa_cons (pv 6) pa_nil))) (pv 4) (nomark _))))) pa_nil)))))
      (pss_one (ps_ret pe_bl))
      pss_nil)
    (pss_cons (ps_if (PW.pt (pw_and (pt_cmpR op_notNn (pv 10) pe_non (nomark _)) (pw_and1 (pt_not (pt_val (pe_call (ok_law_is T) (hr.mono (by decide)) (by rfl) T.m_law_is T.d_law_is.F.kp T.d_law_is.b .nil pass0 (pa_cons (pe_call (ok_is_best_plan T) (hr.mono (by decide)) (by rfl) T.m_is_best_plan T.d_is_best_plan.F.kp T.d_is_best_plan.b .nil pass0 (pa_cons (pv 2) (pa_cons (pv 3) (pa_cons (pv 10) pa_nil)))) (pa_cons (pe_cmpR (k_eqD (K := K) hr.units rfl) (pv 5) pe_str (nomark _)) pa_nil))))))))
      (pss_one (ps_ret pe_bl))
      pss_nil)
    (pss_cons (ps_set (i := 9) sc_law.nd rfl (.inl rfl) (pe_and (pv 8) (pe_and (pe_call (ok_law_pays T) (hr.mono (by decide)) (by rfl) T.m_law_pays T.d_law_pays.F.kp T.d_law_pays.b .nil pass0 (pa_cons (pv 2) (pa_cons (pv 7) pa_nil))) (pe_one (pe_cmpR (k_eqD (K := K) hr.units rfl) (pe_call (ok_law_inner T) (hr.mono (by decide)) (by rfl) T.m_law_inner T.d_law_inner.F.kp T.d_law_inner.b .nil pass0 (pa_cons (pe_ix (k_ix (K := K) rfl) (pv 2) pe_int (fun _ _ => rfl)) (pa_cons (pv 6) pa_nil))) (pe_call (ok_law_promise T) (hr.mono (by decide)) (by rfl) T.m_law_promise T.d_law_promise.F.kp T.d_law_promise.b .nil pass0 (pa_cons (pv 2) (pa_cons (pv 3) (pa_cons (pv 7) pa_nil)))) (nomark _))))) (hf := .inr rfl))
    (pss_one (ps_ret (pe_call (ok_law_is T) (hr.mono (by decide)) (by rfl) T.m_law_is T.d_law_is.F.kp T.d_law_is.b .nil pass0 (pa_cons (pe_call (ok_shows_worth T) (hr.mono (by decide)) (by rfl) T.m_shows_worth T.d_shows_worth.F.kp T.d_shows_worth.b .nil pass0 (pa_cons (pv 2) (pa_cons (pv 3) (pa_cons (pv 6) (pa_cons (pv 7) pa_nil))))) (pa_cons (pv 9) pa_nil))))))))))))))))))))), ?_⟩
  refine fin h fun ss μ O ⟨ns, e1, e2, hl, e3⟩ => ?_
  subst e1 e2 e3
  have d0 : DrOk (0, 5605, 0) := ⟨by decide, by decide, by decide⟩
  refine q_setF (xs := rowD ns (0, 5605, 0)) (μ1 := []) 1 (ef_lst (ea_cons (ev_var rfl (fun z => nomatch z)) (ea_cons ev_int (ea_cons ev_int (ea_cons ev_int ea_nil)))) (show 4 ≤ 100000 by decide)) fun a => ?_
  obtain ⟨ht, d1⟩ := task_ok (ns := ns) d0
  obtain ⟨hp, d2⟩ := place_ok (ns := ns) d1
  refine q_set (s := .im (dTask (taskM ns (0, 5605, 0)).1)) (μ1 := rowM a ns (taskM ns (0, 5605, 0)).2) (ev_call (rel := rowM a ns (0, 5605, 0)) (rel' := rowM a ns (taskM ns (0, 5605, 0)).2) (ρ := []) (ea_cons (ev_varM rfl) (ea_cons ev_int (ea_cons ev_int (ea_cons ev_int ea_nil)))) ⟨a, ns, _, rfl, rfl, d0, hl, rfl⟩) ?_
  generalize (taskM ns (0, 5605, 0)).2 = s1 at d1 d2 hp
  generalize (taskM ns (0, 5605, 0)).1 = t at ht
  refine q_set (s := .im (dPl (placeM ns s1).1)) (μ1 := rowM a ns (placeM ns s1).2) (ev_call (rel := rowM a ns s1) (rel' := rowM a ns (placeM ns s1).2) (ρ := []) (ea_cons (ev_varM rfl) (ea_cons ev_int (ea_cons ev_int ea_nil))) ⟨a, ns, _, rfl, rfl, d1, hl, rfl⟩) ?_
  generalize (placeM ns s1).2 = s2 at d2
  generalize (placeM ns s1).1 = p at hp
  obtain ⟨told, run, agree⟩ := hyp t p ht hp
  have agr := agree.agr
  have sz := runs_sz ht hp run
  have hw := ht.wide
  have hh := ht.high
  refine q_set (s := .im (dDue (bestR t p))) (ev_call0 (ea_cons (ev_varI rfl) (ea_cons (ev_varI rfl) ea_nil)) ⟨t, p, rfl, rfl, ht, hp, rfl⟩) ?_
  generalize bestR t p = due at agr
  have hwd := agr.wd
  have shW : SeqAt.shaped (.str (wordD due)) = true := sh_wordD due
  have shD := shaped_due due
  have shN : SeqAt.shaped (.str "none") = true := by decide +kernel
  have shB : SeqAt.shaped (.str "best") = true := by decide +kernel
  -- the word
  refine q_set (s := .im (.str (wordD due))) (μ1 := rowM a ns s2) (ev_if (c := [PyData.str "none", PyData.str "endless"].any fun z => PyData.eqv z (dDue due)) (et_op (ev_varI rfl) (ev_lst (ds := [.str "none", .str "endless"]) (ea_cons ev_str (ea_cons ev_str ea_nil)) (by simp)) (rv_in shD (show SeqAt.shaped (.list [.str "none", .str "endless"]) = true by decide +kernel))) (fun hc => ?_) (fun hc => ?_)) ?_
  · cases due with
    | none => exact ev_varI rfl
    | endless => exact ev_varI rfl
    | worth q =>
      refine absurd hc ?_
      show ¬ ((PyData.eqv (.str "none") (dQ q) || (PyData.eqv (.str "endless") (dQ q) || false)) = true)
      unfold dQ
      simp [PyData.eqv]
  · cases due with
    | none =>
      refine absurd hc ?_
      show ¬ ((PyData.eqv (.str "none") (.str "none") || (PyData.eqv (.str "endless") (.str "none") || false)) = false)
      rw [eqv_str, decide_eq_true rfl, Bool.true_or]
      decide
    | endless =>
      refine absurd hc ?_
      show ¬ ((PyData.eqv (.str "none") (.str "endless") || (PyData.eqv (.str "endless") (.str "endless") || false)) = false)
      rw [eqv_str ("endless" : Str) "endless", decide_eq_true rfl, Bool.true_or, Bool.or_true]
      decide
    | worth q => exact ev_str
  -- ending and worth
  refine t_no (et_not (c := true) (et_val (ev_call0 (ea_cons (s := Ls [.str (wordD due), dOQ (worthQ t p told)]) (μ1 := rowM a ns s2) (ev_lst (ds := [.str (wordD due), dOQ (worthQ t p told)]) (ea_cons (ev_call0 (s := .im (.str (wordD due))) (ea_cons (ev_varI rfl) (ea_cons (ev_varI rfl) ea_nil)) ⟨t, p, told, rfl, rfl, ht, hp, run, by rw [hwd]⟩) (ea_cons (ev_call0 (ea_cons (ev_varI rfl) (ea_cons (ev_varI rfl) ea_nil)) ⟨t, p, told, rfl, rfl, ht, hp, run, rfl⟩) ea_nil)) (by simp))
    (ea_cons (s := Ls [.str (wordD due), dOQ (worthQ t p told)]) (μ1 := rowM a ns s2) (ev_lst (ds := [.str (wordD due), dOQ (worthQ t p told)]) (ea_cons (ev_varI rfl) (ea_cons (ev_if (c := decide (wordD due = "best")) (et_op (ev_varI rfl) ev_str (rv_eqS shW shB)) (fun hc => ?_) (fun hc => ?_)) ea_nil)) (by simp)) ea_nil)) ⟨_, rfl, rfl, ⟨by simp, fun d hd => ?_⟩, rfl⟩))) ?_
  · rw [agr.wo, if_pos (of_decide_eq_true hc)]
    exact ev_varI rfl
  · rw [agr.wo, if_neg (of_decide_eq_false hc)]
    exact ev_non
  · simp only [List.mem_cons, List.not_mem_nil, or_false] at hd
    rcases hd with rfl | rfl
    · exact shW
    · cases worthQ t p told with
      | none => trivial
      | some q =>
        refine ⟨by simp, fun d hd => ?_⟩
        simp only [List.mem_cons, List.not_mem_nil, or_false] at hd
        rcases hd with rfl | rfl <;> trivial
  -- the plan and the paper
  refine q_par (x := .im (dOL (planQ p told))) (y := .im (dOL (paperQ told))) (ea_cons (ev_call0 (ea_cons (ev_varI rfl) (ea_cons (ev_varI rfl) ea_nil)) ⟨t, p, told, rfl, rfl, ht, hp, run, rfl⟩) (ea_cons (ev_call0 (ea_cons (ev_varI rfl) (ea_cons (ev_varI rfl) ea_nil)) ⟨t, p, told, rfl, rfl, ht, hp, run, rfl⟩) ea_nil)) ?_
  refine t_no (μ1 := rowM a ns s2) (et_or (c := false) (d := false) ?_ fun _ => ?_) ?_
  · have := et_op (K := K) (δ := [.sc ns, .mr a, .im (dTask t), .im (dPl p), .im (dDue due), .im (.str (wordD due)), .un, .un, .un, .un, .im (dOL (planQ p told)), .im (dOL (paperQ told)), .un]) (μ := rowM a ns s2) (ev_op (ev_varI (i := 10) rfl) ev_non rv_isN) (ev_op (ev_varI (i := 5) rfl) (ev_str (i := "none")) (rv_eqS shW shN)) (by rw [agr.pn]; exact rv_neB)
    exact this
  · have := et_op (K := K) (δ := [.sc ns, .mr a, .im (dTask t), .im (dPl p), .im (dDue due), .im (.str (wordD due)), .un, .un, .un, .un, .im (dOL (planQ p told)), .im (dOL (paperQ told)), .un]) (μ := rowM a ns s2) (ev_op (ev_varI (i := 11) rfl) ev_non rv_isN) (ev_op (ev_varI (i := 5) rfl) (ev_str (i := "best")) (rv_neS shW shB)) (by rw [agr.yn]; exact rv_neB)
    exact this
  -- the plan keeps
  have hplan : ∀ qs, planQ p told = some qs → qs.length = t.costs.length ∧ ∀ q ∈ qs, Bq 700 q := fun qs h => plan_bq hp sz h
  have hpaper : ∀ qs, paperQ told = some qs → qs.length = t.rows.length ∧ ∀ q ∈ qs, Bq 700 q := fun qs h => paper_bq sz h
  have costE : ∀ {δ : DEnv} {μ : Mu}, δ[2]? = some (.im (dTask t)) → Ev K (tOp (rIx K) (tVar 2) (tC (.int 0))) δ μ (Tp (iD t.costs)) μ := fun h => ev_op (ev_varI h) ev_int (rv_ixT (d := .tuple (iD t.costs)) rfl)
  have chk1 : EvT K (tAnd (tTest (tOp rNotNn (tVar 10) (tC .non))) (tOr (tTest (tOp (rNeD K) (tCB (rLenQ K) (tCons (tVar 10) tNil)) (tCB (rLenQ K) (tCons (tOp (rIx K) (tVar 2) (tC (.int 0))) tNil)))) (tNot (tB (tCall (SpW K pre_law_keeps) [] E0 (tCons (tVar 2) (tCons (tVar 3) (tCons (tVar 10) tNil))))))))
      [.sc ns, .mr a, .im (dTask t), .im (dPl p), .im (dDue due), .im (.str (wordD due)), .un, .un, .un, .un, .im (dOL (planQ p told)), .im (dOL (paperQ told)), .un] (rowM a ns s2) false (rowM a ns s2) := by
    have hk := agr.keep
    generalize planQ p told = PQ at hplan hk
    cases PQ with
    | none => exact et_and (c := false) (d := false) (et_op (ev_varI rfl) ev_non rv_notN) fun z => nomatch z
    | some qs =>
      obtain ⟨l1, b1⟩ := hplan qs rfl
      have hk1 := hk qs rfl
      refine et_and (c := true) (d := false) (et_op (ev_varI rfl) ev_non rv_notN) fun _ => et_or (c := false) (d := false) ?_ fun _ => et_not (c := true) (et_val ?_)
      · have := et_op (K := K) (δ := [.sc ns, .mr a, .im (dTask t), .im (dPl p), .im (dDue due), .im (.str (wordD due)), .un, .un, .un, .un, Tp (dQs qs), .im (dOL (paperQ told)), .un]) (μ := rowM a ns s2) (ev_cb (ea_cons (ev_varI (i := 10) rfl) ea_nil) rc_lenT) (ev_cb (ea_cons (costE rfl) ea_nil) rc_lenT) rv_neI
        rw [dQs_len, iD_len, l1, decide_eq_true rfl] at this
        exact this
      · have := ev_call0 (K := K) (E := E0) (δ := [.sc ns, .mr a, .im (dTask t), .im (dPl p), .im (dDue due), .im (.str (wordD due)), .un, .un, .un, .un, Tp (dQs qs), .im (dOL (paperQ told)), .un]) (μ := rowM a ns s2) (μ1 := rowM a ns s2) (Pre := pre_law_keeps) (s := B (decide (Keeps t p qs))) (ea_cons (ev_varI (i := 2) rfl) (ea_cons (ev_varI (i := 3) rfl) (ea_cons (ev_varI (i := 10) rfl) ea_nil))) ⟨t, p, qs, rfl, rfl, ht, hp, l1, b1, rfl⟩
        rw [decide_eq_true hk1] at this
        exact this
  refine t_no chk1 ?_
  -- where the word is best
  refine t_seq (M := At [.sc ns, .mr a, .im (dTask t), .im (dPl p), .im (dDue due), .im (.str (wordD due)), .un, .un, .un, .un, .im (dOL (planQ p told)), .im (dOL (paperQ told)), .un] (rowM a ns s2)) (t_if (b := decide (wordD due = "best")) (et_op (ev_varI rfl) ev_str (rv_eqS shW shB)) (fun hc => ?_) (fun _ => t_next ⟨rfl, rfl⟩)) fun x y ⟨e1, e2⟩ => ?_
  · obtain ⟨qs, ys, v, g1, g2, g3, g4, g5, g6, g7⟩ := agr.bst (of_decide_eq_true hc)
    obtain ⟨l1, b1⟩ := hplan qs g1
    obtain ⟨l2, b2⟩ := hpaper ys g2
    have hbq := agr.bq qs g1
    have hk := agr.keep qs g1
    rw [hc] at hbq
    rw [g1, g2, g3]
    clear chk1 hc
    have hbest : BestP t p told qs := of_decide_eq_true hbq
    have hshow : ShowsW t p qs ys := ⟨hk, g5, by rw [g4, g6]⟩
    refine t_no (μ1 := rowM a ns s2) (et_or (c := false) (d := false) ?_ fun _ => et_or (c := false) (d := false) ?_ fun _ => ?_) ?_
    · have := et_op (K := K) (δ := [.sc ns, .mr a, .im (dTask t), .im (dPl p), .im (dQ v), .im (.str (wordD (.worth v))), .un, .un, .un, .un, Tp (dQs qs), Tp (dQs ys), .un]) (μ := rowM a ns s2) (ev_call0 (E := E0) (Pre := pre_law_inner) (s := .im (dQ (innerR t.costs qs))) (ea_cons (costE rfl) (ea_cons (ev_varI (i := 10) rfl) ea_nil)) ⟨t.costs, qs, _, _, rfl, seq_t, seq_t, rfl, by omega, by omega, ht.cost8, b1, rfl⟩) (ev_varI (i := 4) rfl) (rv_ne (shaped_dQ _) (shaped_dQ _))
      rw [eqv_dQ, g4, decide_eq_true rfl] at this
      exact this
    · have := ev_call0 (K := K) (E := E0) (δ := [.sc ns, .mr a, .im (dTask t), .im (dPl p), .im (dQ v), .im (.str (wordD (.worth v))), .un, .un, .un, .un, Tp (dQs qs), Tp (dQs ys), .un]) (μ := rowM a ns s2) (μ1 := rowM a ns s2) (Pre := pre_law_pays) (s := B (decide (Pays t ys))) (ea_cons (ev_varI (i := 2) rfl) (ea_cons (ev_varI (i := 11) rfl) ea_nil)) ⟨t, ys, rfl, rfl, ht, l2, b2, rfl⟩
      rw [decide_eq_true g5] at this
      exact et_not (c := true) (et_val this)
    · have := et_op (K := K) (δ := [.sc ns, .mr a, .im (dTask t), .im (dPl p), .im (dQ v), .im (.str (wordD (.worth v))), .un, .un, .un, .un, Tp (dQs qs), Tp (dQs ys), .un]) (μ := rowM a ns s2) (ev_call0 (E := E0) (Pre := pre_law_promise) (s := .im (dQ (promR t p ys))) (ea_cons (ev_varI (i := 2) rfl) (ea_cons (ev_varI (i := 3) rfl) (ea_cons (ev_varI (i := 11) rfl) ea_nil))) ⟨t, p, ys, rfl, rfl, ht, hp, l2, b2, rfl⟩) (ev_varI (i := 4) rfl) (rv_ne (shaped_dQ _) (shaped_dQ _))
      rw [eqv_dQ, g6, decide_eq_true rfl] at this
      exact this
    refine t_no1 (μ1 := rowM a ns s2) (et_or (c := false) (d := false) ?_ fun _ => ?_) ⟨rfl, rfl⟩
    · have := et_op (K := K) (δ := [.sc ns, .mr a, .im (dTask t), .im (dPl p), .im (dQ v), .im (.str (wordD (.worth v))), .un, .un, .un, .un, Tp (dQs qs), Tp (dQs ys), .un]) (μ := rowM a ns s2) (ev_call0 (E := E0) (Pre := pre_shows_worth) (s := B (decide (ShowsW t p qs ys))) (ea_cons (ev_varI (i := 2) rfl) (ea_cons (ev_varI (i := 3) rfl) (ea_cons (ev_varI (i := 10) rfl) (ea_cons (ev_varI (i := 11) rfl) ea_nil)))) ⟨t, p, qs, ys, rfl, rfl, ht, hp, l1, b1, l2, b2, rfl⟩) (ev_bl (i := true)) rv_notB
      rw [decide_eq_true hshow] at this
      exact this
    · have := et_op (K := K) (δ := [.sc ns, .mr a, .im (dTask t), .im (dPl p), .im (dQ v), .im (.str (wordD (.worth v))), .un, .un, .un, .un, Tp (dQs qs), Tp (dQs ys), .un]) (μ := rowM a ns s2) (ev_call0 (E := E0) (Pre := pre_is_best_plan) (s := B (decide (BestP t p told qs))) (ea_cons (ev_varI (i := 2) rfl) (ea_cons (ev_varI (i := 3) rfl) (ea_cons (ev_varI (i := 10) rfl) ea_nil))) ⟨t, p, told, qs, rfl, rfl, ht, hp, run, l1, b1, rfl⟩) (ev_bl (i := true)) rv_notB
      rw [decide_eq_true hbest] at this
      exact this
  subst e1 e2
  -- the drawn ones
  have dl : (iD t.costs).length = t.costs.length := iD_len _
  obtain ⟨d3, l3, b3⟩ := draw_ok (ns := ns) (big := 6) ⟨by decide, by decide⟩ t.costs.length d2
  refine q_set (s := Tp (dQs (drawM ns 6 t.costs.length s2).1)) (μ1 := rowM a ns (drawM ns 6 t.costs.length s2).2) ?_ ?_
  · have := ev_draw (K := K) (δ := [.sc ns, .mr a, .im (dTask t), .im (dPl p), .im (dDue due), .im (.str (wordD due)), .un, .un, .un, .un, .im (dOL (planQ p told)), .im (dOL (paperQ told)), .un]) (big := 6) (ds := iD t.costs) ⟨by decide, by decide⟩ d2 hl (by omega) rfl (show 12 < 13 by decide) (costE rfl)
    rw [dl] at this
    exact this
  generalize (drawM ns 6 t.costs.length s2).1 = qs at l3 b3
  generalize (drawM ns 6 t.costs.length s2).2 = s3 at d3
  obtain ⟨d4, l4, b4⟩ := draw_ok (ns := ns) (big := 4) ⟨by decide, by decide⟩ t.rows.length d3
  refine q_set (s := Tp (dQs (drawM ns 4 t.rows.length s3).1)) (μ1 := rowM a ns (drawM ns 4 t.rows.length s3).2) ?_ ?_
  · have := ev_draw (K := K) (δ := [.sc ns, .mr a, .im (dTask t), .im (dPl p), .im (dDue due), .im (.str (wordD due)), Tp (dQs qs), .un, .un, .un, .im (dOL (planQ p told)), .im (dOL (paperQ told)), .un]) (te := tOp (rIx K) (tVar 2) (tC (.int 1))) (big := 4) (ds := t.rows.map dRow) ⟨by decide, by decide⟩ d3 hl (by rw [List.length_map]; omega) rfl (show 12 < 13 by decide) (ev_op (ev_varI rfl) ev_int (rv_ixT (d := .tuple (t.rows.map dRow)) rfl))
    rw [List.length_map] at this
    exact this
  generalize (drawM ns 4 t.rows.length s3).1 = ys at l4 b4
  generalize (drawM ns 4 t.rows.length s3).2 = s4 at d4
  refine q_set (s := B (decide (Keeps t p qs))) (ev_call0 (ea_cons (ev_varI rfl) (ea_cons (ev_varI rfl) (ea_cons (ev_varI rfl) ea_nil))) ⟨t, p, qs, rfl, rfl, ht, hp, l3, b3, rfl⟩) ?_
  have innE : ∀ {δ : DEnv} {μ : Mu}, δ[2]? = some (.im (dTask t)) → δ[6]? = some (Tp (dQs qs)) → Ev K (tCall (SpW K pre_law_inner) [] E0 (tCons (tOp (rIx K) (tVar 2) (tC (.int 0))) (tCons (tVar 6) tNil))) δ μ (.im (dQ (innerR t.costs qs))) μ := fun h2 h6 =>
    ev_call0 (ea_cons (costE h2) (ea_cons (ev_varI h6) ea_nil)) ⟨t.costs, qs, _, _, rfl, seq_t, seq_t, rfl, by omega, by omega, ht.cost8, b3, rfl⟩
  have hbp := agr.bp qs
  refine t_no (μ1 := rowM a ns s4) (et_not (c := true) (et_val ?_)) ?_
  · have := ev_call0 (K := K) (E := E0) (δ := [.sc ns, .mr a, .im (dTask t), .im (dPl p), .im (dDue due), .im (.str (wordD due)), Tp (dQs qs), Tp (dQs ys), B (decide (Keeps t p qs)), .un, .im (dOL (planQ p told)), .im (dOL (paperQ told)), .un]) (μ := rowM a ns s4) (μ1 := rowM a ns s4) (Pre := pre_law_is) (s := B (decide (BestP t p told qs) == (decide (Keeps t p qs) && (decide (wordD due = "best") && PyData.eqv (dQ (innerR t.costs qs)) (dDue due)))))
      (ea_cons (ev_call0 (E := E0) (Pre := pre_is_best_plan) (ea_cons (ev_varI (i := 2) rfl) (ea_cons (ev_varI (i := 3) rfl) (ea_cons (ev_varI (i := 6) rfl) ea_nil))) ⟨t, p, told, qs, rfl, rfl, ht, hp, run, l3, b3, rfl⟩)
        (ea_cons (ev_andV (ev_varI (i := 8) rfl) fun _ => ev_andV (ev_op (ev_varI (i := 5) rfl) (ev_str (i := "best")) (rv_eqS shW shB)) fun _ => ev_op (innE rfl rfl) (ev_varI (i := 4) rfl) (rv_eq (shaped_dQ _) shD)) ea_nil)) ⟨_, _, rfl, rfl, rfl⟩
    rw [hbp, beq_self_eq_true] at this
    exact this
  have chk2 : EvT K (tAnd (tTest (tOp rNotNn (tVar 10) (tC .non))) (tNot (tB (tCall (SpW K pre_law_is) [] E0 (tCons (tCall (SpW K pre_is_best_plan) [] E0 (tCons (tVar 2) (tCons (tVar 3) (tCons (tVar 10) tNil)))) (tCons (tOp (rEqD K) (tVar 5) (tC (.str "best"))) tNil))))))
      [.sc ns, .mr a, .im (dTask t), .im (dPl p), .im (dDue due), .im (.str (wordD due)), Tp (dQs qs), Tp (dQs ys), B (decide (Keeps t p qs)), .un, .im (dOL (planQ p told)), .im (dOL (paperQ told)), .un] (rowM a ns s4) false (rowM a ns s4) := by
    have hk := agr.bq
    generalize planQ p told = PQ at hplan hk
    cases PQ with
    | none => exact et_and (c := false) (d := false) (et_op (ev_varI rfl) ev_non rv_notN) fun z => nomatch z
    | some q2 =>
      obtain ⟨l1, b1⟩ := hplan q2 rfl
      have hk1 := hk q2 rfl
      refine et_and (c := true) (d := false) (et_op (ev_varI rfl) ev_non rv_notN) fun _ => et_not (c := true) (et_val ?_)
      have := ev_call0 (K := K) (E := E0) (δ := [.sc ns, .mr a, .im (dTask t), .im (dPl p), .im (dDue due), .im (.str (wordD due)), Tp (dQs qs), Tp (dQs ys), B (decide (Keeps t p qs)), .un, Tp (dQs q2), .im (dOL (paperQ told)), .un]) (μ := rowM a ns s4) (μ1 := rowM a ns s4) (Pre := pre_law_is) (s := B (decide (BestP t p told q2) == decide (wordD due = "best")))
        (ea_cons (ev_call0 (E := E0) (Pre := pre_is_best_plan) (ea_cons (ev_varI (i := 2) rfl) (ea_cons (ev_varI (i := 3) rfl) (ea_cons (ev_varI (i := 10) rfl) ea_nil))) ⟨t, p, told, q2, rfl, rfl, ht, hp, run, l1, b1, rfl⟩)
          (ea_cons (ev_op (ev_varI (i := 5) rfl) (ev_str (i := "best")) (rv_eqS shW shB)) ea_nil)) ⟨_, _, rfl, rfl, rfl⟩
      rw [hk1, beq_self_eq_true] at this
      exact this
  refine t_no chk2 ?_
  refine q_set (s := B (decide (ShowsW t p qs ys))) (μ1 := rowM a ns s4) ?_ ?_
  · have := ev_andV (K := K) (δ := [.sc ns, .mr a, .im (dTask t), .im (dPl p), .im (dDue due), .im (.str (wordD due)), Tp (dQs qs), Tp (dQs ys), B (decide (Keeps t p qs)), .un, .im (dOL (planQ p told)), .im (dOL (paperQ told)), .un]) (μ := rowM a ns s4) (ev_varI (i := 8) rfl) fun _ => ev_andV (ev_call0 (E := E0) (Pre := pre_law_pays) (ea_cons (ev_varI (i := 2) rfl) (ea_cons (ev_varI (i := 7) rfl) ea_nil)) ⟨t, ys, rfl, rfl, ht, l4, b4, rfl⟩) fun _ =>
      ev_op (innE rfl rfl) (ev_call0 (E := E0) (Pre := pre_law_promise) (s := .im (dQ (promR t p ys))) (ea_cons (ev_varI (i := 2) rfl) (ea_cons (ev_varI (i := 3) rfl) (ea_cons (ev_varI (i := 7) rfl) ea_nil))) ⟨t, p, ys, rfl, rfl, ht, hp, l4, b4, rfl⟩) (rv_eq (shaped_dQ _) (shaped_dQ _))
    have e : (decide (Keeps t p qs) && (decide (Pays t ys) && PyData.eqv (dQ (innerR t.costs qs)) (dQ (promR t p ys)))) = decide (ShowsW t p qs ys) := by
      rw [eqv_dQ, Bool.eq_iff_iff, Bool.and_eq_true, Bool.and_eq_true, decide_eq_true_iff, decide_eq_true_iff, decide_eq_true_iff, decide_eq_true_iff]
      exact Iff.rfl
    rw [e] at this
    exact this
  have := ev_call0 (K := K) (E := E0) (δ := [.sc ns, .mr a, .im (dTask t), .im (dPl p), .im (dDue due), .im (.str (wordD due)), Tp (dQs qs), Tp (dQs ys), B (decide (Keeps t p qs)), B (decide (ShowsW t p qs ys)), .im (dOL (planQ p told)), .im (dOL (paperQ told)), .un]) (μ := rowM a ns s4) (μ1 := rowM a ns s4) (Pre := pre_law_is) (s := B (decide (ShowsW t p qs ys) == decide (ShowsW t p qs ys)))
    (ea_cons (ev_call0 (E := E0) (Pre := pre_shows_worth) (ea_cons (ev_varI (i := 2) rfl) (ea_cons (ev_varI (i := 3) rfl) (ea_cons (ev_varI (i := 6) rfl) (ea_cons (ev_varI (i := 7) rfl) ea_nil)))) ⟨t, p, qs, ys, rfl, rfl, ht, hp, l3, b3, l4, b4, rfl⟩) (ea_cons (ev_varI (i := 9) rfl) ea_nil)) ⟨_, _, rfl, rfl, rfl⟩
  rw [beq_self_eq_true] at this
  exact t_ret this ⟨rfl, List.nil_sublist _⟩
end
end WM

set_option Elab.async false
set_option linter.all false
set_option maxRecDepth 100000
set_option maxHeartbeats 4000000
namespace WM
open PySem PySem.Spec PyProof.Rows L2 StX
theorem all_mk (hyp : ∀ t p, TkOk t → PlOk p → ∃ told, Runs t p told ∧ Agree t p (bestR t p) told) {l : PySem.W.OpenLaw} {w : World} {K : PySem.W.Frag} {h : Heap} {mg : Str → Option Value} {fa C : Addr} {f0 f1 f2 f3 f4 f5 f6 f7 f8 f9 f10 f11 f12 f13 f14 f15 f16 f17 f18 f19 f20 f21 f22 f23 f24 f25 f26 f27 f28 f29 f30 f31 f32 f33 f34 f35 f36 f37 f38 f39 f40 f41 f42 f43 f44 f45 f46 f47 f48 f49 f50 f51 f52 f53 f54 f55 : Addr} (X : K.In h) (G : h.Ns mainGlobals mg) (hfa : mg "law" = some (.ref fa))
    {od0 an0 od1 an1 od2 an2 od3 an3 od4 an4 od5 an5 od6 an6 od7 an7 od8 an8 od9 an9 od10 an10 od11 an11 od12 an12 od13 an13 od14 an14 od15 an15 od16 an16 od17 an17 od18 an18 od19 an19 od20 an20 od21 an21 od22 an22 od23 an23 od24 an24 od25 an25 od26 an26 od27 an27 od28 an28 od29 an29 od30 an30 od31 an31 od32 an32 od33 an33 od34 an34 od35 an35 od36 an36 od37 an37 od38 an38 od39 an39 od40 an40 od41 an41 od42 an42 od43 an43 od44 an44 od45 an45 od46 an46 od47 an47 od48 an48 od49 an49 od50 an50 od51 an51 od52 an52 od53 an53 od54 an54 od55 an55 : Option Addr} {sl0 sl1 sl2 sl3 sl4 sl5 sl6 sl7 sl8 sl9 sl10 sl11 sl12 sl13 sl14 sl15 sl16 sl17 sl18 sl19 sl20 sl21 sl22 sl23 sl24 sl25 sl26 sl27 sl28 sl29 sl30 sl31 sl32 sl33 sl34 sl35 sl36 sl37 sl38 sl39 sl40 sl41 sl42 sl43 sl44 sl45 sl46 sl47 sl48 sl49 sl50 sl51 sl52 sl53 sl54 sl55 : Array (Option Value)}
    {oc0 kV0 dc0 pm0 cd0 ct0 oc1 kV1 dc1 pm1 cd1 ct1 oc2 kV2 dc2 pm2 cd2 ct2 oc3 kV3 dc3 pm3 cd3 ct3 oc4 kV4 dc4 pm4 cd4 ct4 oc5 kV5 dc5 pm5 cd5 ct5 oc6 kV6 dc6 pm6 cd6 ct6 oc7 kV7 dc7 pm7 cd7 ct7 oc8 kV8 dc8 pm8 cd8 ct8 oc9 kV9 dc9 pm9 cd9 ct9 oc10 kV10 dc10 pm10 cd10 ct10 oc11 kV11 dc11 pm11 cd11 ct11 oc12 kV12 dc12 pm12 cd12 ct12 oc13 kV13 dc13 pm13 cd13 ct13 oc14 kV14 dc14 pm14 cd14 ct14 oc15 kV15 dc15 pm15 cd15 ct15 oc16 kV16 dc16 pm16 cd16 ct16 oc17 kV17 dc17 pm17 cd17 ct17 oc18 kV18 dc18 pm18 cd18 ct18 oc19 kV19 dc19 pm19 cd19 ct19 oc20 kV20 dc20 pm20 cd20 ct20 oc21 kV21 dc21 pm21 cd21 ct21 oc22 kV22 dc22 pm22 cd22 ct22 oc23 kV23 dc23 pm23 cd23 ct23 oc24 kV24 dc24 pm24 cd24 ct24 oc25 kV25 dc25 pm25 cd25 ct25 oc26 kV26 dc26 pm26 cd26 ct26 oc27 kV27 dc27 pm27 cd27 ct27 oc28 kV28 dc28 pm28 cd28 ct28 oc29 kV29 dc29 pm29 cd29 ct29 oc30 kV30 dc30 pm30 cd30 ct30 oc31 kV31 dc31 pm31 cd31 ct31 oc32 kV32 dc32 pm32 cd32 ct32 oc33 kV33 dc33 pm33 cd33 ct33 oc34 kV34 dc34 pm34 cd34 ct34 oc35 kV35 dc35 pm35 cd35 ct35 oc36 kV36 dc36 pm36 cd36 ct36 oc37 kV37 dc37 pm37 cd37 ct37 oc38 kV38 dc38 pm38 cd38 ct38 oc39 kV39 dc39 pm39 cd39 ct39 oc40 kV40 dc40 pm40 cd40 ct40 oc41 kV41 dc41 pm41 cd41 ct41 oc42 kV42 dc42 pm42 cd42 ct42 oc43 kV43 dc43 pm43 cd43 ct43 oc44 kV44 dc44 pm44 cd44 ct44 oc45 kV45 dc45 pm45 cd45 ct45 oc46 kV46 dc46 pm46 cd46 ct46 oc47 kV47 dc47 pm47 cd47 ct47 oc48 kV48 dc48 pm48 cd48 ct48 oc49 kV49 dc49 pm49 cd49 ct49 oc50 kV50 dc50 pm50 cd50 ct50 oc51 kV51 dc51 pm51 cd51 ct51 oc52 kV52 dc52 pm52 cd52 ct52 oc53 kV53 dc53 pm53 cd53 ct53 oc54 kV54 dc54 pm54 cd54 ct54 oc55 kV55 dc55 pm55 cd55 ct55 : Value}
    {tk0 tk1 tk2 : Tok}
    (a0 : PySem.W.nsIn K mainGlobals "is_int" = some (some (.ref f0)))
    (l0 : K.lookup f0 = some ⟨oc0, od0, .func (PySem.W.fnOf "is_int" "is_int" (defArgs s_is_int) (defBody s_is_int) (defScope s_is_int) .none kV0 dc0 pm0 an0 cd0 ct0), sl0⟩) (c0 : PySem.W.codeIn K cd0 "is_int" = true) (k0 : PySem.W.keepIn K (.ref f0) = true)
    (a1 : PySem.W.nsIn K mainGlobals "greatest_part" = some (some (.ref f1)))
    (l1 : K.lookup f1 = some ⟨oc1, od1, .func (PySem.W.fnOf "greatest_part" "greatest_part" (defArgs s_greatest_part) (defBody s_greatest_part) (defScope s_greatest_part) .none kV1 dc1 pm1 an1 cd1 ct1), sl1⟩) (c1 : PySem.W.codeIn K cd1 "greatest_part" = true) (k1 : PySem.W.keepIn K (.ref f1) = true)
    (a2 : PySem.W.nsIn K mainGlobals "reduced" = some (some (.ref f2)))
    (l2 : K.lookup f2 = some ⟨oc2, od2, .func (PySem.W.fnOf "reduced" "reduced" (defArgs s_reduced) (defBody s_reduced) (defScope s_reduced) .none kV2 dc2 pm2 an2 cd2 ct2), sl2⟩) (c2 : PySem.W.codeIn K cd2 "reduced" = true) (k2 : PySem.W.keepIn K (.ref f2) = true)
    (a3 : PySem.W.nsIn K mainGlobals "fraction" = some (some (.ref f3)))
    (l3 : K.lookup f3 = some ⟨oc3, od3, .func (PySem.W.fnOf "fraction" "fraction" (defArgs s_fraction) (defBody s_fraction) (defScope s_fraction) .none kV3 dc3 pm3 an3 cd3 ct3), sl3⟩) (c3 : PySem.W.codeIn K cd3 "fraction" = true) (k3 : PySem.W.keepIn K (.ref f3) = true)
    (a4 : PySem.W.nsIn K mainGlobals "is_fraction" = some (some (.ref f4)))
    (l4 : K.lookup f4 = some ⟨oc4, od4, .func (PySem.W.fnOf "is_fraction" "is_fraction" (defArgs s_is_fraction) (defBody s_is_fraction) (defScope s_is_fraction) .none kV4 dc4 pm4 an4 cd4 ct4), sl4⟩) (c4 : PySem.W.codeIn K cd4 "is_fraction" = true) (k4 : PySem.W.keepIn K (.ref f4) = true)
    (a5 : PySem.W.nsIn K mainGlobals "inner" = some (some (.ref f5)))
    (l5 : K.lookup f5 = some ⟨oc5, od5, .func (PySem.W.fnOf "inner" "inner" (defArgs s_inner) (defBody s_inner) (defScope s_inner) .none kV5 dc5 pm5 an5 cd5 ct5), sl5⟩) (c5 : PySem.W.codeIn K cd5 "inner" = true) (k5 : PySem.W.keepIn K (.ref f5) = true)
    (a6 : PySem.W.nsIn K mainGlobals "need_place" = some (some (.ref f6)))
    (l6 : K.lookup f6 = some ⟨oc6, od6, .func (PySem.W.fnOf "need_place" "need_place" (defArgs s_need_place) (defBody s_need_place) (defScope s_need_place) .none kV6 dc6 pm6 an6 cd6 ct6), sl6⟩) (c6 : PySem.W.codeIn K cd6 "need_place" = true) (k6 : PySem.W.keepIn K (.ref f6) = true)
    (a7 : PySem.W.findIn K (.ref C) "__init__" = some (some (.ref f7))) (i7 : PySem.W.isFn K (.ref f7) = true)
    (l7 : K.lookup f7 = some ⟨oc7, od7, .func (PySem.W.fnOf "__init__" "Table.__init__" (defArgs s_Table_init) (defBody s_Table_init) (defScope s_Table_init) .none kV7 dc7 pm7 an7 cd7 ct7), sl7⟩) (c7 : PySem.W.codeIn K cd7 "Table.__init__" = true) (k7 : PySem.W.keepIn K (.ref f7) = true)
    (a8 : PySem.W.findIn K (.ref C) "weigh" = some (some (.ref f8))) (i8 : PySem.W.isFn K (.ref f8) = true)
    (l8 : K.lookup f8 = some ⟨oc8, od8, .func (PySem.W.fnOf "weigh" "Table.weigh" (defArgs s_Table_weigh) (defBody s_Table_weigh) (defScope s_Table_weigh) .none kV8 dc8 pm8 an8 cd8 ct8), sl8⟩) (c8 : PySem.W.codeIn K cd8 "Table.weigh" = true) (k8 : PySem.W.keepIn K (.ref f8) = true)
    (a9 : PySem.W.findIn K (.ref C) "change" = some (some (.ref f9))) (i9 : PySem.W.isFn K (.ref f9) = true)
    (l9 : K.lookup f9 = some ⟨oc9, od9, .func (PySem.W.fnOf "change" "Table.change" (defArgs s_Table_change) (defBody s_Table_change) (defScope s_Table_change) .none kV9 dc9 pm9 an9 cd9 ct9), sl9⟩) (c9 : PySem.W.codeIn K cd9 "Table.change" = true) (k9 : PySem.W.keepIn K (.ref f9) = true)
    (a10 : PySem.W.findIn K (.ref C) "cleared" = some (some (.ref f10))) (i10 : PySem.W.isFn K (.ref f10) = true)
    (l10 : K.lookup f10 = some ⟨oc10, od10, .func (PySem.W.fnOf "cleared" "Table.cleared" (defArgs s_Table_cleared) (defBody s_Table_cleared) (defScope s_Table_cleared) .none kV10 dc10 pm10 an10 cd10 ct10), sl10⟩) (c10 : PySem.W.codeIn K cd10 "Table.cleared" = true) (k10 : PySem.W.keepIn K (.ref f10) = true)
    (a11 : PySem.W.findIn K (.ref C) "going" = some (some (.ref f11))) (i11 : PySem.W.isFn K (.ref f11) = true)
    (l11 : K.lookup f11 = some ⟨oc11, od11, .func (PySem.W.fnOf "going" "Table.going" (defArgs s_Table_going) (defBody s_Table_going) (defScope s_Table_going) .none kV11 dc11 pm11 an11 cd11 ct11), sl11⟩) (c11 : PySem.W.codeIn K cd11 "Table.going" = true) (k11 : PySem.W.keepIn K (.ref f11) = true)
    (a12 : PySem.W.findIn K (.ref C) "is_sooner" = some (some (.ref f12))) (i12 : PySem.W.isFn K (.ref f12) = true)
    (l12 : K.lookup f12 = some ⟨oc12, od12, .func (PySem.W.fnOf "is_sooner" "Table.is_sooner" (defArgs s_Table_is_sooner) (defBody s_Table_is_sooner) (defScope s_Table_is_sooner) .none kV12 dc12 pm12 an12 cd12 ct12), sl12⟩) (c12 : PySem.W.codeIn K cd12 "Table.is_sooner" = true) (k12 : PySem.W.keepIn K (.ref f12) = true)
    (a13 : PySem.W.findIn K (.ref C) "descend" = some (some (.ref f13))) (i13 : PySem.W.isFn K (.ref f13) = true)
    (l13 : K.lookup f13 = some ⟨oc13, od13, .func (PySem.W.fnOf "descend" "Table.descend" (defArgs s_Table_descend) (defBody s_Table_descend) (defScope s_Table_descend) .none kV13 dc13 pm13 an13 cd13 ct13), sl13⟩) (c13 : PySem.W.codeIn K cd13 "Table.descend" = true) (k13 : PySem.W.keepIn K (.ref f13) = true)
    (a14 : PySem.W.findIn K (.ref C) "plan" = some (some (.ref f14))) (i14 : PySem.W.isFn K (.ref f14) = true)
    (l14 : K.lookup f14 = some ⟨oc14, od14, .func (PySem.W.fnOf "plan" "Table.plan" (defArgs s_Table_plan) (defBody s_Table_plan) (defScope s_Table_plan) .none kV14 dc14 pm14 an14 cd14 ct14), sl14⟩) (c14 : PySem.W.codeIn K cd14 "Table.plan" = true) (k14 : PySem.W.keepIn K (.ref f14) = true)
    (a15 : PySem.W.findIn K (.ref C) "paper" = some (some (.ref f15))) (i15 : PySem.W.isFn K (.ref f15) = true)
    (l15 : K.lookup f15 = some ⟨oc15, od15, .func (PySem.W.fnOf "paper" "Table.paper" (defArgs s_Table_paper) (defBody s_Table_paper) (defScope s_Table_paper) .none kV15 dc15 pm15 an15 cd15 ct15), sl15⟩) (c15 : PySem.W.codeIn K cd15 "Table.paper" = true) (k15 : PySem.W.keepIn K (.ref f15) = true)
    (a16 : PySem.W.findIn K (.ref C) "clear_base" = some (some (.ref f16))) (i16 : PySem.W.isFn K (.ref f16) = true)
    (l16 : K.lookup f16 = some ⟨oc16, od16, .func (PySem.W.fnOf "clear_base" "Table.clear_base" (defArgs s_Table_clear_base) (defBody s_Table_clear_base) (defScope s_Table_clear_base) .none kV16 dc16 pm16 an16 cd16 ct16), sl16⟩) (c16 : PySem.W.codeIn K cd16 "Table.clear_base" = true) (k16 : PySem.W.keepIn K (.ref f16) = true)
    (a17 : PySem.W.nsIn K mainGlobals "solved" = some (some (.ref f17)))
    (l17 : K.lookup f17 = some ⟨oc17, od17, .func (PySem.W.fnOf "solved" "solved" (defArgs s_solved) (defBody s_solved) (defScope s_solved) .none kV17 dc17 pm17 an17 cd17 ct17), sl17⟩) (c17 : PySem.W.codeIn K cd17 "solved" = true) (k17 : PySem.W.keepIn K (.ref f17) = true)
    (a18 : PySem.W.nsIn K mainGlobals "is_small" = some (some (.ref f18)))
    (l18 : K.lookup f18 = some ⟨oc18, od18, .func (PySem.W.fnOf "is_small" "is_small" (defArgs s_is_small) (defBody s_is_small) (defScope s_is_small) .none kV18 dc18 pm18 an18 cd18 ct18), sl18⟩) (c18 : PySem.W.codeIn K cd18 "is_small" = true) (k18 : PySem.W.keepIn K (.ref f18) = true)
    (a19 : PySem.W.nsIn K mainGlobals "need_task" = some (some (.ref f19)))
    (l19 : K.lookup f19 = some ⟨oc19, od19, .func (PySem.W.fnOf "need_task" "need_task" (defArgs s_need_task) (defBody s_need_task) (defScope s_need_task) .none kV19 dc19 pm19 an19 cd19 ct19), sl19⟩) (c19 : PySem.W.codeIn K cd19 "need_task" = true) (k19 : PySem.W.keepIn K (.ref f19) = true)
    (a20 : PySem.W.nsIn K mainGlobals "is_task_row" = some (some (.ref f20)))
    (l20 : K.lookup f20 = some ⟨oc20, od20, .func (PySem.W.fnOf "is_task_row" "is_task_row" (defArgs s_is_task_row) (defBody s_is_task_row) (defScope s_is_task_row) .none kV20 dc20 pm20 an20 cd20 ct20), sl20⟩) (c20 : PySem.W.codeIn K cd20 "is_task_row" = true) (k20 : PySem.W.keepIn K (.ref f20) = true)
    (a21 : PySem.W.nsIn K mainGlobals "rights_at" = some (some (.ref f21)))
    (l21 : K.lookup f21 = some ⟨oc21, od21, .func (PySem.W.fnOf "rights_at" "rights_at" (defArgs s_rights_at) (defBody s_rights_at) (defScope s_rights_at) .none kV21 dc21 pm21 an21 cd21 ct21), sl21⟩) (c21 : PySem.W.codeIn K cd21 "rights_at" = true) (k21 : PySem.W.keepIn K (.ref f21) = true)
    (a22 : PySem.W.nsIn K mainGlobals "whole_place" = some (some (.ref f22)))
    (l22 : K.lookup f22 = some ⟨oc22, od22, .func (PySem.W.fnOf "whole_place" "whole_place" (defArgs s_whole_place) (defBody s_whole_place) (defScope s_whole_place) .none kV22 dc22 pm22 an22 cd22 ct22), sl22⟩) (c22 : PySem.W.codeIn K cd22 "whole_place" = true) (k22 : PySem.W.keepIn K (.ref f22) = true)
    (a23 : PySem.W.nsIn K mainGlobals "solved_at" = some (some (.ref f23)))
    (l23 : K.lookup f23 = some ⟨oc23, od23, .func (PySem.W.fnOf "solved_at" "solved_at" (defArgs s_solved_at) (defBody s_solved_at) (defScope s_solved_at) .none kV23 dc23 pm23 an23 cd23 ct23), sl23⟩) (c23 : PySem.W.codeIn K cd23 "solved_at" = true) (k23 : PySem.W.keepIn K (.ref f23) = true)
    (a24 : PySem.W.nsIn K mainGlobals "need_both" = some (some (.ref f24)))
    (l24 : K.lookup f24 = some ⟨oc24, od24, .func (PySem.W.fnOf "need_both" "need_both" (defArgs s_need_both) (defBody s_need_both) (defScope s_need_both) .none kV24 dc24 pm24 an24 cd24 ct24), sl24⟩) (c24 : PySem.W.codeIn K cd24 "need_both" = true) (k24 : PySem.W.keepIn K (.ref f24) = true)
    (a25 : PySem.W.nsIn K mainGlobals "ending_at" = some (some (.ref f25)))
    (l25 : K.lookup f25 = some ⟨oc25, od25, .func (PySem.W.fnOf "ending_at" "ending_at" (defArgs s_ending_at) (defBody s_ending_at) (defScope s_ending_at) .none kV25 dc25 pm25 an25 cd25 ct25), sl25⟩) (c25 : PySem.W.codeIn K cd25 "ending_at" = true) (k25 : PySem.W.keepIn K (.ref f25) = true)
    (a26 : PySem.W.nsIn K mainGlobals "worth_at" = some (some (.ref f26)))
    (l26 : K.lookup f26 = some ⟨oc26, od26, .func (PySem.W.fnOf "worth_at" "worth_at" (defArgs s_worth_at) (defBody s_worth_at) (defScope s_worth_at) .none kV26 dc26 pm26 an26 cd26 ct26), sl26⟩) (c26 : PySem.W.codeIn K cd26 "worth_at" = true) (k26 : PySem.W.keepIn K (.ref f26) = true)
    (a27 : PySem.W.nsIn K mainGlobals "some_plan" = some (some (.ref f27)))
    (l27 : K.lookup f27 = some ⟨oc27, od27, .func (PySem.W.fnOf "some_plan" "some_plan" (defArgs s_some_plan) (defBody s_some_plan) (defScope s_some_plan) .none kV27 dc27 pm27 an27 cd27 ct27), sl27⟩) (c27 : PySem.W.codeIn K cd27 "some_plan" = true) (k27 : PySem.W.keepIn K (.ref f27) = true)
    (a28 : PySem.W.nsIn K mainGlobals "some_paper" = some (some (.ref f28)))
    (l28 : K.lookup f28 = some ⟨oc28, od28, .func (PySem.W.fnOf "some_paper" "some_paper" (defArgs s_some_paper) (defBody s_some_paper) (defScope s_some_paper) .none kV28 dc28 pm28 an28 cd28 ct28), sl28⟩) (c28 : PySem.W.codeIn K cd28 "some_paper" = true) (k28 : PySem.W.keepIn K (.ref f28) = true)
    (a29 : PySem.W.nsIn K mainGlobals "need_fractions" = some (some (.ref f29)))
    (l29 : K.lookup f29 = some ⟨oc29, od29, .func (PySem.W.fnOf "need_fractions" "need_fractions" (defArgs s_need_fractions) (defBody s_need_fractions) (defScope s_need_fractions) .none kV29 dc29 pm29 an29 cd29 ct29), sl29⟩) (c29 : PySem.W.codeIn K cd29 "need_fractions" = true) (k29 : PySem.W.keepIn K (.ref f29) = true)
    (a30 : PySem.W.nsIn K mainGlobals "whole" = some (some (.ref f30)))
    (l30 : K.lookup f30 = some ⟨oc30, od30, .func (PySem.W.fnOf "whole" "whole" (defArgs s_whole) (defBody s_whole) (defScope s_whole) .none kV30 dc30 pm30 an30 cd30 ct30), sl30⟩) (c30 : PySem.W.codeIn K cd30 "whole" = true) (k30 : PySem.W.keepIn K (.ref f30) = true)
    (a31 : PySem.W.nsIn K mainGlobals "is_paper_of" = some (some (.ref f31)))
    (l31 : K.lookup f31 = some ⟨oc31, od31, .func (PySem.W.fnOf "is_paper_of" "is_paper_of" (defArgs s_is_paper_of) (defBody s_is_paper_of) (defScope s_is_paper_of) .none kV31 dc31 pm31 an31 cd31 ct31), sl31⟩) (c31 : PySem.W.codeIn K cd31 "is_paper_of" = true) (k31 : PySem.W.keepIn K (.ref f31) = true)
    (a32 : PySem.W.nsIn K mainGlobals "is_plan_of" = some (some (.ref f32)))
    (l32 : K.lookup f32 = some ⟨oc32, od32, .func (PySem.W.fnOf "is_plan_of" "is_plan_of" (defArgs s_is_plan_of) (defBody s_is_plan_of) (defScope s_is_plan_of) .none kV32 dc32 pm32 an32 cd32 ct32), sl32⟩) (c32 : PySem.W.codeIn K cd32 "is_plan_of" = true) (k32 : PySem.W.keepIn K (.ref f32) = true)
    (a33 : PySem.W.nsIn K mainGlobals "shows_worth" = some (some (.ref f33)))
    (l33 : K.lookup f33 = some ⟨oc33, od33, .func (PySem.W.fnOf "shows_worth" "shows_worth" (defArgs s_shows_worth) (defBody s_shows_worth) (defScope s_shows_worth) .none kV33 dc33 pm33 an33 cd33 ct33), sl33⟩) (c33 : PySem.W.codeIn K cd33 "shows_worth" = true) (k33 : PySem.W.keepIn K (.ref f33) = true)
    (a34 : PySem.W.nsIn K mainGlobals "is_best_plan" = some (some (.ref f34)))
    (l34 : K.lookup f34 = some ⟨oc34, od34, .func (PySem.W.fnOf "is_best_plan" "is_best_plan" (defArgs s_is_best_plan) (defBody s_is_best_plan) (defScope s_is_best_plan) .none kV34 dc34 pm34 an34 cd34 ct34), sl34⟩) (c34 : PySem.W.codeIn K cd34 "is_best_plan" = true) (k34 : PySem.W.keepIn K (.ref f34) = true)
    (a35 : PySem.W.nsIn K mainGlobals "_law_taken" = some (some (.ref f35)))
    (l35 : K.lookup f35 = some ⟨oc35, od35, .func (PySem.W.fnOf "_law_taken" "_law_taken" (defArgs s_law_taken) (defBody s_law_taken) (defScope s_law_taken) .none kV35 dc35 pm35 an35 cd35 ct35), sl35⟩) (c35 : PySem.W.codeIn K cd35 "_law_taken" = true) (k35 : PySem.W.keepIn K (.ref f35) = true)
    (a36 : PySem.W.nsIn K mainGlobals "_law_alike" = some (some (.ref f36)))
    (l36 : K.lookup f36 = some ⟨oc36, od36, .func (PySem.W.fnOf "_law_alike" "_law_alike" (defArgs s_law_alike) (defBody s_law_alike) (defScope s_law_alike) .none kV36 dc36 pm36 an36 cd36 ct36), sl36⟩) (c36 : PySem.W.codeIn K cd36 "_law_alike" = true) (k36 : PySem.W.keepIn K (.ref f36) = true)
    (a37 : PySem.W.nsIn K mainGlobals "_law_is" = some (some (.ref f37)))
    (l37 : K.lookup f37 = some ⟨oc37, od37, .func (PySem.W.fnOf "_law_is" "_law_is" (defArgs s_law_is) (defBody s_law_is) (defScope s_law_is) .none kV37 dc37 pm37 an37 cd37 ct37), sl37⟩) (c37 : PySem.W.codeIn K cd37 "_law_is" = true) (k37 : PySem.W.keepIn K (.ref f37) = true)
    (a38 : PySem.W.nsIn K mainGlobals "_law_fr" = some (some (.ref f38)))
    (l38 : K.lookup f38 = some ⟨oc38, od38, .func (PySem.W.fnOf "_law_fr" "_law_fr" (defArgs s_law_fr) (defBody s_law_fr) (defScope s_law_fr) .none kV38 dc38 pm38 an38 cd38 ct38), sl38⟩) (c38 : PySem.W.codeIn K cd38 "_law_fr" = true) (k38 : PySem.W.keepIn K (.ref f38) = true)
    (a39 : PySem.W.nsIn K mainGlobals "_law_plus" = some (some (.ref f39)))
    (l39 : K.lookup f39 = some ⟨oc39, od39, .func (PySem.W.fnOf "_law_plus" "_law_plus" (defArgs s_law_plus) (defBody s_law_plus) (defScope s_law_plus) .none kV39 dc39 pm39 an39 cd39 ct39), sl39⟩) (c39 : PySem.W.codeIn K cd39 "_law_plus" = true) (k39 : PySem.W.keepIn K (.ref f39) = true)
    (a40 : PySem.W.nsIn K mainGlobals "_law_times" = some (some (.ref f40)))
    (l40 : K.lookup f40 = some ⟨oc40, od40, .func (PySem.W.fnOf "_law_times" "_law_times" (defArgs s_law_times) (defBody s_law_times) (defScope s_law_times) .none kV40 dc40 pm40 an40 cd40 ct40), sl40⟩) (c40 : PySem.W.codeIn K cd40 "_law_times" = true) (k40 : PySem.W.keepIn K (.ref f40) = true)
    (a41 : PySem.W.nsIn K mainGlobals "_law_below" = some (some (.ref f41)))
    (l41 : K.lookup f41 = some ⟨oc41, od41, .func (PySem.W.fnOf "_law_below" "_law_below" (defArgs s_law_below) (defBody s_law_below) (defScope s_law_below) .none kV41 dc41 pm41 an41 cd41 ct41), sl41⟩) (c41 : PySem.W.codeIn K cd41 "_law_below" = true) (k41 : PySem.W.keepIn K (.ref f41) = true)
    (a42 : PySem.W.nsIn K mainGlobals "_law_at" = some (some (.ref f42)))
    (l42 : K.lookup f42 = some ⟨oc42, od42, .func (PySem.W.fnOf "_law_at" "_law_at" (defArgs s_law_at) (defBody s_law_at) (defScope s_law_at) .none kV42 dc42 pm42 an42 cd42 ct42), sl42⟩) (c42 : PySem.W.codeIn K cd42 "_law_at" = true) (k42 : PySem.W.keepIn K (.ref f42) = true)
    (a43 : PySem.W.nsIn K mainGlobals "_law_number" = some (some (.ref f43)))
    (l43 : K.lookup f43 = some ⟨oc43, od43, .func (PySem.W.fnOf "_law_number" "_law_number" (defArgs s_law_number) (defBody s_law_number) (defScope s_law_number) .none kV43 dc43 pm43 an43 cd43 ct43), sl43⟩) (c43 : PySem.W.codeIn K cd43 "_law_number" = true) (k43 : PySem.W.keepIn K (.ref f43) = true)
    (a44 : PySem.W.nsIn K mainGlobals "_law_solved" = some (some (.ref f44)))
    (l44 : K.lookup f44 = some ⟨oc44, od44, .func (PySem.W.fnOf "_law_solved" "_law_solved" (defArgs s_law_solved) (defBody s_law_solved) (defScope s_law_solved) .none kV44 dc44 pm44 an44 cd44 ct44), sl44⟩) (c44 : PySem.W.codeIn K cd44 "_law_solved" = true) (k44 : PySem.W.keepIn K (.ref f44) = true)
    (a45 : PySem.W.nsIn K mainGlobals "_law_lots" = some (some (.ref f45)))
    (l45 : K.lookup f45 = some ⟨oc45, od45, .func (PySem.W.fnOf "_law_lots" "_law_lots" (defArgs s_law_lots) (defBody s_law_lots) (defScope s_law_lots) .none kV45 dc45 pm45 an45 cd45 ct45), sl45⟩) (c45 : PySem.W.codeIn K cd45 "_law_lots" = true) (k45 : PySem.W.keepIn K (.ref f45) = true)
    (a46 : PySem.W.nsIn K mainGlobals "_law_inner" = some (some (.ref f46)))
    (l46 : K.lookup f46 = some ⟨oc46, od46, .func (PySem.W.fnOf "_law_inner" "_law_inner" (defArgs s_law_inner) (defBody s_law_inner) (defScope s_law_inner) .none kV46 dc46 pm46 an46 cd46 ct46), sl46⟩) (c46 : PySem.W.codeIn K cd46 "_law_inner" = true) (k46 : PySem.W.keepIn K (.ref f46) = true)
    (a47 : PySem.W.nsIn K mainGlobals "_law_corners" = some (some (.ref f47)))
    (l47 : K.lookup f47 = some ⟨oc47, od47, .func (PySem.W.fnOf "_law_corners" "_law_corners" (defArgs s_law_corners) (defBody s_law_corners) (defScope s_law_corners) .none kV47 dc47 pm47 an47 cd47 ct47), sl47⟩) (c47 : PySem.W.codeIn K cd47 "_law_corners" = true) (k47 : PySem.W.keepIn K (.ref f47) = true)
    (a48 : PySem.W.nsIn K mainGlobals "_law_task" = some (some (.ref f48)))
    (l48 : K.lookup f48 = some ⟨oc48, od48, .func (PySem.W.fnOf "_law_task" "_law_task" (defArgs s_law_task) (defBody s_law_task) (defScope s_law_task) .none kV48 dc48 pm48 an48 cd48 ct48), sl48⟩) (c48 : PySem.W.codeIn K cd48 "_law_task" = true) (k48 : PySem.W.keepIn K (.ref f48) = true)
    (a49 : PySem.W.nsIn K mainGlobals "_law_rights" = some (some (.ref f49)))
    (l49 : K.lookup f49 = some ⟨oc49, od49, .func (PySem.W.fnOf "_law_rights" "_law_rights" (defArgs s_law_rights) (defBody s_law_rights) (defScope s_law_rights) .none kV49 dc49 pm49 an49 cd49 ct49), sl49⟩) (c49 : PySem.W.codeIn K cd49 "_law_rights" = true) (k49 : PySem.W.keepIn K (.ref f49) = true)
    (a50 : PySem.W.nsIn K mainGlobals "_law_best" = some (some (.ref f50)))
    (l50 : K.lookup f50 = some ⟨oc50, od50, .func (PySem.W.fnOf "_law_best" "_law_best" (defArgs s_law_best) (defBody s_law_best) (defScope s_law_best) .none kV50 dc50 pm50 an50 cd50 ct50), sl50⟩) (c50 : PySem.W.codeIn K cd50 "_law_best" = true) (k50 : PySem.W.keepIn K (.ref f50) = true)
    (a51 : PySem.W.nsIn K mainGlobals "_law_place" = some (some (.ref f51)))
    (l51 : K.lookup f51 = some ⟨oc51, od51, .func (PySem.W.fnOf "_law_place" "_law_place" (defArgs s_law_place) (defBody s_law_place) (defScope s_law_place) .none kV51 dc51 pm51 an51 cd51 ct51), sl51⟩) (c51 : PySem.W.codeIn K cd51 "_law_place" = true) (k51 : PySem.W.keepIn K (.ref f51) = true)
    (a52 : PySem.W.nsIn K mainGlobals "_law_keeps" = some (some (.ref f52)))
    (l52 : K.lookup f52 = some ⟨oc52, od52, .func (PySem.W.fnOf "_law_keeps" "_law_keeps" (defArgs s_law_keeps) (defBody s_law_keeps) (defScope s_law_keeps) .none kV52 dc52 pm52 an52 cd52 ct52), sl52⟩) (c52 : PySem.W.codeIn K cd52 "_law_keeps" = true) (k52 : PySem.W.keepIn K (.ref f52) = true)
    (a53 : PySem.W.nsIn K mainGlobals "_law_pays" = some (some (.ref f53)))
    (l53 : K.lookup f53 = some ⟨oc53, od53, .func (PySem.W.fnOf "_law_pays" "_law_pays" (defArgs s_law_pays) (defBody s_law_pays) (defScope s_law_pays) .none kV53 dc53 pm53 an53 cd53 ct53), sl53⟩) (c53 : PySem.W.codeIn K cd53 "_law_pays" = true) (k53 : PySem.W.keepIn K (.ref f53) = true)
    (a54 : PySem.W.nsIn K mainGlobals "_law_promise" = some (some (.ref f54)))
    (l54 : K.lookup f54 = some ⟨oc54, od54, .func (PySem.W.fnOf "_law_promise" "_law_promise" (defArgs s_law_promise) (defBody s_law_promise) (defScope s_law_promise) .none kV54 dc54 pm54 an54 cd54 ct54), sl54⟩) (c54 : PySem.W.codeIn K cd54 "_law_promise" = true) (k54 : PySem.W.keepIn K (.ref f54) = true)
    (a55 : PySem.W.nsIn K mainGlobals "law" = some (some (.ref f55)))
    (l55 : K.lookup f55 = some ⟨oc55, od55, .func (PySem.W.fnOf "law" "law" (defArgs s_law) (defBody s_law) (defScope s_law) .none kV55 dc55 pm55 an55 cd55 ct55), sl55⟩) (c55 : PySem.W.codeIn K cd55 "law" = true) (k55 : PySem.W.keepIn K (.ref f55) = true)
    (aC : PySem.W.nsIn K mainGlobals "Table" = some (some (.ref C))) (pg : PySem.W.plainGet K C Str.empty = true) (hd : PySem.W.hasDictIn K C = true) (po : PySem.W.plainOver K C = true) (sa : PySem.W.findIn K (.ref C) "__setattr__" = some (some (.builtin "object.__setattr__"))) (mk : PySem.W.makesIn K C = true) (kc : PySem.W.keepIn K (.ref C) = true)
    (n_wide : PySem.W.findIn K (.ref C) "wide" = some none)
    (n_high : PySem.W.findIn K (.ref C) "high" = some none)
    (n_turned : PySem.W.findIn K (.ref C) "turned" = some none)
    (n_lines : PySem.W.findIn K (.ref C) "lines" = some none)
    (n_held : PySem.W.findIn K (.ref C) "held" = some none)
    (n_low : PySem.W.findIn K (.ref C) "low" = some none)
    (n_left : PySem.W.findIn K (.ref C) "left" = some none)
    (b_isinstance : PySem.W.nsIn K mainGlobals "isinstance" = some none)
    (b_abs : PySem.W.nsIn K mainGlobals "abs" = some none)
    (b_len : PySem.W.nsIn K mainGlobals "len" = some none)
    (b_max : PySem.W.nsIn K mainGlobals "max" = some none)
    (b_sum : PySem.W.nsIn K mainGlobals "sum" = some none)
    (b_any : PySem.W.nsIn K mainGlobals "any" = some none)
    (b_all : PySem.W.nsIn K mainGlobals "all" = some none)
    (b_tuple : PySem.W.nsIn K mainGlobals "tuple" = some none)
    (b_list : PySem.W.nsIn K mainGlobals "list" = some none)
    (b_int : PySem.W.nsIn K mainGlobals "int" = some none)
    (b_bool : PySem.W.nsIn K mainGlobals "bool" = some none)
    (b_str : PySem.W.nsIn K mainGlobals "str" = some none)
    (b_range : PySem.W.nsIn K mainGlobals "range" = some none)
    (b_enumerate : PySem.W.nsIn K mainGlobals "enumerate" = some none)
    (b_zip : PySem.W.nsIn K mainGlobals "zip" = some none)
    (g0 : PySem.W.nsIn K mainGlobals "MOST_WIDE" = some (some (.int 6 tk0)))
    (g1 : PySem.W.nsIn K mainGlobals "MOST_HIGH" = some (some (.int 8 tk1)))
    (g2 : PySem.W.nsIn K mainGlobals "MOST_GIVEN" = some (some (.int 1000 tk2)))
    : ∃ fd : FuncData, (∀ (s : Shared) (v : Value), BindsTo s fd ⟨[v], []⟩ [("_law_script", v)]) ∧ ∀ base : Heap, K.In base → base.Ns mainGlobals mg → FnOk l.prog w K mg base CX0 (8 + 1) fa fd ["_law_script"] (SpW K pre_law) := by
  have e := hfa.symm.trans (PySem.W.mg_of X G a55)
  cases e
  have F0 := fun_mk (st := s_is_int) l0 c0 k0
  have B0 := F0.binds (ps := P_is_int) fun _ _ _ _ _ _ us hl => match us, hl with | [_], _ => rfl
  have F1 := fun_mk (st := s_greatest_part) l1 c1 k1
  have B1 := F1.binds (ps := P_greatest_part) fun _ _ _ _ _ _ us hl => match us, hl with | [_], _ => rfl
  have F2 := fun_mk (st := s_reduced) l2 c2 k2
  have B2 := F2.binds (ps := P_reduced) fun _ _ _ _ _ _ us hl => match us, hl with | [_], _ => rfl
  have F3 := fun_mk (st := s_fraction) l3 c3 k3
  have B3 := F3.binds (ps := P_fraction) fun _ _ _ _ _ _ us hl => match us, hl with | [_, _], _ => rfl
  have F4 := fun_mk (st := s_is_fraction) l4 c4 k4
  have B4 := F4.binds (ps := P_is_fraction) fun _ _ _ _ _ _ us hl => match us, hl with | [_], _ => rfl
  have F5 := fun_mk (st := s_inner) l5 c5 k5
  have B5 := F5.binds (ps := P_inner) fun _ _ _ _ _ _ us hl => match us, hl with | [_, _], _ => rfl
  have F6 := fun_mk (st := s_need_place) l6 c6 k6
  have B6 := F6.binds (ps := P_need_place) fun _ _ _ _ _ _ us hl => match us, hl with | [_], _ => rfl
  have F7 := fun_mk (st := s_Table_init) l7 c7 k7
  have B7 := F7.binds (ps := P_Table_init) fun _ _ _ _ _ _ us hl => match us, hl with | [_, _, _], _ => rfl
  have F8 := fun_mk (st := s_Table_weigh) l8 c8 k8
  have B8 := F8.binds (ps := P_Table_weigh) fun _ _ _ _ _ _ us hl => match us, hl with | [_, _], _ => rfl
  have F9 := fun_mk (st := s_Table_change) l9 c9 k9
  have B9 := F9.binds (ps := P_Table_change) fun _ _ _ _ _ _ us hl => match us, hl with | [_, _, _], _ => rfl
  have F10 := fun_mk (st := s_Table_cleared) l10 c10 k10
  have B10 := F10.binds (ps := P_Table_cleared) fun _ _ _ _ _ _ us hl => match us, hl with | [_, _, _, _], _ => rfl
  have F11 := fun_mk (st := s_Table_going) l11 c11 k11
  have B11 := F11.binds (ps := P_Table_going) fun _ _ _ _ _ _ us hl => match us, hl with | [_, _], _ => rfl
  have F12 := fun_mk (st := s_Table_is_sooner) l12 c12 k12
  have B12 := F12.binds (ps := P_Table_is_sooner) fun _ _ _ _ _ _ us hl => match us, hl with | [_, _, _, _], _ => rfl
  have F13 := fun_mk (st := s_Table_descend) l13 c13 k13
  have B13 := F13.binds (ps := P_Table_descend) fun _ _ _ _ _ _ us hl => match us, hl with | [_, _], _ => rfl
  have F14 := fun_mk (st := s_Table_plan) l14 c14 k14
  have B14 := F14.binds (ps := P_Table_plan) fun _ _ _ _ _ _ us hl => match us, hl with | [_], _ => rfl
  have F15 := fun_mk (st := s_Table_paper) l15 c15 k15
  have B15 := F15.binds (ps := P_Table_paper) fun _ _ _ _ _ _ us hl => match us, hl with | [_, _], _ => rfl
  have F16 := fun_mk (st := s_Table_clear_base) l16 c16 k16
  have B16 := F16.binds (ps := P_Table_clear_base) fun _ _ _ _ _ _ us hl => match us, hl with | [_], _ => rfl
  have F17 := fun_mk (st := s_solved) l17 c17 k17
  have B17 := F17.binds (ps := P_solved) fun _ _ _ _ _ _ us hl => match us, hl with | [_, _, _], _ => rfl
  have F18 := fun_mk (st := s_is_small) l18 c18 k18
  have B18 := F18.binds (ps := P_is_small) fun _ _ _ _ _ _ us hl => match us, hl with | [_], _ => rfl
  have F19 := fun_mk (st := s_need_task) l19 c19 k19
  have B19 := F19.binds (ps := P_need_task) fun _ _ _ _ _ _ us hl => match us, hl with | [_], _ => rfl
  have F20 := fun_mk (st := s_is_task_row) l20 c20 k20
  have B20 := F20.binds (ps := P_is_task_row) fun _ _ _ _ _ _ us hl => match us, hl with | [_, _], _ => rfl
  have F21 := fun_mk (st := s_rights_at) l21 c21 k21
  have B21 := F21.binds (ps := P_rights_at) fun _ _ _ _ _ _ us hl => match us, hl with | [_, _, _], _ => rfl
  have F22 := fun_mk (st := s_whole_place) l22 c22 k22
  have B22 := F22.binds (ps := P_whole_place) fun _ _ _ _ _ _ us hl => match us, hl with | [_], _ => rfl
  have F23 := fun_mk (st := s_solved_at) l23 c23 k23
  have B23 := F23.binds (ps := P_solved_at) fun _ _ _ _ _ _ us hl => match us, hl with | [_, _], _ => rfl
  have F24 := fun_mk (st := s_need_both) l24 c24 k24
  have B24 := F24.binds (ps := P_need_both) fun _ _ _ _ _ _ us hl => match us, hl with | [_, _], _ => rfl
  have F25 := fun_mk (st := s_ending_at) l25 c25 k25
  have B25 := F25.binds (ps := P_ending_at) fun _ _ _ _ _ _ us hl => match us, hl with | [_, _], _ => rfl
  have F26 := fun_mk (st := s_worth_at) l26 c26 k26
  have B26 := F26.binds (ps := P_worth_at) fun _ _ _ _ _ _ us hl => match us, hl with | [_, _], _ => rfl
  have F27 := fun_mk (st := s_some_plan) l27 c27 k27
  have B27 := F27.binds (ps := P_some_plan) fun _ _ _ _ _ _ us hl => match us, hl with | [_, _], _ => rfl
  have F28 := fun_mk (st := s_some_paper) l28 c28 k28
  have B28 := F28.binds (ps := P_some_paper) fun _ _ _ _ _ _ us hl => match us, hl with | [_, _], _ => rfl
  have F29 := fun_mk (st := s_need_fractions) l29 c29 k29
  have B29 := F29.binds (ps := P_need_fractions) fun _ _ _ _ _ _ us hl => match us, hl with | [_, _], _ => rfl
  have F30 := fun_mk (st := s_whole) l30 c30 k30
  have B30 := F30.binds (ps := P_whole) fun _ _ _ _ _ _ us hl => match us, hl with | [_], _ => rfl
  have F31 := fun_mk (st := s_is_paper_of) l31 c31 k31
  have B31 := F31.binds (ps := P_is_paper_of) fun _ _ _ _ _ _ us hl => match us, hl with | [_, _], _ => rfl
  have F32 := fun_mk (st := s_is_plan_of) l32 c32 k32
  have B32 := F32.binds (ps := P_is_plan_of) fun _ _ _ _ _ _ us hl => match us, hl with | [_, _, _], _ => rfl
  have F33 := fun_mk (st := s_shows_worth) l33 c33 k33
  have B33 := F33.binds (ps := P_shows_worth) fun _ _ _ _ _ _ us hl => match us, hl with | [_, _, _, _], _ => rfl
  have F34 := fun_mk (st := s_is_best_plan) l34 c34 k34
  have B34 := F34.binds (ps := P_is_best_plan) fun _ _ _ _ _ _ us hl => match us, hl with | [_, _, _], _ => rfl
  have F35 := fun_mk (st := s_law_taken) l35 c35 k35
  have B35 := F35.binds (ps := P_law_taken) fun _ _ _ _ _ _ us hl => match us, hl with | [_, _], _ => rfl
  have F36 := fun_mk (st := s_law_alike) l36 c36 k36
  have B36 := F36.binds (ps := P_law_alike) fun _ _ _ _ _ _ us hl => match us, hl with | [_, _], _ => rfl
  have F37 := fun_mk (st := s_law_is) l37 c37 k37
  have B37 := F37.binds (ps := P_law_is) fun _ _ _ _ _ _ us hl => match us, hl with | [_, _], _ => rfl
  have F38 := fun_mk (st := s_law_fr) l38 c38 k38
  have B38 := F38.binds (ps := P_law_fr) fun _ _ _ _ _ _ us hl => match us, hl with | [_, _], _ => rfl
  have F39 := fun_mk (st := s_law_plus) l39 c39 k39
  have B39 := F39.binds (ps := P_law_plus) fun _ _ _ _ _ _ us hl => match us, hl with | [_, _], _ => rfl
  have F40 := fun_mk (st := s_law_times) l40 c40 k40
  have B40 := F40.binds (ps := P_law_times) fun _ _ _ _ _ _ us hl => match us, hl with | [_, _], _ => rfl
  have F41 := fun_mk (st := s_law_below) l41 c41 k41
  have B41 := F41.binds (ps := P_law_below) fun _ _ _ _ _ _ us hl => match us, hl with | [_, _], _ => rfl
  have F42 := fun_mk (st := s_law_at) l42 c42 k42
  have B42 := F42.binds (ps := P_law_at) fun _ _ _ _ _ _ us hl => match us, hl with | [_, _], _ => rfl
  have F43 := fun_mk (st := s_law_number) l43 c43 k43
  have B43 := F43.binds (ps := P_law_number) fun _ _ _ _ _ _ us hl => match us, hl with | [_, _], _ => rfl
  have F44 := fun_mk (st := s_law_solved) l44 c44 k44
  have B44 := F44.binds (ps := P_law_solved) fun _ _ _ _ _ _ us hl => match us, hl with | [_, _], _ => rfl
  have F45 := fun_mk (st := s_law_lots) l45 c45 k45
  have B45 := F45.binds (ps := P_law_lots) fun _ _ _ _ _ _ us hl => match us, hl with | [_, _], _ => rfl
  have F46 := fun_mk (st := s_law_inner) l46 c46 k46
  have B46 := F46.binds (ps := P_law_inner) fun _ _ _ _ _ _ us hl => match us, hl with | [_, _], _ => rfl
  have F47 := fun_mk (st := s_law_corners) l47 c47 k47
  have B47 := F47.binds (ps := P_law_corners) fun _ _ _ _ _ _ us hl => match us, hl with | [_, _, _], _ => rfl
  have F48 := fun_mk (st := s_law_task) l48 c48 k48
  have B48 := F48.binds (ps := P_law_task) fun _ _ _ _ _ _ us hl => match us, hl with | [_, _, _, _], _ => rfl
  have F49 := fun_mk (st := s_law_rights) l49 c49 k49
  have B49 := F49.binds (ps := P_law_rights) fun _ _ _ _ _ _ us hl => match us, hl with | [_, _], _ => rfl
  have F50 := fun_mk (st := s_law_best) l50 c50 k50
  have B50 := F50.binds (ps := P_law_best) fun _ _ _ _ _ _ us hl => match us, hl with | [_, _], _ => rfl
  have F51 := fun_mk (st := s_law_place) l51 c51 k51
  have B51 := F51.binds (ps := P_law_place) fun _ _ _ _ _ _ us hl => match us, hl with | [_, _, _], _ => rfl
  have F52 := fun_mk (st := s_law_keeps) l52 c52 k52
  have B52 := F52.binds (ps := P_law_keeps) fun _ _ _ _ _ _ us hl => match us, hl with | [_, _, _], _ => rfl
  have F53 := fun_mk (st := s_law_pays) l53 c53 k53
  have B53 := F53.binds (ps := P_law_pays) fun _ _ _ _ _ _ us hl => match us, hl with | [_, _], _ => rfl
  have F54 := fun_mk (st := s_law_promise) l54 c54 k54
  have B54 := F54.binds (ps := P_law_promise) fun _ _ _ _ _ _ us hl => match us, hl with | [_, _, _], _ => rfl
  have F55 := fun_mk (st := s_law) l55 c55 k55
  have B55 := F55.binds (ps := P_law) fun _ _ _ _ _ _ us hl => match us, hl with | [_], _ => rfl
  exact ⟨PySem.W.fnOf "law" "law" (defArgs s_law) (defBody s_law) (defScope s_law) .none kV55 dc55 pm55 an55 cd55 ct55, fun s v => .of_eq rfl, fun base _ _ => ok_law hyp {
    d_is_int := ⟨_, _, F0, B0⟩
    m_is_int := PySem.W.mg_of X G a0
    d_greatest_part := ⟨_, _, F1, B1⟩
    m_greatest_part := PySem.W.mg_of X G a1
    d_reduced := ⟨_, _, F2, B2⟩
    m_reduced := PySem.W.mg_of X G a2
    d_fraction := ⟨_, _, F3, B3⟩
    m_fraction := PySem.W.mg_of X G a3
    d_is_fraction := ⟨_, _, F4, B4⟩
    m_is_fraction := PySem.W.mg_of X G a4
    d_inner := ⟨_, _, F5, B5⟩
    m_inner := PySem.W.mg_of X G a5
    d_need_place := ⟨_, _, F6, B6⟩
    m_need_place := PySem.W.mg_of X G a6
    d_Table_init := ⟨_, _, F7, B7⟩
    d_Table_weigh := ⟨_, _, F8, B8⟩
    d_Table_change := ⟨_, _, F9, B9⟩
    d_Table_cleared := ⟨_, _, F10, B10⟩
    d_Table_going := ⟨_, _, F11, B11⟩
    d_Table_is_sooner := ⟨_, _, F12, B12⟩
    d_Table_descend := ⟨_, _, F13, B13⟩
    d_Table_plan := ⟨_, _, F14, B14⟩
    d_Table_paper := ⟨_, _, F15, B15⟩
    d_Table_clear_base := ⟨_, _, F16, B16⟩
    d_solved := ⟨_, _, F17, B17⟩
    m_solved := PySem.W.mg_of X G a17
    d_is_small := ⟨_, _, F18, B18⟩
    m_is_small := PySem.W.mg_of X G a18
    d_need_task := ⟨_, _, F19, B19⟩
    m_need_task := PySem.W.mg_of X G a19
    d_is_task_row := ⟨_, _, F20, B20⟩
    m_is_task_row := PySem.W.mg_of X G a20
    d_rights_at := ⟨_, _, F21, B21⟩
    m_rights_at := PySem.W.mg_of X G a21
    d_whole_place := ⟨_, _, F22, B22⟩
    m_whole_place := PySem.W.mg_of X G a22
    d_solved_at := ⟨_, _, F23, B23⟩
    m_solved_at := PySem.W.mg_of X G a23
    d_need_both := ⟨_, _, F24, B24⟩
    m_need_both := PySem.W.mg_of X G a24
    d_ending_at := ⟨_, _, F25, B25⟩
    m_ending_at := PySem.W.mg_of X G a25
    d_worth_at := ⟨_, _, F26, B26⟩
    m_worth_at := PySem.W.mg_of X G a26
    d_some_plan := ⟨_, _, F27, B27⟩
    m_some_plan := PySem.W.mg_of X G a27
    d_some_paper := ⟨_, _, F28, B28⟩
    m_some_paper := PySem.W.mg_of X G a28
    d_need_fractions := ⟨_, _, F29, B29⟩
    m_need_fractions := PySem.W.mg_of X G a29
    d_whole := ⟨_, _, F30, B30⟩
    m_whole := PySem.W.mg_of X G a30
    d_is_paper_of := ⟨_, _, F31, B31⟩
    m_is_paper_of := PySem.W.mg_of X G a31
    d_is_plan_of := ⟨_, _, F32, B32⟩
    m_is_plan_of := PySem.W.mg_of X G a32
    d_shows_worth := ⟨_, _, F33, B33⟩
    m_shows_worth := PySem.W.mg_of X G a33
    d_is_best_plan := ⟨_, _, F34, B34⟩
    m_is_best_plan := PySem.W.mg_of X G a34
    d_law_taken := ⟨_, _, F35, B35⟩
    m_law_taken := PySem.W.mg_of X G a35
    d_law_alike := ⟨_, _, F36, B36⟩
    m_law_alike := PySem.W.mg_of X G a36
    d_law_is := ⟨_, _, F37, B37⟩
    m_law_is := PySem.W.mg_of X G a37
    d_law_fr := ⟨_, _, F38, B38⟩
    m_law_fr := PySem.W.mg_of X G a38
    d_law_plus := ⟨_, _, F39, B39⟩
    m_law_plus := PySem.W.mg_of X G a39
    d_law_times := ⟨_, _, F40, B40⟩
    m_law_times := PySem.W.mg_of X G a40
    d_law_below := ⟨_, _, F41, B41⟩
    m_law_below := PySem.W.mg_of X G a41
    d_law_at := ⟨_, _, F42, B42⟩
    m_law_at := PySem.W.mg_of X G a42
    d_law_number := ⟨_, _, F43, B43⟩
    m_law_number := PySem.W.mg_of X G a43
    d_law_solved := ⟨_, _, F44, B44⟩
    m_law_solved := PySem.W.mg_of X G a44
    d_law_lots := ⟨_, _, F45, B45⟩
    m_law_lots := PySem.W.mg_of X G a45
    d_law_inner := ⟨_, _, F46, B46⟩
    m_law_inner := PySem.W.mg_of X G a46
    d_law_corners := ⟨_, _, F47, B47⟩
    m_law_corners := PySem.W.mg_of X G a47
    d_law_task := ⟨_, _, F48, B48⟩
    m_law_task := PySem.W.mg_of X G a48
    d_law_rights := ⟨_, _, F49, B49⟩
    m_law_rights := PySem.W.mg_of X G a49
    d_law_best := ⟨_, _, F50, B50⟩
    m_law_best := PySem.W.mg_of X G a50
    d_law_place := ⟨_, _, F51, B51⟩
    m_law_place := PySem.W.mg_of X G a51
    d_law_keeps := ⟨_, _, F52, B52⟩
    m_law_keeps := PySem.W.mg_of X G a52
    d_law_pays := ⟨_, _, F53, B53⟩
    m_law_pays := PySem.W.mg_of X G a53
    d_law_promise := ⟨_, _, F54, B54⟩
    m_law_promise := PySem.W.mg_of X G a54
    d_law := ⟨_, _, F55, B55⟩
    m_law := PySem.W.mg_of X G a55
    C := C
    cl := ⟨pg, hd, po, sa⟩
    mgC := PySem.W.mg_of X G aC
    mkT := ⟨mk, a7, i7, kc⟩
    mt_weigh := ⟨a8, i8, k8⟩
    mt_change := ⟨a9, i9, k9⟩
    mt_cleared := ⟨a10, i10, k10⟩
    mt_going := ⟨a11, i11, k11⟩
    mt_is_sooner := ⟨a12, i12, k12⟩
    mt_descend := ⟨a13, i13, k13⟩
    mt_plan := ⟨a14, i14, k14⟩
    mt_paper := ⟨a15, i15, k15⟩
    mt_clear_base := ⟨a16, i16, k16⟩
    n_wide := n_wide
    n_high := n_high
    n_turned := n_turned
    n_lines := n_lines
    n_held := n_held
    n_low := n_low
    n_left := n_left
    b_isinstance := PySem.W.mg_none_of X G b_isinstance
    b_abs := PySem.W.mg_none_of X G b_abs
    b_len := PySem.W.mg_none_of X G b_len
    b_max := PySem.W.mg_none_of X G b_max
    b_sum := PySem.W.mg_none_of X G b_sum
    b_any := PySem.W.mg_none_of X G b_any
    b_all := PySem.W.mg_none_of X G b_all
    b_tuple := PySem.W.mg_none_of X G b_tuple
    b_list := PySem.W.mg_none_of X G b_list
    b_int := PySem.W.mg_none_of X G b_int
    b_bool := PySem.W.mg_none_of X G b_bool
    b_str := PySem.W.mg_none_of X G b_str
    b_range := PySem.W.mg_none_of X G b_range
    b_enumerate := PySem.W.mg_none_of X G b_enumerate
    b_zip := PySem.W.mg_none_of X G b_zip
    t_MOST_WIDE := tk0
    g_MOST_WIDE := PySem.W.mg_of X G g0
    t_MOST_HIGH := tk1
    g_MOST_HIGH := PySem.W.mg_of X G g1
    t_MOST_GIVEN := tk2
    g_MOST_GIVEN := PySem.W.mg_of X G g2
  }⟩
theorem walk {l : PySem.W.OpenLaw} {q : Program} {loose : List Str} {XP : (Str → Option Value) → Heap → Prop} {YP : World → Heap → Prop} {d : DefRec} {K : Params → PySem.W.Frag} (hn : l.most = some 63) (hdf : d.params.defaults = [])
    (hY : ∀ (w : World) (h : Heap), YP w h → (K w.params).In h)
    (F : ∀ (w : World) (mg : Str → Option Value) (fa : Addr) (h : Heap), (K w.params).In h → h.Ns mainGlobals mg → mg d.name = some (.ref fa) →
      ∃ fd : FuncData, (∀ (s : Shared) (u : Value), BindsTo s fd ⟨[u], []⟩ [("_law_script", u)]) ∧ ∀ base : Heap, (K w.params).In base → base.Ns mainGlobals mg → FnOk l.prog w (K w.params) mg base CX0 (8 + 1) fa fd ["_law_script"] (SpW (K w.params) pre_law)) :
    PySem.W.WalkO q loose XP YP l.row.toRowW d [] (fun f vs => PySem.call f vs) :=
  L2.walk_of (n := 63) (k := 8 + 1) (x := "_law_script") (CX := fun _ => CX0) (sp := fun w => SpW (K w.params) pre_law) hn (by decide) hdf ⟨rfl, by decide, by decide⟩ hY F (fun w H a ns hl _ hS => ⟨H, [.sc ns], [], _, ⟨ns, rfl, rfl, hl, rfl⟩, ⟨⟨a, rfl, hS⟩, trivial⟩, Sub.refl H, mut0, fun r m v F' H' ⟨e, _⟩ _ ok => by subst e; cases ok; rfl⟩) fun _ _ _ _ _ z => z
end WM

set_option Elab.async false
set_option linter.all false
set_option maxHeartbeats 1000000
/-! Integer pivoting by 3x3 determinants. -/
namespace WM
abbrev Mx := Nat → Nat → Int
def D3 (L : Mx) (j k l : Nat) : Int := L 0 j * (L 1 k * L 2 l - L 2 k * L 1 l) - L 1 j * (L 0 k * L 2 l - L 2 k * L 0 l) + L 2 j * (L 0 k * L 1 l - L 1 k * L 0 l)
structure Good (T L : Mx) (h : Nat → Nat) (low : Int) : Prop where
  lp : 0 < low
  un : ∀ i k, i < 3 → k < 3 → L i (h k) = if i = k then low else 0
  dt : ∃ s : Int, s * s = 1 ∧ ∀ j k l, D3 L j k l = s * (low * low) * D3 T j k l
theorem mul_cancel {a b c : Int} (h : 0 < a) (e : a * b = a * c) : b = c := Int.eq_of_mul_eq_mul_left (by omega) e
theorem Good.u {T L : Mx} {h : Nat → Nat} {low : Int} (g : Good T L h low) : (L 0 (h 0) = low ∧ L 1 (h 0) = 0 ∧ L 2 (h 0) = 0) ∧ (L 0 (h 1) = 0 ∧ L 1 (h 1) = low ∧ L 2 (h 1) = 0) ∧ (L 0 (h 2) = 0 ∧ L 1 (h 2) = 0 ∧ L 2 (h 2) = low) :=
  ⟨⟨g.un 0 0 (by decide) (by decide), g.un 1 0 (by decide) (by decide), g.un 2 0 (by decide) (by decide)⟩, ⟨g.un 0 1 (by decide) (by decide), g.un 1 1 (by decide) (by decide), g.un 2 1 (by decide) (by decide)⟩, ⟨g.un 0 2 (by decide) (by decide), g.un 1 2 (by decide) (by decide), g.un 2 2 (by decide) (by decide)⟩⟩
theorem Good.cramer {T L : Mx} {h : Nat → Nat} {low : Int} (g : Good T L h low) : ∃ s : Int, s * s = 1 ∧ ∀ j, L 0 j = s * D3 T j (h 1) (h 2) ∧ L 1 j = s * D3 T (h 0) j (h 2) ∧ L 2 j = s * D3 T (h 0) (h 1) j := by
  obtain ⟨⟨a0, a1, a2⟩, ⟨b0, b1, b2⟩, ⟨c0, c1, c2⟩⟩ := g.u
  obtain ⟨s, hs, hd⟩ := g.dt
  have hl : 0 < low * low := Int.mul_pos g.lp g.lp
  refine ⟨s, hs, fun j => ⟨mul_cancel hl ?_, mul_cancel hl ?_, mul_cancel hl ?_⟩⟩
  · have e := hd j (h 1) (h 2)
    unfold D3 at e ⊢
    rw [b0, b1, b2, c0, c1, c2] at e
    grind
  · have e := hd (h 0) j (h 2)
    unfold D3 at e ⊢
    rw [a0, a1, a2, c0, c1, c2] at e
    grind
  · have e := hd (h 0) (h 1) j
    unfold D3 at e ⊢
    rw [a0, a1, a2, b0, b1, b2] at e
    grind
theorem Good.minor {T L : Mx} {h : Nat → Nat} {low : Int} (g : Good T L h low) {i a : Nat} (hi : i < 3) (ha : a < 3) (hn : i ≠ a) (j c : Nat) : low ∣ L i j * L a c - L a j * L i c := by
  obtain ⟨⟨a0, a1, a2⟩, ⟨b0, b1, b2⟩, ⟨c0, c1, c2⟩⟩ := g.u
  obtain ⟨s, hs, hd⟩ := g.dt
  have hl := g.lp
  have key : ∀ (k : Nat) (sg : Int), low * (L i j * L a c - L a j * L i c) = sg * D3 L j c (h k) → low ∣ L i j * L a c - L a j * L i c := fun k sg e => by
    rw [hd] at e
    refine ⟨sg * s * D3 T j c (h k), mul_cancel hl ?_⟩
    rw [e]
    grind
  match i, a, hi, ha, hn with
  | 0, 1, _, _, _ => exact key 2 1 (by unfold D3; rw [c0, c1, c2]; grind)
  | 1, 0, _, _, _ => exact key 2 (-1) (by unfold D3; rw [c0, c1, c2]; grind)
  | 0, 2, _, _, _ => exact key 1 (-1) (by unfold D3; rw [b0, b1, b2]; grind)
  | 2, 0, _, _, _ => exact key 1 1 (by unfold D3; rw [b0, b1, b2]; grind)
  | 1, 2, _, _, _ => exact key 0 1 (by unfold D3; rw [a0, a1, a2]; grind)
  | 2, 1, _, _, _ => exact key 0 (-1) (by unfold D3; rw [a0, a1, a2]; grind)
  | 0, 0, _, _, h => exact absurd rfl h
  | 1, 1, _, _, h => exact absurd rfl h
  | 2, 2, _, _, h => exact absurd rfl h
/-- a pivot: row a, column c, sg its sign -/
def pivL (L : Mx) (low sg : Int) (a c : Nat) : Mx := fun i j => if i = a then sg * L a j else (L i j * (sg * L a c) - sg * L a j * L i c) / low
def pivH (h : Nat → Nat) (a c : Nat) : Nat → Nat := fun k => if k = a then c else h k
theorem Good.piv_eq {T L : Mx} {h : Nat → Nat} {low : Int} (g : Good T L h low) {sg : Int} {i a : Nat} (hi : i < 3) (ha : a < 3) (hn : i ≠ a) (j c : Nat) : low * pivL L low sg a c i j = L i j * (sg * L a c) - sg * L a j * L i c := by
  unfold pivL
  rw [if_neg hn]
  have d := g.minor hi ha hn j c
  have d2 : low ∣ L i j * (sg * L a c) - sg * L a j * L i c := by
    obtain ⟨k, hk⟩ := d
    exact ⟨sg * k, by grind⟩
  exact Int.mul_ediv_cancel' d2
theorem det_0 (a0 a1 a2 b0 b1 b2 c0 c1 c2 x0 x1 x2 y0 y1 y2 v f g low : Int) (h1 : low * x0 = b0 * v - a0 * f) (h2 : low * x1 = b1 * v - a1 * f) (h3 : low * x2 = b2 * v - a2 * f) (k1 : low * y0 = c0 * v - a0 * g) (k2 : low * y1 = c1 * v - a1 * g) (k3 : low * y2 = c2 * v - a2 * g) :
    low * low * (a0 * (x1 * y2 - y1 * x2) - x0 * (a1 * y2 - y1 * a2) + y0 * (a1 * x2 - x1 * a2)) = v * v * (a0 * (b1 * c2 - c1 * b2) - b0 * (a1 * c2 - c1 * a2) + c0 * (a1 * b2 - b1 * a2)) := by
  have e : low * low * (a0 * (x1 * y2 - y1 * x2) - x0 * (a1 * y2 - y1 * a2) + y0 * (a1 * x2 - x1 * a2)) = a0 * ((low * x1) * (low * y2) - (low * y1) * (low * x2)) - (low * x0) * (a1 * (low * y2) - (low * y1) * a2) + (low * y0) * (a1 * (low * x2) - (low * x1) * a2) := by grind
  rw [e, h1, h2, h3, k1, k2, k3]
  grind
theorem Good.piv {T L : Mx} {h : Nat → Nat} {low : Int} (g : Good T L h low) {sg : Int} {a c : Nat} (ha : a < 3) (hs : sg * sg = 1) (hv : 0 < sg * L a c) : Good T (pivL L low sg a c) (pivH h a c) (sg * L a c) := by
  have hl := g.lp
  have rowA : ∀ j, pivL L low sg a c a j = sg * L a j := fun j => if_pos rfl
  have rowI : ∀ i, i < 3 → i ≠ a → ∀ j, low * pivL L low sg a c i j = L i j * (sg * L a c) - sg * L a j * L i c := fun i hi hn j => g.piv_eq hi ha hn j c
  refine ⟨hv, fun i k hi hk => ?_, ?_⟩
  · unfold pivH
    by_cases e : k = a
    · rw [if_pos e, e]
      by_cases e2 : i = a
      · rw [e2, if_pos rfl, rowA]
      · rw [if_neg e2]
        have := rowI i hi e2 c
        refine mul_cancel hl ?_
        rw [this]
        grind
    · rw [if_neg e]
      have u0 : L a (h k) = 0 := by rw [g.un a k ha hk, if_neg (Ne.symm e)]
      by_cases e2 : i = a
      · rw [e2, rowA, u0, if_neg (Ne.symm e)]
        grind
      · have := rowI i hi e2 (h k)
        refine mul_cancel hl ?_
        rw [this, u0, g.un i k hi hk]
        by_cases e3 : i = k
        · rw [if_pos e3, if_pos e3]; grind
        · rw [if_neg e3, if_neg e3]; grind
  · obtain ⟨s, hss, hd⟩ := g.dt
    refine ⟨sg * s, by grind, fun j k l => ?_⟩
    have hll : 0 < low * low := Int.mul_pos hl hl
    refine mul_cancel hll ?_
    have hdj := hd j k l
    match a, ha with
    | 0, _ =>
      have e := det_0 (sg * L 0 j) (sg * L 0 k) (sg * L 0 l) (L 1 j) (L 1 k) (L 1 l) (L 2 j) (L 2 k) (L 2 l) _ _ _ _ _ _ (sg * L 0 c) (L 1 c) (L 2 c) low (rowI 1 (by decide) (by decide) j) (rowI 1 (by decide) (by decide) k) (rowI 1 (by decide) (by decide) l) (rowI 2 (by decide) (by decide) j) (rowI 2 (by decide) (by decide) k) (rowI 2 (by decide) (by decide) l)
      have e2 : low * low * D3 (pivL L low sg 0 c) j k l = (sg * L 0 c) * (sg * L 0 c) * (sg * D3 L j k l) := by
        unfold D3
        rw [rowA, rowA, rowA, e]
        grind
      rw [e2, hdj]
      grind
    | 1, _ =>
      have e := det_0 (sg * L 1 j) (sg * L 1 k) (sg * L 1 l) (L 0 j) (L 0 k) (L 0 l) (L 2 j) (L 2 k) (L 2 l) _ _ _ _ _ _ (sg * L 1 c) (L 0 c) (L 2 c) low (rowI 0 (by decide) (by decide) j) (rowI 0 (by decide) (by decide) k) (rowI 0 (by decide) (by decide) l) (rowI 2 (by decide) (by decide) j) (rowI 2 (by decide) (by decide) k) (rowI 2 (by decide) (by decide) l)
      have e2 : low * low * D3 (pivL L low sg 1 c) j k l = (sg * L 1 c) * (sg * L 1 c) * (sg * D3 L j k l) := by
        unfold D3
        rw [rowA, rowA, rowA]
        generalize pivL L low sg 1 c 0 j = x0 at e ⊢
        generalize pivL L low sg 1 c 0 k = x1 at e ⊢
        generalize pivL L low sg 1 c 0 l = x2 at e ⊢
        generalize pivL L low sg 1 c 2 j = y0 at e ⊢
        generalize pivL L low sg 1 c 2 k = y1 at e ⊢
        generalize pivL L low sg 1 c 2 l = y2 at e ⊢
        grind
      rw [e2, hdj]
      grind
    | 2, _ =>
      have e := det_0 (sg * L 2 j) (sg * L 2 k) (sg * L 2 l) (L 0 j) (L 0 k) (L 0 l) (L 1 j) (L 1 k) (L 1 l) _ _ _ _ _ _ (sg * L 2 c) (L 0 c) (L 1 c) low (rowI 0 (by decide) (by decide) j) (rowI 0 (by decide) (by decide) k) (rowI 0 (by decide) (by decide) l) (rowI 1 (by decide) (by decide) j) (rowI 1 (by decide) (by decide) k) (rowI 1 (by decide) (by decide) l)
      have e2 : low * low * D3 (pivL L low sg 2 c) j k l = (sg * L 2 c) * (sg * L 2 c) * (sg * D3 L j k l) := by
        unfold D3
        rw [rowA, rowA, rowA]
        generalize pivL L low sg 2 c 0 j = x0 at e ⊢
        generalize pivL L low sg 2 c 0 k = x1 at e ⊢
        generalize pivL L low sg 2 c 0 l = x2 at e ⊢
        generalize pivL L low sg 2 c 1 j = y0 at e ⊢
        generalize pivL L low sg 2 c 1 k = y1 at e ⊢
        generalize pivL L low sg 2 c 1 l = y2 at e ⊢
        grind
      rw [e2, hdj]
      grind
/-- the weights: what the left row holds -/
def leftF (c : Nat → Int) (L : Mx) (h : Nat → Nat) (low : Int) (j : Nat) : Int := low * c j - (c (h 0) * L 0 j + c (h 1) * L 1 j + c (h 2) * L 2 j)
theorem Good.left_piv {T L : Mx} {h : Nat → Nat} {low : Int} (g : Good T L h low) {sg : Int} {a c : Nat} (ha : a < 3) (w : Nat → Int) (j : Nat) :
    leftF w L h low j * (sg * L a c) - sg * L a j * leftF w L h low c = low * leftF w (pivL L low sg a c) (pivH h a c) (sg * L a c) j := by
  have rowA : ∀ j, pivL L low sg a c a j = sg * L a j := fun j => if_pos rfl
  have rowI : ∀ i, i < 3 → i ≠ a → ∀ j, low * pivL L low sg a c i j = L i j * (sg * L a c) - sg * L a j * L i c := fun i hi hn j => g.piv_eq hi ha hn j c
  have hA : pivH h a c a = c := if_pos rfl
  have hI : ∀ i, i ≠ a → pivH h a c i = h i := fun i hi => if_neg hi
  unfold leftF
  match a, ha with
  | 0, _ =>
    have e1 := rowI 1 (by decide) (by decide) j
    have e2 := rowI 2 (by decide) (by decide) j
    rw [hA, hI 1 (by decide), hI 2 (by decide), rowA]
    grind
  | 1, _ =>
    have e1 := rowI 0 (by decide) (by decide) j
    have e2 := rowI 2 (by decide) (by decide) j
    rw [hA, hI 0 (by decide), hI 2 (by decide), rowA]
    grind
  | 2, _ =>
    have e1 := rowI 0 (by decide) (by decide) j
    have e2 := rowI 1 (by decide) (by decide) j
    rw [hA, hI 0 (by decide), hI 1 (by decide), rowA]
    grind
/-- rows by the first table's rows, and back; o: the columns where the first table is the unit matrix -/
theorem Good.rows {T L : Mx} {h : Nat → Nat} {low : Int} (g : Good T L h low) {o : Nat → Nat} (u : Good T T o 1) (i j : Nat) (hi : i < 3) : L i j = L i (o 0) * T 0 j + L i (o 1) * T 1 j + L i (o 2) * T 2 j := by
  obtain ⟨s, hs, hc⟩ := g.cramer
  obtain ⟨⟨a0, a1, a2⟩, ⟨b0, b1, b2⟩, ⟨c0, c1, c2⟩⟩ := u.u
  match i, hi with
  | 0, _ =>
    rw [(hc j).1, (hc (o 0)).1, (hc (o 1)).1, (hc (o 2)).1]
    unfold D3
    rw [a0, a1, a2, b0, b1, b2, c0, c1, c2]
    grind
  | 1, _ =>
    rw [(hc j).2.1, (hc (o 0)).2.1, (hc (o 1)).2.1, (hc (o 2)).2.1]
    unfold D3
    rw [a0, a1, a2, b0, b1, b2, c0, c1, c2]
    grind
  | 2, _ =>
    rw [(hc j).2.2, (hc (o 0)).2.2, (hc (o 1)).2.2, (hc (o 2)).2.2]
    unfold D3
    rw [a0, a1, a2, b0, b1, b2, c0, c1, c2]
    grind
theorem Good.det {T L : Mx} {h : Nat → Nat} {low : Int} (g : Good T L h low) : ∃ s : Int, s * s = 1 ∧ D3 T (h 0) (h 1) (h 2) = s * low := by
  obtain ⟨s, hs, hc⟩ := g.cramer
  have := (hc (h 0)).1
  rw [g.u.1.1] at this
  exact ⟨s, hs, by grind⟩
theorem Good.back {T L : Mx} {h : Nat → Nat} {low : Int} (g : Good T L h low) (i j : Nat) (hi : i < 3) : low * T i j = T i (h 0) * L 0 j + T i (h 1) * L 1 j + T i (h 2) * L 2 j := by
  obtain ⟨s, hs, hc⟩ := g.cramer
  obtain ⟨e1, e2, e3⟩ := hc j
  have e0 := (hc (h 0)).1
  rw [g.u.1.1] at e0
  rw [e1, e2, e3, e0]
  unfold D3
  match i, hi with
  | 0, _ => grind
  | 1, _ => grind
  | 2, _ => grind
end WM

set_option Elab.async false
set_option linter.all false
set_option maxHeartbeats 1000000
/-! The table's own numbers as a matrix: a change is a pivot. -/
namespace WM
def Lx (S : Tab) : Mx := fun i j => if i < S.high then (if j < 100 then cell (S.line i) j else 0) else if j = 100 + i then S.low else 0
def hx (S : Tab) (i : Nat) : Nat := if i < S.high then S.hold i else 100 + i
structure TabSh (S : Tab) : Prop where
  h : 1 ≤ S.high ∧ S.high ≤ 3
  w : S.wide ≤ 6
  tl : S.turned.length = S.high
  ll : S.lines.length = S.high
  hl : S.held.length = S.high
  rl : ∀ r ∈ S.lines, r.length = S.wide + S.high + 1
  hb : ∀ k ∈ S.held, k < S.wide + S.high
theorem m_getD_at {α : Type} {xs : List α} {j : Nat} {z : α} (h : j < xs.length) : xs[j]? = some (xs.getD j z) := by
  rw [List.getD_eq_getElem?_getD, List.getElem?_eq_getElem h]
  rfl
theorem m_getD_set {α : Type} {xs : List α} {i j : Nat} {z d : α} (h : i < xs.length) : (xs.set i z).getD j d = if j = i then z else xs.getD j d := by
  rw [List.getD_eq_getElem?_getD, List.getD_eq_getElem?_getD]
  by_cases e : j = i
  · subst e
    rw [List.getElem?_set_self h, if_pos rfl]
    rfl
  · rw [List.getElem?_set_ne (Ne.symm e), if_neg e]
theorem cell_out {r : List Int} {j : Nat} (h : r.length ≤ j) : cell r j = 0 := by
  unfold cell
  rw [List.getD_eq_getElem?_getD, List.getElem?_eq_none h]
  rfl
theorem cell_map {r : List Int} {f : Int → Int} (h0 : f 0 = 0) (j : Nat) : cell (r.map f) j = f (cell r j) := by
  unfold cell
  rw [List.getD_eq_getElem?_getD, List.getD_eq_getElem?_getD, List.getElem?_map]
  cases e : r[j]? with
  | none => exact h0.symm
  | some z => rfl
theorem cell_zip {r q : List Int} {f : Int → Int → Int} (hl : r.length = q.length) (h0 : f 0 0 = 0) (j : Nat) : cell (List.zipWith f r q) j = f (cell r j) (cell q j) := by
  by_cases h : j < r.length
  · unfold cell
    rw [List.getD_eq_getElem?_getD, List.getElem?_zipWith, m_getD_at (z := 0) h, m_getD_at (z := 0) (by omega : j < q.length)]
    rfl
  · rw [cell_out (by rw [List.length_zipWith]; omega), cell_out (by omega : r.length ≤ j), cell_out (by omega : q.length ≤ j), h0]
theorem cleared_cell {low : Int} {line lead : List Int} (hl : line.length = lead.length) (c j : Nat) : cell (clearedL low line lead c) j = (cell line j * cell lead c - cell lead j * cell line c) / low := by
  unfold clearedL
  rw [cell_zip hl]
  rw [Int.zero_mul, Int.zero_mul, Int.sub_zero, Int.zero_ediv]
theorem TabSh.line {S : Tab} (ok : TabSh S) {i : Nat} (hi : i < S.high) : S.line i ∈ S.lines ∧ (S.line i).length = S.wide + S.high + 1 := by
  have g : S.lines[i]? = some (S.line i) := m_getD_at (by rw [ok.ll]; exact hi)
  have m := List.mem_of_getElem? g
  exact ⟨m, ok.rl _ m⟩
theorem TabSh.hold {S : Tab} (ok : TabSh S) {i : Nat} (hi : i < S.high) : S.hold i < S.wide + S.high := by
  have g : S.held[i]? = some (S.hold i) := m_getD_at (by rw [ok.hl]; exact hi)
  exact ok.hb _ (List.mem_of_getElem? g)
def sgC (S : Tab) (a c : Nat) : Int := if cell (S.line a) c < 0 then -1 else 1
theorem sgC_sq (S : Tab) (a c : Nat) : sgC S a c * sgC S a c = 1 := by unfold sgC; split <;> rfl
theorem turn_a {S : Tab} (ok : TabSh S) {a : Nat} (ha : a < S.high) (c : Nat) : ((turnT a c S).getD a []).length = S.wide + S.high + 1 ∧ ∀ j, cell ((turnT a c S).getD a []) j = sgC S a c * cell (S.line a) j := by
  have l := (ok.line ha).2
  have la : a < S.lines.length := by rw [ok.ll]; exact ha
  unfold turnT sgC
  by_cases h : cell (S.line a) c < 0
  · rw [if_pos h, if_pos h, m_getD_set la, if_pos rfl]
    unfold negL
    refine ⟨by rw [List.length_map]; exact l, fun j => ?_⟩
    rw [cell_map (f := fun z => -z) rfl]
    omega
  · rw [if_neg h, if_neg h]
    refine ⟨l, fun j => ?_⟩
    rw [Int.one_mul]
    rfl
theorem turn_i {S : Tab} (ok : TabSh S) {a i : Nat} (ha : a < S.high) (hn : i ≠ a) (c : Nat) : (turnT a c S).getD i [] = S.line i := by
  have la : a < S.lines.length := by rw [ok.ll]; exact ha
  unfold turnT
  by_cases h : cell (S.line a) c < 0
  · rw [if_pos h, m_getD_set la, if_neg hn]
    rfl
  · rw [if_neg h]
    rfl
theorem change_line {S : Tab} {a c i : Nat} (hi : i < S.high) : (changeT a c S).line i = if i = a then (turnT a c S).getD a [] else clearedL S.low ((turnT a c S).getD i []) ((turnT a c S).getD a []) c := by
  show ((List.range S.high).map _).getD i [] = _
  rw [List.getD_eq_getElem?_getD, List.getElem?_map, List.getElem?_range hi]
  rfl
theorem Lx_real {S : Tab} {i j : Nat} (hi : i < S.high) (hj : j < 100) : Lx S i j = cell (S.line i) j := by unfold Lx; rw [if_pos hi, if_pos hj]
theorem Lx_pad {S : Tab} {i j : Nat} (hi : ¬ i < S.high) : Lx S i j = if j = 100 + i then S.low else 0 := by unfold Lx; rw [if_neg hi]
theorem Lx_far {S : Tab} {i j : Nat} (hi : i < S.high) (hj : ¬ j < 100) : Lx S i j = 0 := by unfold Lx; rw [if_pos hi, if_neg hj]
theorem change_low {S : Tab} (ok : TabSh S) {a c : Nat} (ha : a < S.high) (hc : c < 100) : (changeT a c S).low = sgC S a c * Lx S a c := by
  show cell ((turnT a c S).getD a []) c = _
  rw [(turn_a ok ha c).2, Lx_real ha hc]
theorem change_L {S : Tab} (ok : TabSh S) (lp : 0 < S.low) {a c : Nat} (ha : a < S.high) (hc : c < 100) : ∀ i j, Lx (changeT a c S) i j = pivL (Lx S) S.low (sgC S a c) a c i j := by
  intro i j
  have hh : (changeT a c S).high = S.high := rfl
  obtain ⟨tl, tc⟩ := turn_a ok ha c
  unfold pivL
  by_cases hi : i < S.high
  · by_cases hj : j < 100
    · rw [Lx_real (by rw [hh]; exact hi) hj, change_line hi, Lx_real ha hj, Lx_real ha hc]
      by_cases e : i = a
      · rw [if_pos e, if_pos e, tc]
      · rw [if_neg e, if_neg e, turn_i ok ha e, cleared_cell (by rw [tl]; exact (ok.line hi).2), tc, tc, Lx_real hi hj, Lx_real hi hc]
    · rw [Lx_far (by rw [hh]; exact hi) hj, Lx_far ha hj, Lx_far hi hj]
      by_cases e : i = a
      · rw [if_pos e, Int.mul_zero]
      · rw [if_neg e, Int.zero_mul, Int.mul_zero, Int.zero_mul, Int.sub_zero, Int.zero_ediv]
  · have e : i ≠ a := fun z => hi (by omega)
    rw [Lx_pad (by rw [hh]; exact hi), if_neg e, Lx_pad hi, Lx_pad (j := c) hi, if_neg (by omega : ¬ c = 100 + i), change_low ok ha hc]
    by_cases hj : j = 100 + i
    · rw [if_pos hj, if_pos hj, Int.mul_zero, Int.sub_zero, Int.mul_ediv_cancel_left _ (by omega)]
    · rw [if_neg hj, if_neg hj, Int.zero_mul, Int.mul_zero, Int.sub_zero, Int.zero_ediv]
theorem change_h {S : Tab} (ok : TabSh S) {a c : Nat} (ha : a < S.high) : ∀ k, hx (changeT a c S) k = pivH (hx S) a c k := by
  intro k
  have hh : (changeT a c S).high = S.high := rfl
  have la : a < S.held.length := by rw [ok.hl]; exact ha
  show (if k < (changeT a c S).high then (changeT a c S).hold k else 100 + k) = if k = a then c else if k < S.high then S.hold k else 100 + k
  rw [hh]
  by_cases hk : k < S.high
  · rw [if_pos hk, if_pos hk]
    show (S.held.set a c).getD k 0 = _
    rw [m_getD_set la]
    rfl
  · rw [if_neg hk, if_neg (show ¬ k = a by omega), if_neg hk]
theorem change_sh {S : Tab} (ok : TabSh S) {a c : Nat} (ha : a < S.high) (hc : c < S.wide + S.high) : TabSh (changeT a c S) := by
  obtain ⟨tl, _⟩ := turn_a ok ha c
  refine ⟨ok.h, ok.w, ok.tl, ?_, ?_, fun r hr => ?_, fun k hk => ?_⟩
  · show ((List.range S.high).map _).length = S.high
    rw [List.length_map, List.length_range]
  · show (S.held.set a c).length = S.high
    rw [List.length_set]
    exact ok.hl
  · obtain ⟨i, hi, rfl⟩ := List.mem_map.mp (show r ∈ (List.range S.high).map _ from hr)
    have hi := List.mem_range.mp hi
    show (if i = a then _ else _ : List Int).length = S.wide + S.high + 1
    by_cases e : i = a
    · rw [if_pos e]; exact tl
    · rw [if_neg e, turn_i ok ha e]
      unfold clearedL
      rw [List.length_zipWith, tl, (ok.line hi).2]
      omega
  · rcases List.mem_or_eq_of_mem_set (show k ∈ S.held.set a c from hk) with h | h
    · exact ok.hb k h
    · rw [h]; exact hc
/-- the left row holds the weights -/
structure LeftOk (w : Nat → Int) (S : Tab) : Prop where
  len : S.left.length = S.wide + S.high + 1
  eq : ∀ j, j < 100 → cell S.left j = leftF w (Lx S) (hx S) S.low j
structure TG (T : Mx) (S : Tab) : Prop where
  sh : TabSh S
  g : Good T (Lx S) (hx S) S.low
theorem TG.change {T : Mx} {S : Tab} (t : TG T S) {a c : Nat} (ha : a < S.high) (hc : c < S.wide + S.high) (hz : cell (S.line a) c ≠ 0) : TG T (changeT a c S) := by
  have h3 := t.sh.h
  have hw := t.sh.w
  have hv : 0 < sgC S a c * Lx S a c := by
    rw [Lx_real ha (by omega)]
    unfold sgC
    split <;> omega
  have g := t.g.piv (a := a) (c := c) (by omega) (sgC_sq S a c) hv
  have e1 : Lx (changeT a c S) = pivL (Lx S) S.low (sgC S a c) a c := by
    funext i j
    exact change_L t.sh t.g.lp ha (by omega) i j
  have e2 : hx (changeT a c S) = pivH (hx S) a c := by
    funext k
    exact change_h t.sh ha k
  refine ⟨change_sh t.sh ha hc, ?_⟩
  rw [e1, e2, change_low t.sh ha (by omega)]
  exact g
theorem LeftOk.change {T : Mx} {S : Tab} (t : TG T S) {w : Nat → Int} (l : LeftOk w S) {a c : Nat} (ha : a < S.high) (hc : c < S.wide + S.high) : LeftOk w (changeT a c S) := by
  have h3 := t.sh.h
  have hw := t.sh.w
  obtain ⟨tl, tc⟩ := turn_a t.sh ha c
  refine ⟨?_, fun j hj => ?_⟩
  · show (clearedL S.low S.left _ c).length = S.wide + S.high + 1
    unfold clearedL
    rw [List.length_zipWith, tl, l.len]
    omega
  · show cell (clearedL S.low S.left _ c) j = _
    have e1 : Lx (changeT a c S) = pivL (Lx S) S.low (sgC S a c) a c := by
      funext i j
      exact change_L t.sh t.g.lp ha (by omega) i j
    have e2 : hx (changeT a c S) = pivH (hx S) a c := by
      funext k
      exact change_h t.sh ha k
    rw [cleared_cell (by rw [tl]; exact l.len), tc, tc, l.eq j hj, l.eq c (by omega), e1, e2, change_low t.sh ha (by omega), ← Lx_real ha hj, ← Lx_real ha (by omega : c < 100)]
    rw [t.g.left_piv (by omega)]
    exact Int.mul_ediv_cancel_left _ (by have := t.g.lp; omega)
/-! sizes -/
def TB (T : Mx) : Prop := ∀ i j, Bi 22 (T i j)
theorem d3_bi {T : Mx} (b : TB T) (j k l : Nat) : Bi 72 (D3 T j k l) := by
  unfold D3
  have m : ∀ a b c d e f, Bi 68 (T a b * (T c d * T e f - T e d * T c f)) := fun a b' c d e f => ((b a b').mul (((b c d).mul (b e f)).sub ((b e d).mul (b c f)))).mono (by decide)
  exact (((m 0 j 1 k 2 l).sub (m 1 j 0 k 2 l)).add ((m 2 j 0 k 1 l).mono (by decide))).mono (by decide)
theorem sg_bi {s x : Int} {k : Nat} (hs : s * s = 1) (h : Bi k x) : Bi k (s * x) := by
  have : s = 1 ∨ s = -1 := by
    have h1 : (s - 1) * (s + 1) = 0 := by grind
    rcases Int.mul_eq_zero.mp h1 with z | z <;> omega
  rcases this with rfl | rfl
  · rw [Int.one_mul]; exact h
  · rw [Int.neg_one_mul]; exact h.neg
theorem TG.bi {T : Mx} {S : Tab} (t : TG T S) (b : TB T) : (∀ i j, i < 3 → Bi 72 (Lx S i j)) ∧ Bi 72 S.low := by
  obtain ⟨s, hs, hc⟩ := t.g.cramer
  have key : ∀ i j, i < 3 → Bi 72 (Lx S i j) := fun i j hi => by
    match i, hi with
    | 0, _ => rw [(hc j).1]; exact sg_bi hs (d3_bi b _ _ _)
    | 1, _ => rw [(hc j).2.1]; exact sg_bi hs (d3_bi b _ _ _)
    | 2, _ => rw [(hc j).2.2]; exact sg_bi hs (d3_bi b _ _ _)
  refine ⟨key, ?_⟩
  have := key 0 (hx S 0) (by decide)
  rw [t.g.u.1.1] at this
  exact this
theorem TG.ok0 {T : Mx} {S : Tab} (t : TG T S) (b : TB T) : TabOk0 S := by
  have s := t.sh
  obtain ⟨b1, b2⟩ := t.bi b
  refine ⟨s.h, s.w, s.tl, s.ll, s.hl, s.rl, fun r hr z hz => ?_, t.g.lp, b2.mono (by decide), s.hb⟩
  obtain ⟨i, hi⟩ := List.mem_iff_getElem?.mp hr
  obtain ⟨j, hj⟩ := List.mem_iff_getElem?.mp hz
  have il : i < S.high := by rw [← s.ll]; exact (List.getElem?_eq_some_iff.mp hi).1
  have jl := (List.getElem?_eq_some_iff.mp hj).1
  rw [s.rl r hr] at jl
  have h3 := s.h
  have hw := s.w
  have e : Lx S i j = z := by
    rw [Lx_real il (by omega)]
    unfold cell Tab.line
    rw [List.getD_eq_getElem?_getD, List.getD_eq_getElem?_getD, hi]
    show r[j]?.getD 0 = z
    rw [hj]
    rfl
  rw [← e]
  exact (b1 i j (by omega)).mono (by decide)
theorem TG.ok {T : Mx} {S : Tab} (t : TG T S) (b : TB T) {w : Nat → Int} (l : LeftOk w S) (hw : ∀ j, Bi 9 (w j)) : TabOk S := by
  have s := t.sh
  obtain ⟨b1, b2⟩ := t.bi b
  refine ⟨t.ok0 b, l.len, fun z hz => ?_⟩
  obtain ⟨j, hj⟩ := List.mem_iff_getElem?.mp hz
  have jl := (List.getElem?_eq_some_iff.mp hj).1
  rw [l.len] at jl
  have h3 := s.h
  have hw6 := s.w
  have e : cell S.left j = z := by
    unfold cell
    rw [List.getD_eq_getElem?_getD, hj]
    rfl
  rw [← e, l.eq j (by omega)]
  unfold leftF
  have m : ∀ i, i < 3 → Bi 81 (w (hx S i) * Lx S i j) := fun i hi => ((hw _).mul (b1 i j hi)).mono (by decide)
  have r : Bi 84 (w (hx S 0) * Lx S 0 j + w (hx S 1) * Lx S 1 j + w (hx S 2) * Lx S 2 j) := (((m 0 (by decide)).add (m 1 (by decide))).add ((m 2 (by decide)).mono (by decide))).mono (by decide)
  exact ((((b2.mul (hw j)).mono (by decide : 72 + 9 ≤ 84)).sub r).mono (by decide : 85 ≤ 100) : Bi 100 _)
end WM

set_option Elab.async false
set_option linter.all false
set_option maxHeartbeats 1000000
/-! Weighing; the first table. -/
namespace WM
theorem weigh_fold (costs : List Int) : ∀ (ps : List (List Int × Nat)) (left : List Int), (∀ p ∈ ps, p.1.length = left.length) →
    (ps.foldl (weighStep costs) left).length = left.length ∧ ∀ j, cell (ps.foldl (weighStep costs) left) j = cell left j - (ps.map fun p => cell costs p.2 * cell p.1 j).sum
  | [], left, _ => ⟨rfl, fun j => by simp⟩
  | p :: ps, left, h => by
    have hp := h p (by simp)
    have hl : (weighStep costs left p).length = left.length := by
      unfold weighStep
      rw [List.length_zipWith]
      omega
    obtain ⟨h1, h2⟩ := weigh_fold costs ps (weighStep costs left p) fun q hq => by rw [hl]; exact h q (by simp [hq])
    refine ⟨by rw [List.foldl_cons, h1, hl], fun j => ?_⟩
    rw [List.foldl_cons, h2, List.map_cons, List.sum_cons]
    have e : cell (weighStep costs left p) j = cell left j - cell costs p.2 * cell p.1 j := by
      unfold weighStep
      rw [cell_zip hp.symm]
      rw [Int.mul_zero, Int.sub_zero]
    rw [e]
    omega
theorem cell_app_l {r q : List Int} {j : Nat} (h : j < r.length) : cell (r ++ q) j = cell r j := by
  unfold cell
  rw [List.getD_eq_getElem?_getD, List.getD_eq_getElem?_getD, List.getElem?_append_left h]
theorem cell_app_r {r q : List Int} {j : Nat} (h : r.length ≤ j) : cell (r ++ q) j = cell q (j - r.length) := by
  unfold cell
  rw [List.getD_eq_getElem?_getD, List.getD_eq_getElem?_getD, List.getElem?_append_right h]
theorem cell_zero_tail {r : List Int} (j : Nat) : cell (r ++ [0]) j = cell r j := by
  by_cases h : j < r.length
  · exact cell_app_l h
  · rw [cell_app_r (by omega), cell_out (by omega : r.length ≤ j)]
    unfold cell
    cases e : j - r.length with
    | zero => rfl
    | succ k => rfl
theorem TabSh.weigh {S : Tab} (ok : TabSh S) (costs : List Int) : TabSh (weighT costs S) := ⟨ok.h, ok.w, ok.tl, ok.ll, ok.hl, ok.rl, ok.hb⟩
theorem weigh_Lx (costs : List Int) (S : Tab) : Lx (weighT costs S) = Lx S ∧ hx (weighT costs S) = hx S := ⟨rfl, rfl⟩
theorem TG.weigh {T : Mx} {S : Tab} (t : TG T S) (costs : List Int) : TG T (weighT costs S) := ⟨t.sh.weigh costs, t.g⟩
theorem LeftOk.weigh {S : Tab} (ok : TabSh S) {costs : List Int} (hc : costs.length = S.wide + S.high) : LeftOk (cell costs) (weighT costs S) := by
  have h3 := ok.h
  have hw := ok.w
  have hl0 : (costs.map (fun z => S.low * z) ++ [0]).length = S.wide + S.high + 1 := by rw [List.length_append, List.length_map, hc]; rfl
  obtain ⟨h1, h2⟩ := weigh_fold costs (S.lines.zip S.held) (costs.map (fun z => S.low * z) ++ [0]) fun p hp => by rw [hl0]; exact ok.rl _ (List.of_mem_zip hp).1
  have pad : ∀ i, cell costs (100 + i) = 0 := fun i => cell_out (by omega)
  refine ⟨h1.trans hl0, fun j hj => ?_⟩
  show cell ((S.lines.zip S.held).foldl (weighStep costs) (costs.map (fun z => S.low * z) ++ [0])) j = _
  rw [h2, cell_zero_tail, cell_map (f := fun z => S.low * z) (Int.mul_zero _)]
  have hll := ok.ll
  have hhl := ok.hl
  show _ = S.low * cell costs j - (cell costs (hx S 0) * Lx S 0 j + cell costs (hx S 1) * Lx S 1 j + cell costs (hx S 2) * Lx S 2 j)
  have real : ∀ i, i < S.high → cell costs (hx S i) * Lx S i j = cell costs (S.held.getD i 0) * cell (S.lines.getD i []) j := fun i hi => by
    rw [Lx_real hi hj]
    unfold hx
    rw [if_pos hi]
    rfl
  have padded : ∀ i, ¬ i < S.high → cell costs (hx S i) * Lx S i j = 0 := fun i hi => by
    unfold hx
    rw [if_neg hi, pad, Int.zero_mul]
  obtain ⟨wide, high, turned, lines, held, low, left⟩ := S
  have hll : lines.length = high := hll
  have hhl : held.length = high := hhl
  have h3 : 1 ≤ high ∧ high ≤ 3 := h3
  match lines, held, hll, hhl with
  | [a], [x], e1, e2 =>
    have e : high = 1 := e1.symm
    rw [real 0 (by show 0 < high; omega), padded 1 (by show ¬ 1 < high; omega), padded 2 (by show ¬ 2 < high; omega)]
    simp
  | [a, b], [x, y], e1, e2 =>
    have e : high = 2 := e1.symm
    rw [real 0 (by show 0 < high; omega), real 1 (by show 1 < high; omega), padded 2 (by show ¬ 2 < high; omega)]
    simp
  | [a, b, c], [x, y, z], e1, e2 =>
    have e : high = 3 := e1.symm
    rw [real 0 (by show 0 < high; omega), real 1 (by show 1 < high; omega), real 2 (by show 2 < high; omega)]
    simp
    omega
  | [], _, e1, _ => simp at e1; omega
  | _ :: _ :: _ :: _ :: _, _, e1, _ => simp at e1; omega
  | [_], [], e1, e2 => simp at e1 e2; omega
  | [_], _ :: _ :: _, e1, e2 => simp at e1 e2; omega
  | [_, _], [], e1, e2 => simp at e1 e2; omega
  | [_, _], [_], e1, e2 => simp at e1 e2; omega
  | [_, _], _ :: _ :: _ :: _, e1, e2 => simp at e1 e2; omega
  | [_, _, _], [], e1, e2 => simp at e1 e2; omega
  | [_, _, _], [_], e1, e2 => simp at e1 e2; omega
  | [_, _, _], [_, _], e1, e2 => simp at e1 e2; omega
  | [_, _, _], _ :: _ :: _ :: _ :: _, e1, e2 => simp at e1 e2; omega
end WM

set_option Elab.async false
set_option linter.all false
set_option maxHeartbeats 1000000
/-! The first table. -/
namespace WM
structure Inp (c : List Int) (A : List (List Int)) (b : List Int) : Prop where
  n : 1 ≤ c.length ∧ c.length ≤ 3
  m : 1 ≤ A.length ∧ A.length ≤ 3
  rl : ∀ r ∈ A, r.length = c.length
  bl : b.length = A.length
  ab : ∀ r ∈ A, ∀ z ∈ r, Bi 8 z
  cb : ∀ z ∈ c, Bi 8 z
  bb : ∀ z ∈ b, Bi 20 z
abbrev S0 (A : List (List Int)) (b : List Int) : Tab := initT (extRows A) b
def sg (b : List Int) (i : Nat) : Int := sgT (cell b i)
def ac (A : List (List Int)) (i j : Nat) : Int := cell (A.getD i []) j
theorem sg_sq (b : List Int) (i : Nat) : sg b i * sg b i = 1 := by unfold sg sgT; split <;> rfl
theorem getD_nil {α : Type} {xs : List (List α)} {i : Nat} (h : xs.length ≤ i) : xs.getD i [] = [] := by
  rw [List.getD_eq_getElem?_getD, List.getElem?_eq_none h]
  rfl
theorem bz {k : Nat} : Bi k 0 := Nat.two_pow_pos k
section
variable {c : List Int} {A : List (List Int)} {b : List Int}
theorem Inp.row (p : Inp c A b) {i : Nat} (hi : i < A.length) : (A.getD i []).length = c.length := p.rl _ (List.mem_of_getElem? (m_getD_at hi))
theorem Inp.ac_out (p : Inp c A b) {i j : Nat} (h : ¬ (i < A.length ∧ j < c.length)) : ac A i j = 0 := by
  unfold ac
  by_cases hi : i < A.length
  · exact cell_out (by rw [p.row hi]; omega)
  · rw [getD_nil (by omega)]
    rfl
theorem Inp.bc_out (p : Inp c A b) {i : Nat} (h : ¬ i < A.length) : cell b i = 0 := cell_out (by rw [p.bl]; omega)
theorem unit_len (v : Int) (n i : Nat) : (unitN v n i).length = n := by unfold unitN; rw [List.length_map, List.length_range]
theorem unit_cell (v : Int) {n : Nat} (i : Nat) {k : Nat} (h : k < n) : cell (unitN v n i) k = if k = i then v else 0 := by
  unfold unitN cell
  rw [List.getD_eq_getElem?_getD, List.getElem?_map, List.getElem?_range h]
  rfl
theorem ext_get {i : Nat} (h : i < A.length) : (extRows A).getD i [] = A.getD i [] ++ unitN (-1) A.length i := by
  unfold extRows
  rw [List.getD_eq_getElem?_getD, List.getElem?_map, List.getElem?_range h]
  rfl
theorem ext_len (A : List (List Int)) : (extRows A).length = A.length := by unfold extRows; rw [List.length_map, List.length_range]
theorem Inp.wide (p : Inp c A b) : (S0 A b).wide = c.length + A.length := by
  show ((extRows A).getD 0 []).length = _
  rw [ext_get (by have := p.m; omega), List.length_append, unit_len, p.row (by have := p.m; omega)]
theorem Inp.high (p : Inp c A b) : (S0 A b).high = A.length := ext_len A
theorem Inp.line (p : Inp c A b) {i : Nat} (h : i < A.length) : (S0 A b).line i = (A.getD i [] ++ unitN (-1) A.length i).map (fun z => sg b i * z) ++ unitN 1 A.length i ++ [sg b i * cell b i] := by
  show ((List.range (extRows A).length).map (initLine (extRows A) b)).getD i [] = _
  rw [List.getD_eq_getElem?_getD, List.getElem?_map, ext_len, List.getElem?_range h]
  show initLine (extRows A) b i = _
  unfold initLine
  rw [ext_get h, ext_len]
  rfl
theorem Inp.c_x (p : Inp c A b) {i j : Nat} (h : i < A.length) (hj : j < c.length) : cell ((S0 A b).line i) j = sg b i * ac A i j := by
  rw [p.line h, List.append_assoc, cell_app_l (by rw [List.length_map, List.length_append, p.row h]; omega), cell_map (f := fun z => sg b i * z) (Int.mul_zero _), cell_app_l (by rw [p.row h]; exact hj)]
  rfl
theorem Inp.c_s (p : Inp c A b) {i k : Nat} (h : i < A.length) (hk : k < A.length) : cell ((S0 A b).line i) (c.length + k) = if k = i then - sg b i else 0 := by
  rw [p.line h, List.append_assoc, cell_app_l (by rw [List.length_map, List.length_append, p.row h, unit_len]; omega), cell_map (f := fun z => sg b i * z) (Int.mul_zero _), cell_app_r (by rw [p.row h]; omega), p.row h, Nat.add_sub_cancel_left, unit_cell _ _ hk]
  split <;> omega
theorem Inp.c_a (p : Inp c A b) {i k : Nat} (h : i < A.length) (hk : k < A.length) : cell ((S0 A b).line i) (c.length + A.length + k) = if k = i then 1 else 0 := by
  rw [p.line h, List.append_assoc, cell_app_r (by rw [List.length_map, List.length_append, p.row h, unit_len]; omega), List.length_map, List.length_append, p.row h, unit_len, Nat.add_sub_cancel_left, cell_app_l (by rw [unit_len]; exact hk), unit_cell _ _ hk]
theorem Inp.c_r (p : Inp c A b) {i : Nat} (h : i < A.length) : cell ((S0 A b).line i) (c.length + A.length + A.length) = sg b i * cell b i := by
  rw [p.line h, cell_app_r (by rw [List.length_append, List.length_map, List.length_append, p.row h, unit_len, unit_len]; omega), List.length_append, List.length_map, List.length_append, p.row h, unit_len, unit_len, Nat.sub_self]
  rfl
theorem Inp.len (p : Inp c A b) {i : Nat} (h : i < A.length) : ((S0 A b).line i).length = c.length + A.length + A.length + 1 := by
  rw [p.line h, List.length_append, List.length_append, List.length_map, List.length_append, p.row h, unit_len, unit_len]
  rfl
theorem Inp.hold (p : Inp c A b) {i : Nat} (h : i < A.length) : (S0 A b).hold i = c.length + A.length + i := by
  have e : (S0 A b).held = (List.range A.length).map fun i => c.length + A.length + i := by
    show (List.range (extRows A).length).map (fun i => (S0 A b).wide + i) = _
    rw [p.wide, ext_len]
  unfold Tab.hold
  rw [e, List.getD_eq_getElem?_getD, List.getElem?_map, List.getElem?_range h]
  rfl
theorem Inp.sh (p : Inp c A b) : TabSh (S0 A b) := by
  have hw := p.wide
  have hh := p.high
  have hn := p.n
  have hm := p.m
  have ll : (S0 A b).lines.length = A.length := by show ((List.range (extRows A).length).map _).length = _; rw [List.length_map, List.length_range, ext_len]
  refine ⟨by rw [hh]; exact p.m, by rw [hw]; omega, ?_, by rw [hh]; exact ll, ?_, fun r hr => ?_, fun k hk => ?_⟩
  · show (b.map _).length = (S0 A b).high
    rw [List.length_map, hh, p.bl]
  · show ((List.range (extRows A).length).map _).length = (S0 A b).high
    rw [List.length_map, List.length_range, hh, ext_len]
  · obtain ⟨i, hi⟩ := List.mem_iff_getElem?.mp hr
    have il := (List.getElem?_eq_some_iff.mp hi).1
    rw [ll] at il
    have e : (S0 A b).line i = r := by unfold Tab.line; rw [List.getD_eq_getElem?_getD, hi]; rfl
    rw [← e, p.len il, hw, hh]
  · obtain ⟨i, hi, rfl⟩ := List.mem_map.mp (show k ∈ (List.range (extRows A).length).map (fun i => (S0 A b).wide + i) from hk)
    have := List.mem_range.mp hi
    rw [ext_len] at this
    rw [hh]
    omega
/-- the first table as a matrix -/
abbrev T0 (A : List (List Int)) (b : List Int) : Mx := Lx (S0 A b)
abbrev o0 (A : List (List Int)) (b : List Int) : Nat → Nat := hx (S0 A b)
theorem Inp.o_real (p : Inp c A b) {i : Nat} (h : i < A.length) : o0 A b i = c.length + A.length + i := by
  unfold o0 hx
  rw [if_pos (by rw [p.high]; exact h), p.hold h]
theorem Inp.o_pad (p : Inp c A b) {i : Nat} (h : ¬ i < A.length) : o0 A b i = 100 + i := by
  unfold o0 hx
  rw [if_neg (by rw [p.high]; exact h)]
theorem Inp.t_x (p : Inp c A b) (i : Nat) {j : Nat} (hj : j < c.length) : T0 A b i j = sg b i * ac A i j := by
  have hn := p.n
  by_cases h : i < A.length
  · rw [← p.c_x h hj]
    exact Lx_real (by rw [p.high]; exact h) (by omega)
  · rw [p.ac_out (fun z => h z.1), Int.mul_zero]
    exact (Lx_pad (by rw [p.high]; exact h)).trans (if_neg (by omega))
theorem Inp.t_s (p : Inp c A b) (i : Nat) {k : Nat} (hk : k < A.length) : T0 A b i (c.length + k) = if k = i then - sg b i else 0 := by
  have hn := p.n
  have hm := p.m
  by_cases h : i < A.length
  · rw [← p.c_s h hk]
    exact Lx_real (by rw [p.high]; exact h) (by omega)
  · rw [if_neg (by omega)]
    exact (Lx_pad (by rw [p.high]; exact h)).trans (if_neg (by omega))
theorem Inp.t_a (p : Inp c A b) (i : Nat) {k : Nat} (hk : k < A.length) : T0 A b i (c.length + A.length + k) = if k = i then 1 else 0 := by
  have hn := p.n
  have hm := p.m
  by_cases h : i < A.length
  · rw [← p.c_a h hk]
    exact Lx_real (by rw [p.high]; exact h) (by omega)
  · rw [if_neg (by omega)]
    exact (Lx_pad (by rw [p.high]; exact h)).trans (if_neg (by omega))
theorem Inp.t_r (p : Inp c A b) (i : Nat) : T0 A b i (c.length + A.length + A.length) = sg b i * cell b i := by
  have hn := p.n
  have hm := p.m
  by_cases h : i < A.length
  · rw [← p.c_r h]
    exact Lx_real (by rw [p.high]; exact h) (by omega)
  · rw [p.bc_out h, Int.mul_zero]
    exact (Lx_pad (by rw [p.high]; exact h)).trans (if_neg (by omega))
theorem Inp.t_p (p : Inp c A b) (i : Nat) {k : Nat} (hk : ¬ k < A.length) : T0 A b i (100 + k) = if k = i then 1 else 0 := by
  have hm := p.m
  by_cases h : i < A.length
  · rw [if_neg (by omega)]
    exact Lx_far (by rw [p.high]; exact h) (by omega)
  · refine (Lx_pad (by rw [p.high]; exact h)).trans ?_
    show (if 100 + k = 100 + i then (1 : Int) else 0) = _
    by_cases e : k = i
    · rw [if_pos (by omega), if_pos e]
    · rw [if_neg (by omega), if_neg e]
theorem Inp.good (p : Inp c A b) : Good (T0 A b) (T0 A b) (o0 A b) 1 := by
  refine ⟨by decide, fun i k hi hk => ?_, 1, rfl, fun j k l => by rw [Int.mul_one, Int.one_mul, Int.one_mul]⟩
  by_cases h : k < A.length
  · rw [p.o_real h, p.t_a i h]
    by_cases e : k = i
    · rw [if_pos e, if_pos e.symm]
    · rw [if_neg e, if_neg (Ne.symm e)]
  · rw [p.o_pad h, p.t_p i h]
    by_cases e : k = i
    · rw [if_pos e, if_pos e.symm]
    · rw [if_neg e, if_neg (Ne.symm e)]
theorem Inp.tg (p : Inp c A b) : TG (T0 A b) (S0 A b) := ⟨p.sh, p.good⟩
theorem mem_cell {r : List Int} {k : Nat} (h : ∀ z ∈ r, Bi k z) (j : Nat) : Bi k (cell r j) := by
  unfold cell
  rw [List.getD_eq_getElem?_getD]
  cases e : r[j]? with
  | none => exact bz
  | some z => exact h z (List.mem_of_getElem? e)
theorem Inp.ac_bi (p : Inp c A b) (i j : Nat) : Bi 8 (ac A i j) := by
  unfold ac
  by_cases hi : i < A.length
  · exact mem_cell (p.ab _ (List.mem_of_getElem? (m_getD_at hi))) j
  · rw [getD_nil (by omega)]
    exact bz
/-- the columns by kinds -/
theorem Inp.cols (p : Inp c A b) {j : Nat} (h : j < c.length + A.length + A.length + 1) : j < c.length ∨ (∃ k, k < A.length ∧ j = c.length + k) ∨ (∃ k, k < A.length ∧ j = c.length + A.length + k) ∨ j = c.length + A.length + A.length := by
  by_cases h1 : j < c.length
  · exact .inl h1
  · by_cases h2 : j < c.length + A.length
    · exact .inr (.inl ⟨j - c.length, by omega, by omega⟩)
    · by_cases h3 : j < c.length + A.length + A.length
      · exact .inr (.inr (.inl ⟨j - (c.length + A.length), by omega, by omega⟩))
      · exact .inr (.inr (.inr (by omega)))
theorem sg_bi1 (b : List Int) (i : Nat) : Bi 1 (sg b i) := by
  unfold sg sgT
  split
  · show (-1 : Int).natAbs < 2 ^ 1; decide
  · show (1 : Int).natAbs < 2 ^ 1; decide
theorem Inp.tb (p : Inp c A b) : TB (T0 A b) := fun i j => by
  have hn := p.n
  have hm := p.m
  have b1 : Bi 22 (1 : Int) := by show (1 : Int).natAbs < 2 ^ 22; decide
  by_cases hi : i < A.length
  · by_cases hj : j < 100
    · by_cases hc : j < c.length + A.length + A.length + 1
      · rcases p.cols hc with h | ⟨k, hk, rfl⟩ | ⟨k, hk, rfl⟩ | rfl
        · rw [p.t_x i h]; exact ((sg_bi1 b i).mul (p.ac_bi i j)).mono (by decide)
        · rw [p.t_s i hk]
          split
          · exact (sg_bi1 b i).neg.mono (by decide)
          · exact bz
        · rw [p.t_a i hk]
          split
          · exact b1
          · exact bz
        · rw [p.t_r i]; exact ((sg_bi1 b i).mul (mem_cell p.bb i)).mono (by decide)
      · have e : T0 A b i j = cell ((S0 A b).line i) j := Lx_real (by rw [p.high]; exact hi) hj
        rw [e, cell_out (by rw [p.len hi]; omega)]
        exact bz
    · have e : T0 A b i j = 0 := Lx_far (by rw [p.high]; exact hi) hj
      rw [e]
      exact bz
  · have e : T0 A b i j = if j = 100 + i then (1 : Int) else 0 := Lx_pad (by rw [p.high]; exact hi)
    rw [e]
    split
    · exact b1
    · exact bz
end
end WM

set_option Elab.async false
set_option linter.all false
set_option maxHeartbeats 1000000
/-! What every table says about the task: duals from the left row, the held columns' values. -/
namespace WM
theorem Good.inj {T L : Mx} {h : Nat → Nat} {low : Int} (g : Good T L h low) {i k : Nat} (hi : i < 3) (hk : k < 3) (e : h i = h k) : i = k := by
  have h1 := g.un i i hi hi
  have h2 := g.un i k hi hk
  rw [if_pos rfl] at h1
  rw [e] at h1
  rw [h1] at h2
  apply Classical.byContradiction
  intro z
  rw [if_neg z] at h2
  have := g.lp
  omega
def Qw (w : Nat → Int) (L : Mx) (h o : Nat → Nat) (k : Nat) : Int := w (h 0) * L 0 (o k) + w (h 1) * L 1 (o k) + w (h 2) * L 2 (o k)
section
variable {c : List Int} {A : List (List Int)} {b : List Int}
def Pw (A : List (List Int)) (b : List Int) (w : Nat → Int) (S : Tab) (k : Nat) : Int := sg b k * Qw w (Lx S) (hx S) (o0 A b) k
theorem left_T (p : Inp c A b) {S : Tab} (t : TG (T0 A b) S) (w : Nat → Int) (j : Nat) :
    leftF w (Lx S) (hx S) S.low j = S.low * w j - (Qw w (Lx S) (hx S) (o0 A b) 0 * T0 A b 0 j + Qw w (Lx S) (hx S) (o0 A b) 1 * T0 A b 1 j + Qw w (Lx S) (hx S) (o0 A b) 2 * T0 A b 2 j) := by
  unfold leftF Qw
  rw [t.g.rows p.good 0 j (by decide), t.g.rows p.good 1 j (by decide), t.g.rows p.good 2 j (by decide)]
  grind
theorem left_x (p : Inp c A b) {S : Tab} (t : TG (T0 A b) S) (w : Nat → Int) {j : Nat} (hj : j < c.length) :
    leftF w (Lx S) (hx S) S.low j = S.low * w j - (Pw A b w S 0 * ac A 0 j + Pw A b w S 1 * ac A 1 j + Pw A b w S 2 * ac A 2 j) := by
  rw [left_T p t, p.t_x 0 hj, p.t_x 1 hj, p.t_x 2 hj]
  unfold Pw
  grind
theorem left_s (p : Inp c A b) {S : Tab} (t : TG (T0 A b) S) (w : Nat → Int) {k : Nat} (hk : k < A.length) :
    leftF w (Lx S) (hx S) S.low (c.length + k) = S.low * w (c.length + k) + Pw A b w S k := by
  have hm := p.m
  rw [left_T p t, p.t_s 0 hk, p.t_s 1 hk, p.t_s 2 hk]
  unfold Pw
  have h3 : k < 3 := by omega
  match k, h3 with
  | 0, _ => simp; grind
  | 1, _ => simp; grind
  | 2, _ => simp; grind
theorem left_r (p : Inp c A b) {S : Tab} (t : TG (T0 A b) S) (w : Nat → Int) :
    leftF w (Lx S) (hx S) S.low (c.length + A.length + A.length) = S.low * w (c.length + A.length + A.length) - (Pw A b w S 0 * cell b 0 + Pw A b w S 1 * cell b 1 + Pw A b w S 2 * cell b 2) := by
  rw [left_T p t, p.t_r 0, p.t_r 1, p.t_r 2]
  unfold Pw
  grind
theorem left_a (p : Inp c A b) {S : Tab} (t : TG (T0 A b) S) (w : Nat → Int) {k : Nat} (hk : k < A.length) :
    leftF w (Lx S) (hx S) S.low (c.length + A.length + k) = S.low * w (c.length + A.length + k) - Qw w (Lx S) (hx S) (o0 A b) k := by
  have hm := p.m
  rw [left_T p t, p.t_a 0 hk, p.t_a 1 hk, p.t_a 2 hk]
  have h3 : k < 3 := by omega
  match k, h3 with
  | 0, _ => simp
  | 1, _ => simp
  | 2, _ => simp
/-! ### columns held -/
def ee (x y : Nat) : Rat := if x = y then 1 else 0
theorem ee_same (x : Nat) : ee x x = 1 := if_pos rfl
theorem ee_ne {x y : Nat} (h : x ≠ y) : ee x y = 0 := if_neg h
def Vh (h : Nat → Nat) (v : Nat → Rat) (col : Nat) : Rat := ee (h 0) col * v 0 + ee (h 1) col * v 1 + ee (h 2) col * v 2
abbrev acR (A : List (List Int)) (i j : Nat) : Rat := ((ac A i j : Int) : Rat)
abbrev sgR (b : List Int) (i : Nat) : Rat := ((sg b i : Int) : Rat)
abbrev bR (b : List Int) (i : Nat) : Rat := ((cell b i : Int) : Rat)
theorem sgR_sq (b : List Int) (i : Nat) : sgR b i * sgR b i = 1 := by
  unfold sgR
  rw [← Rat.intCast_mul, sg_sq]
  rfl
/-- a column of the first table, read by the task -/
theorem t_col (p : Inp c A b) {i col : Nat} (hi : i < A.length) (hc : col < c.length + A.length + A.length ∨ (∃ k, ¬ k < A.length ∧ col = 100 + k)) :
    ((T0 A b i col : Int) : Rat) = sgR b i * (acR A i 0 * ee col 0 + acR A i 1 * ee col 1 + acR A i 2 * ee col 2 - ee col (c.length + i)) + ee col (c.length + A.length + i) := by
  have hn := p.n
  have hm := p.m
  have out : ∀ j, ¬ j < c.length → acR A i j = 0 := fun j hj => by unfold acR; rw [p.ac_out (fun z => hj z.2)]; rfl
  have zero3 : (∀ j, j < 3 → ¬ (col = j ∧ j < c.length)) → acR A i 0 * ee col 0 + acR A i 1 * ee col 1 + acR A i 2 * ee col 2 = 0 := fun h => by
    have z : ∀ j, j < 3 → acR A i j * ee col j = 0 := fun j hj => by
      by_cases h1 : j < c.length
      · rw [ee_ne (fun e => h j hj ⟨e, h1⟩), Rat.mul_zero]
      · rw [out j h1, Rat.zero_mul]
    rw [z 0 (by decide), z 1 (by decide), z 2 (by decide)]
    decide +kernel
  rcases hc with hc | ⟨k, hk, rfl⟩
  · rcases p.cols (show col < c.length + A.length + A.length + 1 by omega) with h | ⟨k, hk, rfl⟩ | ⟨k, hk, rfl⟩ | e
    · rw [p.t_x i h, ee_ne (show col ≠ c.length + i by omega), ee_ne (show col ≠ c.length + A.length + i by omega), Rat.intCast_mul]
      have h3 : col < 3 := by omega
      match col, h3 with
      | 0, _ => rw [ee_same, ee_ne (by decide : (0 : Nat) ≠ 1), ee_ne (by decide : (0 : Nat) ≠ 2)]; grind
      | 1, _ => rw [ee_same, ee_ne (by decide : (1 : Nat) ≠ 0), ee_ne (by decide : (1 : Nat) ≠ 2)]; grind
      | 2, _ => rw [ee_same, ee_ne (by decide : (2 : Nat) ≠ 0), ee_ne (by decide : (2 : Nat) ≠ 1)]; grind
    · rw [p.t_s i hk, zero3 (fun j _ z => by omega), ee_ne (show c.length + k ≠ c.length + A.length + i by omega)]
      by_cases e : k = i
      · subst e
        rw [if_pos rfl, ee_same, Rat.intCast_neg]
        grind
      · rw [if_neg e, ee_ne (by omega)]
        show ((0 : Int) : Rat) = _
        grind
    · rw [p.t_a i hk, zero3 (fun j _ z => by omega), ee_ne (show c.length + A.length + k ≠ c.length + i by omega)]
      by_cases e : k = i
      · subst e
        rw [if_pos rfl, ee_same]
        show ((1 : Int) : Rat) = _
        grind
      · rw [if_neg e, ee_ne (by omega)]
        show ((0 : Int) : Rat) = _
        grind
    · omega
  · rw [p.t_p i hk, if_neg (by omega), zero3 (fun j _ z => by omega), ee_ne (by omega), ee_ne (by omega)]
    show ((0 : Int) : Rat) = _
    grind
theorem TG.hv (p : Inp c A b) {S : Tab} (t : TG (T0 A b) S) (hw : S.wide = c.length + A.length) (hh : S.high = A.length) (k : Nat) : hx S k < c.length + A.length + A.length ∨ (∃ k', ¬ k' < A.length ∧ hx S k = 100 + k') := by
  by_cases h : k < A.length
  · refine .inl ?_
    unfold hx
    rw [if_pos (by rw [hh]; exact h)]
    have := t.sh.hold (i := k) (by rw [hh]; exact h)
    rw [hw, hh] at this
    exact this
  · refine .inr ⟨k, h, ?_⟩
    unfold hx
    rw [if_neg (by rw [hh]; exact h)]
theorem K_id (p : Inp c A b) {S : Tab} (t : TG (T0 A b) S) (hw : S.wide = c.length + A.length) (hh : S.high = A.length) (v : Nat → Rat) {i : Nat} (hi : i < A.length) :
    ((T0 A b i (hx S 0) : Int) : Rat) * v 0 + ((T0 A b i (hx S 1) : Int) : Rat) * v 1 + ((T0 A b i (hx S 2) : Int) : Rat) * v 2 =
      sgR b i * (acR A i 0 * Vh (hx S) v 0 + acR A i 1 * Vh (hx S) v 1 + acR A i 2 * Vh (hx S) v 2 - Vh (hx S) v (c.length + i)) + Vh (hx S) v (c.length + A.length + i) := by
  rw [t_col p hi (t.hv p hw hh 0), t_col p hi (t.hv p hw hh 1), t_col p hi (t.hv p hw hh 2)]
  unfold Vh
  grind
theorem back_R {S : Tab} {T : Mx} (t : TG T S) (i j : Nat) (hi : i < 3) : ((S.low : Int) : Rat) * ((T i j : Int) : Rat) = ((T i (hx S 0) : Int) : Rat) * ((Lx S 0 j : Int) : Rat) + ((T i (hx S 1) : Int) : Rat) * ((Lx S 1 j : Int) : Rat) + ((T i (hx S 2) : Int) : Rat) * ((Lx S 2 j : Int) : Rat) := by
  have := t.g.back i j hi
  rw [← Rat.intCast_mul, ← Rat.intCast_mul, ← Rat.intCast_mul, ← Rat.intCast_mul, ← Rat.intCast_add, ← Rat.intCast_add, this]
/-- a vector on the held columns that the first table sends to 0 is 0 -/
theorem ker_held {S : Tab} {T : Mx} (t : TG T S) (v : Nat → Rat) (hz : ∀ i, i < 3 → ((T i (hx S 0) : Int) : Rat) * v 0 + ((T i (hx S 1) : Int) : Rat) * v 1 + ((T i (hx S 2) : Int) : Rat) * v 2 = 0) : v 0 = 0 ∧ v 1 = 0 ∧ v 2 = 0 := by
  obtain ⟨s, hs, hd⟩ := t.g.det
  have hl := t.g.lp
  have hsl : s * S.low ≠ 0 := by
    intro z
    rcases Int.mul_eq_zero.mp z with z | z
    · rw [z] at hs; omega
    · omega
  have hne : ((D3 T (hx S 0) (hx S 1) (hx S 2) : Int) : Rat) ≠ 0 := by
    rw [hd]
    exact fun z => hsl (by exact_mod_cast z)
  have e0 := hz 0 (by decide)
  have e1 := hz 1 (by decide)
  have e2 := hz 2 (by decide)
  have key : ∀ x : Rat, ((D3 T (hx S 0) (hx S 1) (hx S 2) : Int) : Rat) * x = 0 → x = 0 := fun x h => by
    rcases Rat.mul_eq_zero.mp h with z | z
    · exact absurd z hne
    · exact z
  have eD : ((D3 T (hx S 0) (hx S 1) (hx S 2) : Int) : Rat) = ((T 0 (hx S 0) : Int) : Rat) * (((T 1 (hx S 1) : Int) : Rat) * ((T 2 (hx S 2) : Int) : Rat) - ((T 2 (hx S 1) : Int) : Rat) * ((T 1 (hx S 2) : Int) : Rat)) - ((T 1 (hx S 0) : Int) : Rat) * (((T 0 (hx S 1) : Int) : Rat) * ((T 2 (hx S 2) : Int) : Rat) - ((T 2 (hx S 1) : Int) : Rat) * ((T 0 (hx S 2) : Int) : Rat)) + ((T 2 (hx S 0) : Int) : Rat) * (((T 0 (hx S 1) : Int) : Rat) * ((T 1 (hx S 2) : Int) : Rat) - ((T 1 (hx S 1) : Int) : Rat) * ((T 0 (hx S 2) : Int) : Rat)) := by
    unfold D3
    simp only [Rat.intCast_add, Rat.intCast_sub, Rat.intCast_mul]
  rw [eD] at key
  generalize ((T 0 (hx S 0) : Int) : Rat) = a0 at *
  generalize ((T 1 (hx S 0) : Int) : Rat) = a1 at *
  generalize ((T 2 (hx S 0) : Int) : Rat) = a2 at *
  generalize ((T 0 (hx S 1) : Int) : Rat) = b0 at *
  generalize ((T 1 (hx S 1) : Int) : Rat) = b1 at *
  generalize ((T 2 (hx S 1) : Int) : Rat) = b2 at *
  generalize ((T 0 (hx S 2) : Int) : Rat) = c0 at *
  generalize ((T 1 (hx S 2) : Int) : Rat) = c1 at *
  generalize ((T 2 (hx S 2) : Int) : Rat) = c2 at *
  clear hz eD hne
  exact ⟨key _ (by grind), key _ (by grind), key _ (by grind)⟩
/-- the same for the rows -/
theorem ker_rows {S : Tab} {T : Mx} (t : TG T S) (v : Nat → Rat) (hz : ∀ k, k < 3 → ((T 0 (hx S k) : Int) : Rat) * v 0 + ((T 1 (hx S k) : Int) : Rat) * v 1 + ((T 2 (hx S k) : Int) : Rat) * v 2 = 0) : v 0 = 0 ∧ v 1 = 0 ∧ v 2 = 0 := by
  obtain ⟨s, hs, hd⟩ := t.g.det
  have hl := t.g.lp
  have hsl : s * S.low ≠ 0 := by
    intro z
    rcases Int.mul_eq_zero.mp z with z | z
    · rw [z] at hs; omega
    · omega
  have hne : ((D3 T (hx S 0) (hx S 1) (hx S 2) : Int) : Rat) ≠ 0 := by
    rw [hd]
    exact fun z => hsl (by exact_mod_cast z)
  have e0 := hz 0 (by decide)
  have e1 := hz 1 (by decide)
  have e2 := hz 2 (by decide)
  have key : ∀ x : Rat, ((D3 T (hx S 0) (hx S 1) (hx S 2) : Int) : Rat) * x = 0 → x = 0 := fun x h => by
    rcases Rat.mul_eq_zero.mp h with z | z
    · exact absurd z hne
    · exact z
  have eD : ((D3 T (hx S 0) (hx S 1) (hx S 2) : Int) : Rat) = ((T 0 (hx S 0) : Int) : Rat) * (((T 1 (hx S 1) : Int) : Rat) * ((T 2 (hx S 2) : Int) : Rat) - ((T 2 (hx S 1) : Int) : Rat) * ((T 1 (hx S 2) : Int) : Rat)) - ((T 1 (hx S 0) : Int) : Rat) * (((T 0 (hx S 1) : Int) : Rat) * ((T 2 (hx S 2) : Int) : Rat) - ((T 2 (hx S 1) : Int) : Rat) * ((T 0 (hx S 2) : Int) : Rat)) + ((T 2 (hx S 0) : Int) : Rat) * (((T 0 (hx S 1) : Int) : Rat) * ((T 1 (hx S 2) : Int) : Rat) - ((T 1 (hx S 1) : Int) : Rat) * ((T 0 (hx S 2) : Int) : Rat)) := by
    unfold D3
    simp only [Rat.intCast_add, Rat.intCast_sub, Rat.intCast_mul]
  rw [eD] at key
  generalize ((T 0 (hx S 0) : Int) : Rat) = a0 at *
  generalize ((T 1 (hx S 0) : Int) : Rat) = a1 at *
  generalize ((T 2 (hx S 0) : Int) : Rat) = a2 at *
  generalize ((T 0 (hx S 1) : Int) : Rat) = b0 at *
  generalize ((T 1 (hx S 1) : Int) : Rat) = b1 at *
  generalize ((T 2 (hx S 1) : Int) : Rat) = b2 at *
  generalize ((T 0 (hx S 2) : Int) : Rat) = c0 at *
  generalize ((T 1 (hx S 2) : Int) : Rat) = c1 at *
  generalize ((T 2 (hx S 2) : Int) : Rat) = c2 at *
  clear hz eD hne
  exact ⟨key _ (by grind), key _ (by grind), key _ (by grind)⟩
end
end WM

set_option Elab.async false
set_option linter.all false
set_option maxHeartbeats 1000000
/-! One step of descend: who goes, what is kept. -/
namespace WM
theorem last_cell {S : Tab} (ok : TabSh S) {i : Nat} (hi : i < S.high) : lastZ (S.line i) = cell (S.line i) (S.wide + S.high) := by
  unfold lastZ
  rw [(ok.line hi).2]
  rfl
/-- row k is at least as soon as row i -/
def AsSoon (S : Tab) (c k i : Nat) : Prop :=
  lastZ (S.line k) * cell (S.line i) c ≤ lastZ (S.line i) * cell (S.line k) c ∧ (lastZ (S.line k) * cell (S.line i) c = lastZ (S.line i) * cell (S.line k) c → S.hold k ≤ S.hold i)
theorem assoon_refl (S : Tab) (c k : Nat) : AsSoon S c k k := ⟨Int.le_refl _, fun _ => Nat.le_refl _⟩
theorem soon_num {rk rb ri ck cb ci : Int} {hk hb hi : Nat} (pk : 0 < ck) (pb : 0 < cb) (pi : 0 < ci) (a1 : rk * cb ≤ rb * ck) (a2 : rk * cb = rb * ck → hk ≤ hb) (b1 : rb * ci ≤ ri * cb) (b2 : rb * ci = ri * cb → hb ≤ hi) :
    rk * ci ≤ ri * ck ∧ (rk * ci = ri * ck → hk ≤ hi) := by
  have e1 : rk * cb * ci ≤ rb * ck * ci := Int.mul_le_mul_of_nonneg_right a1 (by omega)
  have e2 : rb * ci * ck ≤ ri * cb * ck := Int.mul_le_mul_of_nonneg_right b1 (by omega)
  have x1 : rk * cb * ci = cb * (rk * ci) := by grind
  have x2 : rb * ck * ci = rb * ci * ck := by grind
  have x3 : ri * cb * ck = cb * (ri * ck) := by grind
  refine ⟨?_, fun e => ?_⟩
  · exact Int.le_of_mul_le_mul_left (by omega : cb * (rk * ci) ≤ cb * (ri * ck)) pb
  · have e4 : cb * (rk * ci) = cb * (ri * ck) := by rw [e]
    have f1 : rk * cb * ci = rb * ck * ci := by omega
    have f2 : rb * ci * ck = ri * cb * ck := by omega
    have g1 : rk * cb = rb * ck := Int.eq_of_mul_eq_mul_right (by omega) f1
    have g2 : rb * ci = ri * cb := Int.eq_of_mul_eq_mul_right (by omega) f2
    exact Nat.le_trans (a2 g1) (b2 g2)
theorem assoon_trans {S : Tab} {c k i b : Nat} (hk : 0 < cell (S.line k) c) (hb : 0 < cell (S.line b) c) (hi : 0 < cell (S.line i) c) (h1 : AsSoon S c k b) (h2 : AsSoon S c b i) : AsSoon S c k i :=
  soon_num hk hb hi h1.1 h1.2 h2.1 h2.2
theorem sooner_spec {S : Tab} {c i k : Nat} : (soonerT S i k c = true → AsSoon S c i k) ∧ (soonerT S i k c = false → AsSoon S c k i) := by
  unfold soonerT gapT AsSoon
  constructor
  · intro h
    rw [Bool.or_eq_true, Bool.and_eq_true, decide_eq_true_iff, decide_eq_true_iff, decide_eq_true_iff] at h
    rcases h with h | ⟨h1, h2⟩
    · exact ⟨by omega, fun e => by omega⟩
    · exact ⟨by omega, fun e => by omega⟩
  · intro h
    rw [Bool.or_eq_false_iff, Bool.and_eq_false_iff, decide_eq_false_iff_not, decide_eq_false_iff_not, decide_eq_false_iff_not] at h
    obtain ⟨h1, h2⟩ := h
    refine ⟨by omega, fun e => ?_⟩
    rcases h2 with h2 | h2
    · omega
    · omega
structure GoInv (S : Tab) (c : Nat) (n : Nat) (o : Option Nat) : Prop where
  none : o = none → ∀ i, i < n → cell (S.line i) c ≤ 0
  some : ∀ k, o = some k → k < n ∧ 0 < cell (S.line k) c ∧ ∀ i, i < n → 0 < cell (S.line i) c → AsSoon S c k i
theorem go_inv (S : Tab) (c : Nat) : ∀ n, GoInv S c n ((List.range n).foldl (goStep S c) none)
  | 0 => ⟨fun _ i h => absurd h (Nat.not_lt_zero _), fun k h => nomatch h⟩
  | n + 1 => by
    have ih := go_inv S c n
    rw [List.range_succ, List.foldl_append]
    show GoInv S c (n + 1) (goStep S c ((List.range n).foldl (goStep S c) none) n)
    generalize (List.range n).foldl (goStep S c) none = o at ih
    unfold goStep
    by_cases hp : 0 < cell (S.line n) c
    · rw [if_pos hp]
      cases o with
      | none =>
        refine ⟨(fun z => nomatch z), fun k e => ?_⟩
        cases e
        refine ⟨Nat.lt_succ_self _, hp, fun i hi hpi => ?_⟩
        by_cases e : i = n
        · rw [e]; exact assoon_refl S c n
        · have := ih.none rfl i (by omega)
          omega
      | some b =>
        obtain ⟨b1, b2, b3⟩ := ih.some b rfl
        show GoInv S c (n + 1) (if soonerT S n b c = true then some n else some b)
        by_cases hs : soonerT S n b c = true
        · rw [if_pos hs]
          have as := sooner_spec.1 hs
          refine ⟨(fun z => nomatch z), fun k e => ?_⟩
          cases e
          refine ⟨Nat.lt_succ_self _, hp, fun i hi hpi => ?_⟩
          by_cases e : i = n
          · rw [e]; exact assoon_refl S c n
          · exact assoon_trans hp b2 hpi as (b3 i (by omega) hpi)
        · rw [if_neg hs]
          have as := sooner_spec.2 (by cases h : soonerT S n b c with
            | true => exact absurd h hs
            | false => rfl)
          refine ⟨(fun z => nomatch z), fun k e => ?_⟩
          cases e
          refine ⟨by omega, b2, fun i hi hpi => ?_⟩
          by_cases e : i = n
          · rw [e]; exact as
          · exact b3 i (by omega) hpi
    · rw [if_neg hp]
      refine ⟨fun z i hi => ?_, fun k e => ?_⟩
      · by_cases e : i = n
        · rw [e]; omega
        · exact ih.none z i (by omega)
      · obtain ⟨k1, k2, k3⟩ := ih.some k e
        refine ⟨by omega, k2, fun i hi hpi => ?_⟩
        by_cases e : i = n
        · rw [e] at hpi; exact absurd hpi hp
        · exact k3 i (by omega) hpi
theorem some_spec {many : Nat} {S : Tab} {c : Nat} {cs : List Nat} (h : someT many S = c :: cs) : c < many ∧ cell S.left c < 0 ∧ ∀ j, j < c → 0 ≤ cell S.left j := by
  have hm : c ∈ someT many S := by rw [h]; simp
  unfold someT at hm
  obtain ⟨h1, h2⟩ := List.mem_filter.mp hm
  have hc := List.mem_range.mp h1
  refine ⟨hc, of_decide_eq_true h2, fun j hj => ?_⟩
  apply Classical.byContradiction
  intro z
  have hjm : j ∈ someT many S := List.mem_filter.mpr ⟨List.mem_range.mpr (by omega), decide_eq_true (by omega)⟩
  have hs : List.Pairwise (· < ·) (someT many S) := (List.pairwise_lt_range (n := many)).filter _
  rw [h] at hs hjm
  rcases List.mem_cons.mp hjm with e | e
  · omega
  · have := (List.pairwise_cons.mp hs).1 j e
    omega
theorem some_nil {many : Nat} {S : Tab} (h : someT many S = []) : ∀ j, j < many → 0 ≤ cell S.left j := fun j hj => by
  apply Classical.byContradiction
  intro z
  have : j ∈ someT many S := List.mem_filter.mpr ⟨List.mem_range.mpr hj, decide_eq_true (by omega)⟩
  rw [h] at this
  cases this
/-- a state of descend -/
structure St (T : Mx) (w : Nat → Int) (S : Tab) : Prop where
  t : TG T S
  l : LeftOk w S
  r : ∀ i, i < S.high → 0 ≤ Lx S i (S.wide + S.high)
theorem St.R {T : Mx} {w : Nat → Int} {S : Tab} (s : St T w S) : S.wide + S.high < 100 := by
  have := s.t.sh.h
  have := s.t.sh.w
  omega
theorem sg_pos {S : Tab} {a c : Nat} (h : 0 < cell (S.line a) c) : sgC S a c = 1 := by unfold sgC; rw [if_neg (by omega)]
theorem changeL {S : Tab} (ok : TabSh S) (lp : 0 < S.low) {a c : Nat} (ha : a < S.high) (hc : c < 100) : Lx (changeT a c S) = pivL (Lx S) S.low (sgC S a c) a c := by
  funext i j
  exact change_L ok lp ha hc i j
theorem changeH {S : Tab} (ok : TabSh S) {a c : Nat} (ha : a < S.high) : hx (changeT a c S) = pivH (hx S) a c := by
  funext k
  exact change_h ok ha k
theorem nonneg_of {l x y : Int} (hl : 0 < l) (e : l * x = y) (hy : 0 ≤ y) : 0 ≤ x := by
  apply Classical.byContradiction
  intro z
  have := Int.mul_neg_of_pos_of_neg hl (by omega : x < 0)
  omega
theorem St.step {T : Mx} {w : Nat → Int} {S : Tab} (s : St T w S) {c a : Nat} (hc : c < S.wide + S.high) (hg : goingT S c = some a) : a < S.high ∧ 0 < cell (S.line a) c ∧ St T w (changeT a c S) := by
  have gi := (go_inv S c S.high).some a hg
  obtain ⟨ha, hp, hs⟩ := gi
  have hR := s.R
  have h3 := s.t.sh.h
  have tc := s.t.change ha hc (by omega)
  refine ⟨ha, hp, tc, s.l.change s.t ha hc, fun i hi => ?_⟩
  show 0 ≤ Lx (changeT a c S) i (S.wide + S.high)
  have hi : i < S.high := hi
  have lp := s.t.g.lp
  rw [changeL s.t.sh lp ha (by omega), sg_pos hp]
  by_cases e : i = a
  · subst e
    unfold pivL
    rw [if_pos rfl, Int.one_mul]
    exact s.r i hi
  · refine nonneg_of lp (s.t.g.piv_eq (by omega) (by omega) e _ _) ?_
    rw [Int.one_mul, Int.one_mul]
    have r1 := s.r i hi
    have r2 := s.r a ha
    have x1 : Lx S a c = cell (S.line a) c := Lx_real ha (by omega)
    have x2 : Lx S i c = cell (S.line i) c := Lx_real hi (by omega)
    rw [x1, x2]
    by_cases hpi : 0 < cell (S.line i) c
    · have := (hs i hi hpi).1
      rw [last_cell s.t.sh ha, last_cell s.t.sh hi, ← Lx_real ha hR, ← Lx_real hi hR] at this
      omega
    · have m1 : 0 ≤ Lx S i (S.wide + S.high) * cell (S.line a) c := Int.mul_nonneg r1 (by omega)
      have m2 : Lx S a (S.wide + S.high) * cell (S.line i) c ≤ 0 := Int.mul_nonpos_of_nonneg_of_nonpos r2 (by omega)
      omega
/-- the left row of one state, read through another one -/
theorem cross {T : Mx} {D S : Tab} (d : TG T D) (s : TG T S) (w : Nat → Int) {o : Nat → Nat} (u : Good T T o 1) (j : Nat) :
    D.low * leftF w (Lx S) (hx S) S.low j - (leftF w (Lx S) (hx S) S.low (hx D 0) * Lx D 0 j + leftF w (Lx S) (hx S) S.low (hx D 1) * Lx D 1 j + leftF w (Lx S) (hx S) S.low (hx D 2) * Lx D 2 j) = S.low * leftF w (Lx D) (hx D) D.low j := by
  have lt : ∀ j, leftF w (Lx S) (hx S) S.low j = S.low * w j - (Qw w (Lx S) (hx S) o 0 * T 0 j + Qw w (Lx S) (hx S) o 1 * T 1 j + Qw w (Lx S) (hx S) o 2 * T 2 j) := fun j => by
    unfold leftF Qw
    rw [s.g.rows u 0 j (by decide), s.g.rows u 1 j (by decide), s.g.rows u 2 j (by decide)]
    grind
  rw [lt j, lt (hx D 0), lt (hx D 1), lt (hx D 2)]
  have b0 := d.g.back 0 j (by decide)
  have b1 := d.g.back 1 j (by decide)
  have b2 := d.g.back 2 j (by decide)
  generalize Qw w (Lx S) (hx S) o 0 = q0
  generalize Qw w (Lx S) (hx S) o 1 = q1
  generalize Qw w (Lx S) (hx S) o 2 = q2
  unfold leftF
  grind
theorem left_held {T : Mx} {S : Tab} (s : TG T S) (w : Nat → Int) {k : Nat} (hk : k < 3) : leftF w (Lx S) (hx S) S.low (hx S k) = 0 := by
  have u := s.g.un
  unfold leftF
  rw [u 0 k (by decide) hk, u 1 k (by decide) hk, u 2 k (by decide) hk]
  match k, hk with
  | 0, _ => simp; grind
  | 1, _ => simp; grind
  | 2, _ => simp; grind
/-- states that hold the same columns are the same -/
theorem same_held {T : Mx} {D S : Tab} (d : TG T D) (s : TG T S) (h : hx D = hx S) : D.low = S.low ∧ ∀ i, i < 3 → ∀ j, Lx D i j = Lx S i j := by
  obtain ⟨x, hx1, hx2⟩ := d.g.cramer
  obtain ⟨y, hy1, hy2⟩ := s.g.cramer
  have d0 := (hx2 (hx D 0)).1
  rw [d.g.u.1.1] at d0
  have s0 := (hy2 (hx S 0)).1
  rw [s.g.u.1.1, ← h] at s0
  have l1 := d.g.lp
  have l2 := s.g.lp
  have hxy : ∀ z : Int, z * z = 1 → z = 1 ∨ z = -1 := fun z hz => by
    have h1 : (z - 1) * (z + 1) = 0 := by grind
    rcases Int.mul_eq_zero.mp h1 with e | e <;> omega
  have e : x = y := by
    rcases hxy x hx1 with e1 | e1 <;> rcases hxy y hy1 with e2 | e2
    · omega
    · rw [e1] at d0; rw [e2] at s0; omega
    · rw [e1] at d0; rw [e2] at s0; omega
    · omega
  subst e
  refine ⟨by omega, fun i hi j => ?_⟩
  match i, hi with
  | 0, _ => rw [(hx2 j).1, (hy2 j).1, h]
  | 1, _ => rw [(hx2 j).2.1, (hy2 j).2.1, h]
  | 2, _ => rw [(hx2 j).2.2, (hy2 j).2.2, h]
end WM

set_option Elab.async false
set_option linter.all false
set_option maxHeartbeats 1000000
/-! Descend ends (Bland's rule). -/
namespace WM
theorem pigeon : ∀ (N : Nat) (f : Nat → Nat), (∀ k, k ≤ N → f k < N) → ∃ p q, p < q ∧ q ≤ N ∧ f p = f q
  | 0, f, h => absurd (h 0 (Nat.le_refl 0)) (Nat.not_lt_zero _)
  | N + 1, f, h => by
    by_cases hx : ∃ k, k ≤ N ∧ f k = f (N + 1)
    · obtain ⟨k, hk, e⟩ := hx
      exact ⟨k, N + 1, by omega, Nat.le_refl _, e⟩
    · have hne : ∀ k, k ≤ N → f k ≠ f (N + 1) := fun k hk e => hx ⟨k, hk, e⟩
      obtain ⟨p, q, h1, h2, h3⟩ := pigeon N (fun k => if f k = N then f (N + 1) else f k) fun k hk => by
        show (if f k = N then f (N + 1) else f k) < N
        have a := h k (by omega)
        have b := h (N + 1) (Nat.le_refl _)
        have c := hne k hk
        split <;> omega
      refine ⟨p, q, h1, by omega, ?_⟩
      have h3 : (if f p = N then f (N + 1) else f p) = (if f q = N then f (N + 1) else f q) := h3
      have cp := hne p (by omega)
      have cq := hne q (by omega)
      split at h3 <;> split at h3 <;> omega
/-- one turn of descend -/
structure Turn (T : Mx) (w : Nat → Int) (many : Nat) (S S' : Tab) (c a : Nat) : Prop where
  st : St T w S
  st' : St T w S'
  mw : many ≤ S.wide
  so : ∃ cs, someT many S = c :: cs
  go : goingT S c = some a
  eq : S' = changeT a c S
structure TurnF (T : Mx) (w : Nat → Int) (S S' : Tab) (c a : Nat) : Prop where
  ha : a < S.high
  hc : c < S.wide + S.high
  pos : 0 < Lx S a c
  hL : Lx S' = pivL (Lx S) S.low 1 a c
  hH : hx S' = pivH (hx S) a c
  hl : S'.low = Lx S a c
  neg : leftF w (Lx S) (hx S) S.low c < 0
theorem Turn.f {T : Mx} {w : Nat → Int} {many : Nat} {S S' : Tab} {c a : Nat} (u : Turn T w many S S' c a) : TurnF T w S S' c a := by
  obtain ⟨cs, hs⟩ := u.so
  obtain ⟨s1, s2, s3⟩ := some_spec hs
  have hw := u.mw
  have hR := u.st.R
  have hc : c < S.wide + S.high := by omega
  obtain ⟨ha, hp, _⟩ := u.st.step hc u.go
  have lp := u.st.t.g.lp
  have e1 : Lx S a c = cell (S.line a) c := Lx_real ha (by omega)
  refine ⟨ha, hc, by rw [e1]; exact hp, ?_, ?_, ?_, ?_⟩
  · rw [u.eq, changeL u.st.t.sh lp ha (by omega), sg_pos hp]
  · rw [u.eq, changeH u.st.t.sh ha]
  · rw [u.eq, change_low u.st.t.sh ha (by omega), sg_pos hp, Int.one_mul]
  · rw [← u.st.l.eq c (by omega)]
    exact s2
def Bs (S : Tab) (v : Nat) : Prop := ∃ i, i < 3 ∧ hx S i = v
theorem Turn.not_in {T : Mx} {w : Nat → Int} {many : Nat} {S S' : Tab} {c a : Nat} (u : Turn T w many S S' c a) : ¬ Bs S c := fun ⟨i, hi, e⟩ => by
  have := u.f.neg
  rw [← e, left_held u.st.t w hi] at this
  omega
theorem Turn.hi3 {T : Mx} {w : Nat → Int} {many : Nat} {S S' : Tab} {c a : Nat} (u : Turn T w many S S' c a) : a < 3 := by
  have := u.f.ha
  have := u.st.t.sh.h
  omega
theorem Turn.bs {T : Mx} {w : Nat → Int} {many : Nat} {S S' : Tab} {c a : Nat} (u : Turn T w many S S' c a) (v : Nat) : Bs S' v ↔ v = c ∨ (Bs S v ∧ v ≠ hx S a) := by
  have f := u.f
  have h3 := u.hi3
  unfold Bs
  rw [f.hH]
  unfold pivH
  constructor
  · rintro ⟨i, hi, e⟩
    by_cases ei : i = a
    · rw [if_pos ei] at e
      exact .inl e.symm
    · rw [if_neg ei] at e
      refine .inr ⟨⟨i, hi, e⟩, fun z => ei ?_⟩
      exact u.st.t.g.inj hi h3 (by rw [e, z])
  · rintro (e | ⟨⟨i, hi, e⟩, hn⟩)
    · exact ⟨a, h3, by rw [if_pos rfl]; exact e.symm⟩
    · refine ⟨i, hi, ?_⟩
      rw [if_neg (fun z => hn (by rw [← e, z]))]
      exact e
/-- the end of the aim's row, as a fraction of low, never falls -/
theorem Turn.aim {T : Mx} {w : Nat → Int} {many : Nat} {S S' : Tab} {c a : Nat} (u : Turn T w many S S' c a) :
    S.low * leftF w (Lx S') (hx S') S'.low (S.wide + S.high) = leftF w (Lx S) (hx S) S.low (S.wide + S.high) * S'.low - Lx S a (S.wide + S.high) * leftF w (Lx S) (hx S) S.low c := by
  have f := u.f
  have := u.st.t.g.left_piv (sg := 1) (a := a) (c := c) u.hi3 w (S.wide + S.high)
  rw [Int.one_mul, Int.one_mul] at this
  rw [f.hL, f.hH, f.hl]
  exact this.symm
theorem Turn.wh {T : Mx} {w : Nat → Int} {many : Nat} {S S' : Tab} {c a : Nat} (u : Turn T w many S S' c a) : S'.wide = S.wide ∧ S'.high = S.high := by
  rw [u.eq]
  exact ⟨rfl, rfl⟩
/-- a column's value is 0 -/
def Zv (S : Tab) (v : Nat) : Prop := ∀ i, i < 3 → hx S i = v → Lx S i (S.wide + S.high) = 0
theorem Turn.zv {T : Mx} {w : Nat → Int} {many : Nat} {S S' : Tab} {c a : Nat} (u : Turn T w many S S' c a) (hz : Lx S a (S.wide + S.high) = 0) (v : Nat) : Zv S v ↔ Zv S' v := by
  have f := u.f
  have h3 := u.hi3
  obtain ⟨w1, w2⟩ := u.wh
  have lp := u.st.t.g.lp
  have hA : hx S' a = c := by rw [f.hH]; unfold pivH; rw [if_pos rfl]
  have hI : ∀ i, i ≠ a → hx S' i = hx S i := fun i hi => by rw [f.hH]; unfold pivH; rw [if_neg hi]
  have zA : Lx S' a (S.wide + S.high) = 0 := by
    rw [f.hL]
    unfold pivL
    rw [if_pos rfl, hz, Int.mul_zero]
  have zI : ∀ i, i < 3 → i ≠ a → (Lx S' i (S.wide + S.high) = 0 ↔ Lx S i (S.wide + S.high) = 0) := fun i hi hn => by
    have e := u.st.t.g.piv_eq (sg := 1) hi h3 hn (S.wide + S.high) c
    rw [← f.hL, hz, Int.mul_zero, Int.zero_mul, Int.sub_zero, Int.one_mul] at e
    have pos := f.pos
    constructor
    · intro z
      rw [z, Int.mul_zero] at e
      rcases Int.mul_eq_zero.mp e.symm with z | z
      · exact z
      · omega
    · intro z
      rw [z, Int.zero_mul] at e
      rcases Int.mul_eq_zero.mp e with z | z
      · omega
      · exact z
  unfold Zv
  rw [w1, w2]
  constructor
  · intro h i hi e
    by_cases ei : i = a
    · rw [ei]; exact zA
    · exact (zI i hi ei).mpr (h i hi (by rw [← hI i ei]; exact e))
  · intro h i hi e
    by_cases ei : i = a
    · rw [ei]; exact hz
    · exact (zI i hi ei).mp (h i hi (by rw [hI i ei]; exact e))
/-! ### a run without end -/
structure Run (T : Mx) (w : Nat → Int) (many : Nat) (seq : Nat → Tab) (ent lv : Nat → Nat) : Prop where
  turn : ∀ k, Turn T w many (seq k) (seq (k + 1)) (ent k) (lv k)
section
variable {T : Mx} {w : Nat → Int} {many : Nat} {seq : Nat → Tab} {ent lv : Nat → Nat}
theorem Run.wh (r : Run T w many seq ent lv) : ∀ k, (seq k).wide = (seq 0).wide ∧ (seq k).high = (seq 0).high
  | 0 => ⟨rfl, rfl⟩
  | k + 1 => by
    obtain ⟨a, b⟩ := (r.turn k).wh
    obtain ⟨c, d⟩ := r.wh k
    exact ⟨a.trans c, b.trans d⟩
theorem Run.enter (r : Run T w many seq ent lv) {a : Nat} {v : Nat} : ∀ n, ¬ Bs (seq a) v → Bs (seq (a + n)) v → ∃ k, a ≤ k ∧ k < a + n ∧ ent k = v
  | 0, h1, h2 => absurd h2 h1
  | n + 1, h1, h2 => by
    rcases ((r.turn (a + n)).bs v).mp h2 with e | ⟨hb, _⟩
    · exact ⟨a + n, by omega, by omega, e.symm⟩
    · obtain ⟨k, k1, k2, k3⟩ := r.enter n h1 hb
      exact ⟨k, k1, by omega, k3⟩
theorem Run.leave (r : Run T w many seq ent lv) {a : Nat} {v : Nat} : ∀ n, Bs (seq a) v → ¬ Bs (seq (a + n)) v → ∃ k, a ≤ k ∧ k < a + n ∧ hx (seq k) (lv k) = v ∧ Bs (seq k) v
  | 0, h1, h2 => absurd h1 h2
  | n + 1, h1, h2 => by
    by_cases hb : Bs (seq (a + n)) v
    · refine ⟨a + n, by omega, by omega, ?_, hb⟩
      apply Classical.byContradiction
      intro z
      exact h2 (((r.turn (a + n)).bs v).mpr (.inr ⟨hb, fun e => z e.symm⟩))
    · obtain ⟨k, k1, k2, k3, k4⟩ := r.leave n h1 hb
      exact ⟨k, k1, by omega, k3, k4⟩
/-- the aim, as a fraction: between two states of the same aim all turns are level -/
def aimR (w : Nat → Int) (S : Tab) : Rat := ((leftF w (Lx S) (hx S) S.low (S.wide + S.high) : Int) : Rat) / ((S.low : Int) : Rat)
theorem Turn.aim_le {S S' : Tab} {c a : Nat} (u : Turn T w many S S' c a) : aimR w S ≤ aimR w S' ∧ (aimR w S' ≤ aimR w S → Lx S a (S.wide + S.high) = 0) := by
  have e := u.aim
  obtain ⟨w1, w2⟩ := u.wh
  have l1 := u.st.t.g.lp
  have l2 := u.st'.t.g.lp
  have n := u.f.neg
  have r0 := u.st.r a u.f.ha
  unfold aimR
  rw [w1, w2]
  generalize leftF w (Lx S') (hx S') S'.low (S.wide + S.high) = x' at e ⊢
  generalize leftF w (Lx S) (hx S) S.low (S.wide + S.high) = x at e ⊢
  generalize leftF w (Lx S) (hx S) S.low c = y at e n
  generalize Lx S a (S.wide + S.high) = z at e r0 ⊢
  generalize S.low = l at *
  generalize S'.low = l' at *
  have hl : (0 : Rat) < (l : Rat) := by exact_mod_cast l1
  have hl' : (0 : Rat) < (l' : Rat) := by exact_mod_cast l2
  have eR : (l : Rat) * (x' : Rat) = (x : Rat) * (l' : Rat) - (z : Rat) * (y : Rat) := by
    rw [← Rat.intCast_mul, ← Rat.intCast_mul, ← Rat.intCast_mul, ← Rat.intCast_sub, e]
  have key : (x' : Rat) / (l' : Rat) * ((l : Rat) * (l' : Rat)) = (x : Rat) / (l : Rat) * ((l : Rat) * (l' : Rat)) - (z : Rat) * (y : Rat) := by
    have h1 : (x' : Rat) / (l' : Rat) * (l' : Rat) = (x' : Rat) := Rat.div_mul_cancel (by grind)
    have h2 : (x : Rat) / (l : Rat) * (l : Rat) = (x : Rat) := Rat.div_mul_cancel (by grind)
    grind
  have hll : (0 : Rat) < (l : Rat) * (l' : Rat) := Rat.mul_pos hl hl'
  have hzy : z * y ≤ 0 := Int.mul_nonpos_of_nonneg_of_nonpos r0 (by omega)
  have hzyR : ((z * y : Int) : Rat) ≤ 0 := by exact_mod_cast hzy
  rw [Rat.intCast_mul] at hzyR
  constructor
  · refine Rat.le_of_mul_le_mul_right ?_ hll
    rw [key]
    grind
  · intro h
    apply Classical.byContradiction
    intro hz
    have hz2 : z * y < 0 := Int.mul_neg_of_pos_of_neg (by omega) n
    have hz2R : ((z * y : Int) : Rat) < 0 := by exact_mod_cast hz2
    rw [Rat.intCast_mul] at hz2R
    have : (x' : Rat) / (l' : Rat) * ((l : Rat) * (l' : Rat)) ≤ (x : Rat) / (l : Rat) * ((l : Rat) * (l' : Rat)) := Rat.mul_le_mul_of_nonneg_right h (by grind)
    rw [key] at this
    grind
theorem Run.mono (r : Run T w many seq ent lv) (a : Nat) : ∀ n, aimR w (seq a) ≤ aimR w (seq (a + n))
  | 0 => Rat.le_refl
  | n + 1 => Rat.le_trans (r.mono a n) (r.turn (a + n)).aim_le.1
theorem Run.level (r : Run T w many seq ent lv) {p q : Nat} (hpq : p < q) (he : hx (seq p) = hx (seq q)) : ∀ k, p ≤ k → k < q → Lx (seq k) (lv k) ((seq 0).wide + (seq 0).high) = 0 := by
  intro k h1 h2
  have m1 : aimR w (seq p) ≤ aimR w (seq k) := by have := r.mono p (k - p); rwa [show p + (k - p) = k by omega] at this
  have m2 : aimR w (seq (k + 1)) ≤ aimR w (seq q) := by have := r.mono (k + 1) (q - (k + 1)); rwa [show k + 1 + (q - (k + 1)) = q by omega] at this
  obtain ⟨e1, e2⟩ := same_held (r.turn p).st.t (r.turn q).st.t he
  obtain ⟨a1, a2⟩ := r.wh p
  obtain ⟨b1, b2⟩ := r.wh q
  obtain ⟨c1, c2⟩ := r.wh k
  have eq : aimR w (seq p) = aimR w (seq q) := by
    unfold aimR leftF
    rw [e1, he, a1, a2, b1, b2, e2 0 (by decide), e2 1 (by decide), e2 2 (by decide)]
  have := (r.turn k).aim_le.2 (Rat.le_trans m2 (by rw [← eq]; exact m1))
  rw [c1, c2] at this
  exact this
theorem Run.zv (r : Run T w many seq ent lv) {p q : Nat} (hpq : p < q) (he : hx (seq p) = hx (seq q)) (v : Nat) : ∀ n, p + n ≤ q → (Zv (seq p) v ↔ Zv (seq (p + n)) v)
  | 0, _ => Iff.rfl
  | n + 1, h => by
    refine (r.zv hpq he v n (by omega)).trans ?_
    refine (r.turn (p + n)).zv ?_ v
    have := r.level hpq he (p + n) (by omega) (by omega)
    obtain ⟨c1, c2⟩ := r.wh (p + n)
    rw [c1, c2]
    exact this
theorem max_ix (f : Nat → Nat) (p : Nat) : ∀ n, ∃ k, p ≤ k ∧ k ≤ p + n ∧ ∀ j, p ≤ j → j ≤ p + n → f j ≤ f k
  | 0 => ⟨p, Nat.le_refl _, Nat.le_refl _, fun j h1 h2 => by rw [show j = p by omega]; exact Nat.le_refl _⟩
  | n + 1 => by
    obtain ⟨k, k1, k2, k3⟩ := max_ix f p n
    by_cases h : f k ≤ f (p + n + 1)
    · refine ⟨p + n + 1, by omega, by omega, fun j j1 j2 => ?_⟩
      by_cases e : j = p + n + 1
      · rw [e]; exact Nat.le_refl _
      · have := k3 j j1 (by omega)
        omega
    · refine ⟨k, k1, by omega, fun j j1 j2 => ?_⟩
      by_cases e : j = p + n + 1
      · rw [e]; omega
      · exact k3 j j1 (by omega)
/-- no state holds twice the same columns -/
theorem Run.no_cycle (r : Run T w many seq ent lv) {o : Nat → Nat} (u : Good T T o 1) (wp : ∀ i, w (100 + i) = 0) {p q : Nat} (hpq : p < q) (he : hx (seq p) = hx (seq q)) : False := by
  have bpq : ∀ v, Bs (seq p) v ↔ Bs (seq q) v := fun v => by unfold Bs; rw [he]
  obtain ⟨ks, s1, s2, s3⟩ := max_ix ent p (q - 1 - p)
  have s2 : ks < q := by omega
  have top : ∀ j, p ≤ j → j < q → ent j ≤ ent ks := fun j h1 h2 => s3 j h1 (by omega)
  -- where a column stands once and once not, it comes in
  have fickle : ∀ v x y, p ≤ x → x < q → p ≤ y → y < q → Bs (seq x) v → ¬ Bs (seq y) v → ∃ k, p ≤ k ∧ k < q ∧ ent k = v := by
    intro v x y x1 x2 y1 y2 hx' hy'
    by_cases hq : Bs (seq q) v
    · obtain ⟨k, k1, k2, k3⟩ := r.enter (a := y) (q - y) hy' (by rw [show y + (q - y) = q by omega]; exact hq)
      exact ⟨k, by omega, by omega, k3⟩
    · have hp : ¬ Bs (seq p) v := fun z => hq ((bpq v).mp z)
      obtain ⟨k, k1, k2, k3⟩ := r.enter (a := p) (x - p) hp (by rw [show p + (x - p) = x by omega]; exact hx')
      exact ⟨k, by omega, by omega, k3⟩
  -- the greatest one leaves, too
  have hin : ¬ Bs (seq ks) (ent ks) := (r.turn ks).not_in
  have hout : Bs (seq (ks + 1)) (ent ks) := ((r.turn ks).bs (ent ks)).mpr (.inl rfl)
  obtain ⟨kd, d1, d2, d3, d4⟩ : ∃ k, p ≤ k ∧ k < q ∧ hx (seq k) (lv k) = ent ks ∧ Bs (seq k) (ent ks) := by
    by_cases hq : Bs (seq q) (ent ks)
    · have hp := (bpq _).mpr hq
      obtain ⟨k, k1, k2, k3, k4⟩ := r.leave (a := p) (ks - p) hp (by rw [show p + (ks - p) = ks by omega]; exact hin)
      exact ⟨k, by omega, by omega, k3, k4⟩
    · have hne : ks + 1 ≠ q := fun e => hq (by rw [← e]; exact hout)
      obtain ⟨k, k1, k2, k3, k4⟩ := r.leave (a := ks + 1) (q - (ks + 1)) hout (by rw [show ks + 1 + (q - (ks + 1)) = q by omega]; exact hq)
      exact ⟨k, by omega, by omega, k3, k4⟩
  have tD := r.turn kd
  have tS := r.turn ks
  have fD := tD.f
  have sD : ent kd < ent ks := by
    have := top kd d1 d2
    have hne : ent kd ≠ ent ks := fun e => tD.not_in (by rw [e]; exact d4)
    omega
  obtain ⟨cs, hso⟩ := tS.so
  obtain ⟨m1, m2, m3⟩ := some_spec hso
  have hRS := tS.st.R
  have hmw := tS.mw
  have small : ∀ j, j < ent ks → 0 ≤ leftF w (Lx (seq ks)) (hx (seq ks)) (seq ks).low j := fun j hj => by
    rw [← tS.st.l.eq j (by omega)]
    exact m3 j hj
  have big : leftF w (Lx (seq ks)) (hx (seq ks)) (seq ks).low (ent ks) < 0 := tS.f.neg
  have cr := cross tD.st.t tS.st.t w u (ent kd)
  have hneg : (seq ks).low * leftF w (Lx (seq kd)) (hx (seq kd)) (seq kd).low (ent kd) < 0 := Int.mul_neg_of_pos_of_neg tS.st.t.g.lp fD.neg
  have hpos : 0 ≤ (seq kd).low * leftF w (Lx (seq ks)) (hx (seq ks)) (seq ks).low (ent kd) := Int.mul_nonneg (by have := tD.st.t.g.lp; omega) (small _ sD)
  -- one held column with a product above 0
  have hex : ∃ i, i < 3 ∧ 0 < leftF w (Lx (seq ks)) (hx (seq ks)) (seq ks).low (hx (seq kd) i) * Lx (seq kd) i (ent kd) := by
    apply Classical.byContradiction
    intro z
    have z' : ∀ i, i < 3 → leftF w (Lx (seq ks)) (hx (seq ks)) (seq ks).low (hx (seq kd) i) * Lx (seq kd) i (ent kd) ≤ 0 := fun i hi => by
      apply Classical.byContradiction
      intro y
      exact z ⟨i, hi, by omega⟩
    have a0 := z' 0 (by decide)
    have a1 := z' 1 (by decide)
    have a2 := z' 2 (by decide)
    omega
  obtain ⟨i, hi, hprod⟩ := hex
  have lvlt := tD.hi3
  have hnz : leftF w (Lx (seq ks)) (hx (seq ks)) (seq ks).low (hx (seq kd) i) ≠ 0 := fun z => by rw [z, Int.zero_mul] at hprod; omega
  -- it is not the leaving one
  have hil : i ≠ lv kd := by
    intro e
    subst e
    rw [d3] at hprod
    have := Int.mul_neg_of_neg_of_pos big fD.pos
    omega
  have hvne : hx (seq kd) i ≠ ent ks := fun e => hil (tD.st.t.g.inj hi lvlt (by rw [e, d3]))
  have hnot : ¬ Bs (seq ks) (hx (seq kd) i) := fun ⟨x, x1, x2⟩ => hnz (by rw [← x2]; exact left_held tS.st.t w x1)
  obtain ⟨x, x1, x2, x3⟩ := fickle (hx (seq kd) i) kd ks d1 d2 s1 s2 ⟨i, hi, rfl⟩ hnot
  have hvlt : hx (seq kd) i < ent ks := by
    have := top x x1 x2
    omega
  have hl0 := small _ hvlt
  have hLpos : 0 < Lx (seq kd) i (ent kd) := by
    apply Classical.byContradiction
    intro z
    have := Int.mul_nonpos_of_nonneg_of_nonpos hl0 (by omega : Lx (seq kd) i (ent kd) ≤ 0)
    omega
  -- it stands in a real row
  have hreal : i < (seq kd).high := by
    apply Classical.byContradiction
    intro z
    have hcD := fD.hc
    have hRD := tD.st.R
    rw [Lx_pad z, if_neg (by omega)] at hLpos
    omega
  -- its value is 0
  have hz0 : Zv (seq ks) (hx (seq kd) i) := fun y y1 y2 => absurd ⟨y, y1, y2⟩ hnot
  have hzp : Zv (seq p) (hx (seq kd) i) := by
    have := (r.zv hpq he (hx (seq kd) i) (ks - p) (by omega)).mpr (by rw [show p + (ks - p) = ks by omega]; exact hz0)
    exact this
  have hzd : Zv (seq kd) (hx (seq kd) i) := by
    have := (r.zv hpq he (hx (seq kd) i) (kd - p) (by omega)).mp hzp
    rwa [show p + (kd - p) = kd by omega] at this
  have v0 : Lx (seq kd) i ((seq kd).wide + (seq kd).high) = 0 := hzd i hi rfl
  have v1 : Lx (seq kd) (lv kd) ((seq kd).wide + (seq kd).high) = 0 := by
    have := r.level hpq he kd d1 d2
    obtain ⟨c1, c2⟩ := r.wh kd
    rw [c1, c2]
    exact this
  obtain ⟨g1, g2, g3⟩ := (go_inv (seq kd) (ent kd) (seq kd).high).some (lv kd) tD.go
  have hRD := tD.st.R
  have hcD := fD.hc
  have as := g3 i hreal (by rw [← Lx_real hreal (by omega)]; exact hLpos)
  have l0 : lastZ ((seq kd).line i) = 0 := by rw [last_cell tD.st.t.sh hreal, ← Lx_real hreal hRD]; exact v0
  have l1 : lastZ ((seq kd).line (lv kd)) = 0 := by rw [last_cell tD.st.t.sh g1, ← Lx_real g1 hRD]; exact v1
  have hle := as.2 (by rw [l0, l1, Int.zero_mul, Int.zero_mul])
  have h1 : hx (seq kd) (lv kd) = (seq kd).hold (lv kd) := by unfold hx; rw [if_pos g1]
  have h2 : hx (seq kd) i = (seq kd).hold i := by unfold hx; rw [if_pos hreal]
  omega
end
end WM

set_option Elab.async false
set_option linter.all false
set_option maxHeartbeats 1000000
namespace WM
/-- what descend leaves -/
structure Ended (T : Mx) (w : Nat → Int) (many : Nat) (I : Tab → Prop) (S : Tab) (r : Option Nat) (Z : Tab) : Prop where
  st : St T w Z
  wd : Z.wide = S.wide
  hg : Z.high = S.high
  inv : I Z
  none : r = none → ∀ j, j < many → 0 ≤ cell Z.left j
  some : ∀ c, r = some c → c < many ∧ cell Z.left c < 0 ∧ ∀ i, i < Z.high → cell (Z.line i) c ≤ 0
def Term (T : Mx) (w : Nat → Int) (many : Nat) (I : Tab → Prop) (S : Tab) : Prop := ∃ n r Z, DescN many n S r Z ∧ Ended T w many I S r Z
def code (S : Tab) : Nat := (if 0 < S.high then S.hold 0 else 0) + 12 * (if 1 < S.high then S.hold 1 else 0) + 144 * (if 2 < S.high then S.hold 2 else 0)
theorem code_lt {S : Tab} (ok : TabSh S) : code S < 1728 := by
  have h3 := ok.h
  have hw := ok.w
  have key : ∀ i, (if i < S.high then S.hold i else 0) < 12 := fun i => by
    split
    · rename_i h
      have := ok.hold h
      omega
    · decide
  have k0 := key 0
  have k1 := key 1
  have k2 := key 2
  unfold code
  omega
theorem code_inj {S Z : Tab} (s : TabSh S) (z : TabSh Z) (hg : S.high = Z.high) (h : code S = code Z) : hx S = hx Z := by
  have h3 := s.h
  have ws := s.w
  have wz := z.w
  have ks : ∀ i, (if i < S.high then S.hold i else 0) < 12 := fun i => by
    split
    · rename_i h
      have := s.hold h
      omega
    · decide
  have kz : ∀ i, (if i < Z.high then Z.hold i else 0) < 12 := fun i => by
    split
    · rename_i h
      have := z.hold h
      omega
    · decide
  unfold code at h
  have a0 := ks 0
  have a1 := ks 1
  have a2 := ks 2
  have b0 := kz 0
  have b1 := kz 1
  have b2 := kz 2
  have e0 : (if 0 < S.high then S.hold 0 else 0) = (if 0 < Z.high then Z.hold 0 else 0) := by omega
  have e1 : (if 1 < S.high then S.hold 1 else 0) = (if 1 < Z.high then Z.hold 1 else 0) := by omega
  have e2 : (if 2 < S.high then S.hold 2 else 0) = (if 2 < Z.high then Z.hold 2 else 0) := by omega
  funext i
  unfold hx
  by_cases hi : i < S.high
  · rw [if_pos hi, if_pos (by omega)]
    have h2 : i < 3 := by omega
    match i, h2 with
    | 0, _ => rw [if_pos hi, if_pos (by omega)] at e0; exact e0
    | 1, _ => rw [if_pos hi, if_pos (by omega)] at e1; exact e1
    | 2, _ => rw [if_pos hi, if_pos (by omega)] at e2; exact e2
  · rw [if_neg hi, if_neg (by omega)]
theorem desc_ends {T : Mx} {w : Nat → Int} {many : Nat} {I : Tab → Prop} (hI : ∀ S S' c a, Turn T w many S S' c a → I S → I S') (b : TB T) (hw : ∀ j, Bi 9 (w j)) (wp : ∀ i, w (100 + i) = 0) {o : Nat → Nat} (u : Good T T o 1) {S : Tab} (s : St T w S) (mw : many ≤ S.wide) (i0 : I S) : Term T w many I S := by
  apply Classical.byContradiction
  intro nt
  have step : ∀ Y : { Y : Tab // St T w Y ∧ many ≤ Y.wide ∧ I Y ∧ ¬ Term T w many I Y }, ∃ Y' : { Y : Tab // St T w Y ∧ many ≤ Y.wide ∧ I Y ∧ ¬ Term T w many I Y }, ∃ c a, Turn T w many Y.1 Y'.1 c a := by
    intro ⟨Y, sY, mY, iY, nY⟩
    have okY : TabOk Y := sY.t.ok b sY.l hw
    have hR := sY.R
    cases hs : someT many Y with
    | nil => exact absurd ⟨0, none, Y, .stop okY hs, sY, rfl, rfl, iY, fun _ => some_nil hs, (fun c z => nomatch z)⟩ nY
    | cons c cs =>
      obtain ⟨c1, c2, c3⟩ := some_spec hs
      cases hg : goingT Y c with
      | none =>
        refine absurd ⟨0, some c, Y, .off okY hs hg, sY, rfl, rfl, iY, (fun z => nomatch z), fun c' e => ?_⟩ nY
        cases e
        exact ⟨c1, c2, fun i hi => (go_inv Y c Y.high).none hg i hi⟩
      | some a =>
        obtain ⟨ha, hp, st'⟩ := sY.step (c := c) (by omega) hg
        have tn : Turn T w many Y (changeT a c Y) c a := ⟨sY, st', mY, ⟨cs, hs⟩, hg, rfl⟩
        refine ⟨⟨changeT a c Y, st', mY, hI _ _ _ _ tn iY, fun ⟨n, r, Z, dn, en⟩ => nY ⟨n + 1, r, Z, .step okY hs hg dn, en.st, en.wd, en.hg, en.inv, en.none, en.some⟩⟩, c, a, tn⟩
  let nx : { Y : Tab // St T w Y ∧ many ≤ Y.wide ∧ I Y ∧ ¬ Term T w many I Y } → { Y : Tab // St T w Y ∧ many ≤ Y.wide ∧ I Y ∧ ¬ Term T w many I Y } := fun Y => Classical.choose (step Y)
  have nxs : ∀ Y, ∃ c a, Turn T w many Y.1 (nx Y).1 c a := fun Y => Classical.choose_spec (step Y)
  let seq : Nat → { Y : Tab // St T w Y ∧ many ≤ Y.wide ∧ I Y ∧ ¬ Term T w many I Y } := fun k => Nat.rec ⟨S, s, mw, i0, nt⟩ (fun _ Y => nx Y) k
  have sq : ∀ k, ∃ c a, Turn T w many (seq k).1 (seq (k + 1)).1 c a := fun k => nxs (seq k)
  have run : Run T w many (fun k => (seq k).1) (fun k => Classical.choose (sq k)) (fun k => Classical.choose (Classical.choose_spec (sq k))) := ⟨fun k => Classical.choose_spec (Classical.choose_spec (sq k))⟩
  obtain ⟨p, q, h1, h2, h3⟩ := pigeon 1728 (fun k => code (seq k).1) fun k _ => code_lt (seq k).2.1.t.sh
  obtain ⟨a1, a2⟩ := run.wh p
  obtain ⟨b1, b2⟩ := run.wh q
  exact run.no_cycle u wp h1 (code_inj (seq p).2.1.t.sh (seq q).2.1.t.sh (a2.trans b2.symm) h3)
end WM

set_option Elab.async false
set_option linter.all false
set_option maxHeartbeats 1000000
/-! Both phases. -/
namespace WM
section
variable {c : List Int} {A : List (List Int)} {b : List Int}
theorem rep_cell (n : Nat) (v : Int) (j : Nat) : cell (List.replicate n v) j = if j < n then v else 0 := by
  unfold cell
  rw [List.getD_eq_getElem?_getD, List.getElem?_replicate]
  split <;> rfl
theorem w1_eq (n m j : Nat) : cell (costs1 n m) j = if j < n + m then 0 else if j < n + m + m then 1 else 0 := by
  unfold costs1
  by_cases h : j < n + m
  · rw [cell_app_l (by rw [List.length_replicate]; exact h), rep_cell, if_pos h, if_pos h]
  · rw [cell_app_r (by rw [List.length_replicate]; omega), rep_cell, List.length_replicate, if_neg h]
    by_cases h2 : j < n + m + m
    · rw [if_pos h2, if_pos (by omega)]
    · rw [if_neg h2, if_neg (by omega)]
theorem w2_eq (c : List Int) (m j : Nat) : cell (costs2 c m) j = cell c j := by
  unfold costs2
  by_cases h : j < c.length
  · exact cell_app_l h
  · rw [cell_app_r (by omega), rep_cell, cell_out (by omega : c.length ≤ j)]
    split <;> rfl
theorem len1 (n m : Nat) : (costs1 n m).length = n + m + m := by unfold costs1; rw [List.length_append, List.length_replicate, List.length_replicate]
theorem len2 (c : List Int) (m : Nat) : (costs2 c m).length = c.length + m + m := by unfold costs2; rw [List.length_append, List.length_replicate]; omega
theorem w1_bi (n m j : Nat) : Bi 9 (cell (costs1 n m) j) := by
  rw [w1_eq]
  split
  · exact bz
  · split
    · show (1 : Int).natAbs < 2 ^ 9; decide
    · exact bz
theorem w1_nn (n m j : Nat) : 0 ≤ cell (costs1 n m) j := by
  rw [w1_eq]
  split
  · omega
  · split <;> omega
theorem w1_pad (p : Inp c A b) (i : Nat) : cell (costs1 c.length A.length) (100 + i) = 0 := by
  have := p.n
  have := p.m
  rw [w1_eq, if_neg (by omega), if_neg (by omega)]
theorem w2_bi (p : Inp c A b) (m j : Nat) : Bi 9 (cell (costs2 c m) j) := by rw [w2_eq]; exact (mem_cell p.cb j).mono (by decide)
theorem w2_pad (p : Inp c A b) (m i : Nat) : cell (costs2 c m) (100 + i) = 0 := by
  have := p.n
  rw [w2_eq, cell_out (by omega)]
theorem sg_mul_nn (r : Int) : 0 ≤ sgT r * r := by
  unfold sgT
  split <;> omega
/-- a state over this task's first table -/
structure At0 (A : List (List Int)) (b : List Int) (c : List Int) (w : Nat → Int) (S : Tab) : Prop where
  st : St (T0 A b) w S
  wd : S.wide = c.length + A.length
  hg : S.high = A.length
theorem start1 (p : Inp c A b) : At0 A b c (cell (costs1 c.length A.length)) (weighT (costs1 c.length A.length) (S0 A b)) := by
  refine ⟨⟨p.tg.weigh _, LeftOk.weigh p.sh (by rw [len1, p.wide, p.high]), fun i hi => ?_⟩, p.wide, p.high⟩
  show 0 ≤ T0 A b i ((S0 A b).wide + (S0 A b).high)
  rw [p.wide, p.high, p.t_r i]
  exact sg_mul_nn _
theorem restart (p : Inp c A b) {w : Nat → Int} {S : Tab} (a : At0 A b c w S) : At0 A b c (cell (costs2 c A.length)) (weighT (costs2 c A.length) S) :=
  ⟨⟨a.st.t.weigh _, LeftOk.weigh a.st.t.sh (by rw [len2, a.wd, a.hg]), a.st.r⟩, a.wd, a.hg⟩
theorem w_term_nn {w : Nat → Int} {S : Tab} (nn : ∀ j, 0 ≤ w j) (wp : ∀ i, w (100 + i) = 0) {col : Nat} (h : ∀ i, i < S.high → 0 ≤ Lx S i col) : ∀ i, 0 ≤ w (hx S i) * Lx S i col := fun i => by
  by_cases hi : i < S.high
  · exact Int.mul_nonneg (nn _) (h i hi)
  · unfold hx
    rw [if_neg hi, wp, Int.zero_mul]
    exact Int.le_refl 0
theorem w_term_np {w : Nat → Int} {S : Tab} (nn : ∀ j, 0 ≤ w j) (wp : ∀ i, w (100 + i) = 0) {col : Nat} (h : ∀ i, i < S.high → Lx S i col ≤ 0) : ∀ i, w (hx S i) * Lx S i col ≤ 0 := fun i => by
  by_cases hi : i < S.high
  · exact Int.mul_nonpos_of_nonneg_of_nonpos (nn _) (h i hi)
  · unfold hx
    rw [if_neg hi, wp, Int.zero_mul]
    exact Int.le_refl 0
/-! ### weak duality -/
theorem weakG (p : Inp c A b) {y d x be : Nat → Rat} (hy : ∀ i, i < A.length → 0 ≤ y i) (hd : ∀ j, j < c.length → y 0 * acR A 0 j + y 1 * acR A 1 j + y 2 * acR A 2 j ≤ d j) (hx : ∀ j, j < c.length → 0 ≤ x j)
    (hf : ∀ i, i < A.length → be i ≤ acR A i 0 * x 0 + acR A i 1 * x 1 + acR A i 2 * x 2) (d0 : ∀ j, ¬ j < c.length → d j = 0) (b0 : ∀ i, ¬ i < A.length → be i = 0) :
    y 0 * be 0 + y 1 * be 1 + y 2 * be 2 ≤ d 0 * x 0 + d 1 * x 1 + d 2 * x 2 := by
  have rowI : ∀ i, y i * be i ≤ y i * (acR A i 0 * x 0 + acR A i 1 * x 1 + acR A i 2 * x 2) := fun i => by
    by_cases hi : i < A.length
    · exact Rat.mul_le_mul_of_nonneg_left (hf i hi) (hy i hi)
    · have z : ∀ j, acR A i j = 0 := fun j => by unfold acR; rw [p.ac_out (fun z => hi z.1)]; rfl
      rw [z, z, z, b0 i hi]
      grind
  have colJ : ∀ j, (y 0 * acR A 0 j + y 1 * acR A 1 j + y 2 * acR A 2 j) * x j ≤ d j * x j := fun j => by
    by_cases hj : j < c.length
    · exact Rat.mul_le_mul_of_nonneg_right (hd j hj) (hx j hj)
    · have z : ∀ i, acR A i j = 0 := fun i => by unfold acR; rw [p.ac_out (fun z => hj z.2)]; rfl
      rw [z, z, z, d0 j hj]
      grind
  have r0 := rowI 0
  have r1 := rowI 1
  have r2 := rowI 2
  have c0 := colJ 0
  have c1 := colJ 1
  have c2 := colJ 2
  grind
theorem weak_dual (p : Inp c A b) {y d x : Nat → Rat} (hy : ∀ i, i < A.length → 0 ≤ y i) (hd : ∀ j, j < c.length → y 0 * acR A 0 j + y 1 * acR A 1 j + y 2 * acR A 2 j ≤ d j) (hx : ∀ j, j < c.length → 0 ≤ x j)
    (hf : ∀ i, i < A.length → bR b i ≤ acR A i 0 * x 0 + acR A i 1 * x 1 + acR A i 2 * x 2) (d0 : ∀ j, ¬ j < c.length → d j = 0) :
    y 0 * bR b 0 + y 1 * bR b 1 + y 2 * bR b 2 ≤ d 0 * x 0 + d 1 * x 1 + d 2 * x 2 :=
  weakG p hy hd hx hf d0 fun i hi => by unfold bR; rw [p.bc_out hi]; rfl
def NoX (c : List Int) (A : List (List Int)) (b : List Int) : Prop := ¬ ∃ x : Nat → Rat, (∀ j, j < c.length → 0 ≤ x j) ∧ ∀ i, i < A.length → bR b i ≤ acR A i 0 * x 0 + acR A i 1 * x 1 + acR A i 2 * x 2
abbrev PR (A : List (List Int)) (b : List Int) (w : Nat → Int) (S : Tab) (k : Nat) : Rat := ((Pw A b w S k : Int) : Rat)
/-- what the left row says of the duals -/
theorem dual_of (p : Inp c A b) {w : Nat → Int} {S : Tab} (a : At0 A b c w S) (hz : ∀ k, k < A.length → w (c.length + k) = 0) (hl : ∀ j, j < c.length + A.length → 0 ≤ cell S.left j) :
    (∀ k, k < A.length → 0 ≤ PR A b w S k) ∧ ∀ j, j < c.length → PR A b w S 0 * acR A 0 j + PR A b w S 1 * acR A 1 j + PR A b w S 2 * acR A 2 j ≤ ((S.low : Int) : Rat) * ((w j : Int) : Rat) := by
  have hn := p.n
  have hm := p.m
  constructor
  · intro k hk
    have := hl (c.length + k) (by omega)
    rw [a.st.l.eq _ (by omega), left_s p a.st.t w hk, hz k hk, Int.mul_zero, Int.zero_add] at this
    exact Rat.intCast_nonneg.mpr this
  · intro j hj
    have := hl j (by omega)
    rw [a.st.l.eq _ (by omega), left_x p a.st.t w hj] at this
    have h2 : Pw A b w S 0 * ac A 0 j + Pw A b w S 1 * ac A 1 j + Pw A b w S 2 * ac A 2 j ≤ S.low * w j := by omega
    have h3 : ((Pw A b w S 0 * ac A 0 j + Pw A b w S 1 * ac A 1 j + Pw A b w S 2 * ac A 2 j : Int) : Rat) ≤ ((S.low * w j : Int) : Rat) := by exact_mod_cast h2
    simp only [Rat.intCast_add, Rat.intCast_mul] at h3
    exact h3
/-- held columns beyond the wide ones stand at 0 -/
def ArtZ (S : Tab) : Prop := ∀ i, i < S.high → S.wide ≤ S.hold i → Lx S i (S.wide + S.high) = 0
theorem lastL {w : Nat → Int} {S : Tab} (l : LeftOk w S) (ok : TabSh S) : lastZ S.left = leftF w (Lx S) (hx S) S.low (S.wide + S.high) := by
  have h3 := ok.h
  have hw := ok.w
  rw [← l.eq _ (by omega)]
  unfold lastZ
  rw [l.len]
  rfl
theorem phase1 (p : Inp c A b) : ∃ n T1, DescN (c.length + A.length) n (weighT (costs1 c.length A.length) (S0 A b)) none T1 ∧ At0 A b c (cell (costs1 c.length A.length)) T1 ∧ T1.turned = (S0 A b).turned ∧ (lastZ T1.left ≠ 0 → NoX c A b) ∧ (lastZ T1.left = 0 → ArtZ T1) := by
  have hn := p.n
  have hm := p.m
  have a0 := start1 p
  obtain ⟨n, r, T1, dn, en⟩ := desc_ends (I := fun S => S.turned = (S0 A b).turned) (fun S S' _ _ u e => by rw [u.eq]; exact e) p.tb (w1_bi c.length A.length) (w1_pad p) p.good a0.st (many := c.length + A.length) (by rw [a0.wd]; exact Nat.le_refl _) rfl
  have a1 : At0 A b c (cell (costs1 c.length A.length)) T1 := ⟨en.st, en.wd.trans a0.wd, en.hg.trans a0.hg⟩
  have hR : T1.wide + T1.high = c.length + A.length + A.length := by rw [a1.wd, a1.hg]
  have wz : ∀ j, j < c.length + A.length → cell (costs1 c.length A.length) j = 0 := fun j hj => by rw [w1_eq, if_pos hj]
  have wR : cell (costs1 c.length A.length) (c.length + A.length + A.length) = 0 := by rw [w1_eq, if_neg (by omega), if_neg (by omega)]
  cases r with
  | some col =>
    obtain ⟨c1, c2, c3⟩ := en.some col rfl
    rw [en.st.l.eq col (by omega)] at c2
    have t := w_term_np (w := cell (costs1 c.length A.length)) (S := T1) (w1_nn c.length A.length) (w1_pad p) (col := col) fun i hi => by rw [Lx_real hi (by omega)]; exact c3 i hi
    unfold leftF at c2
    rw [wz col c1, Int.mul_zero] at c2
    have t0 := t 0
    have t1 := t 1
    have t2 := t 2
    omega
  | none =>
    have hl := en.none rfl
    refine ⟨n, T1, dn, a1, en.inv, fun hz => ?_, fun hz => ?_⟩
    · obtain ⟨d1, d2⟩ := dual_of p a1 (fun k hk => wz _ (by omega)) hl
      have lz := lastL en.st.l en.st.t.sh
      rw [hR] at lz
      have t := w_term_nn (w := cell (costs1 c.length A.length)) (S := T1) (w1_nn c.length A.length) (w1_pad p) (col := c.length + A.length + A.length) fun i hi => by
        have := en.st.r i hi
        rw [hR] at this
        exact this
      have t0 := t 0
      have t1 := t 1
      have t2 := t 2
      have e1 := lz
      rw [left_r p en.st.t, wR, Int.mul_zero] at e1
      unfold leftF at lz
      rw [wR, Int.mul_zero] at lz
      have pos : 0 < Pw A b (cell (costs1 c.length A.length)) T1 0 * cell b 0 + Pw A b (cell (costs1 c.length A.length)) T1 1 * cell b 1 + Pw A b (cell (costs1 c.length A.length)) T1 2 * cell b 2 := by omega
      have posR : (0 : Rat) < PR A b (cell (costs1 c.length A.length)) T1 0 * bR b 0 + PR A b (cell (costs1 c.length A.length)) T1 1 * bR b 1 + PR A b (cell (costs1 c.length A.length)) T1 2 * bR b 2 := by
        have : (0 : Rat) < ((Pw A b (cell (costs1 c.length A.length)) T1 0 * cell b 0 + Pw A b (cell (costs1 c.length A.length)) T1 1 * cell b 1 + Pw A b (cell (costs1 c.length A.length)) T1 2 * cell b 2 : Int) : Rat) := by exact_mod_cast pos
        simp only [Rat.intCast_add, Rat.intCast_mul] at this
        exact this
      rintro ⟨x, x1, x2⟩
      have := weak_dual p (d := fun _ => 0) d1 (fun j hj => by
        have := d2 j hj
        rw [wz j (by omega)] at this
        have e0 : ((0 : Int) : Rat) = 0 := rfl
        rw [e0, Rat.mul_zero] at this
        exact this) x1 x2 (fun _ _ => rfl)
      grind
    · intro i hi hw
      have lz := lastL en.st.l en.st.t.sh
      rw [hR] at lz
      have rr : ∀ i, i < T1.high → 0 ≤ Lx T1 i (c.length + A.length + A.length) := fun i hi => by
        have := en.st.r i hi
        rw [hR] at this
        exact this
      have t := w_term_nn (w := cell (costs1 c.length A.length)) (S := T1) (w1_nn c.length A.length) (w1_pad p) (col := c.length + A.length + A.length) rr
      have t0 := t 0
      have t1 := t 1
      have t2 := t 2
      unfold leftF at lz
      rw [wR, Int.mul_zero] at lz
      have hz2 : ∀ i, i < 3 → cell (costs1 c.length A.length) (hx T1 i) * Lx T1 i (c.length + A.length + A.length) = 0 := fun i hi => by
        match i, hi with
        | 0, _ => omega
        | 1, _ => omega
        | 2, _ => omega
      have h3 := en.st.t.sh.h
      have := hz2 i (by omega)
      have hh : hx T1 i = T1.hold i := by unfold hx; rw [if_pos hi]
      have hb := en.st.t.sh.hold hi
      rw [hh, w1_eq, if_neg (by have := a1.wd; omega), if_pos (by omega), Int.one_mul] at this
      rw [hR]
      exact this
/-! ### clear_base -/
structure CI (A : List (List Int)) (b : List Int) (c : List Int) (k : Nat) (S : Tab) : Prop where
  a : At0 A b c (cell (costs1 c.length A.length)) S
  z : ArtZ S
  h : ∀ i, i < k → i < S.high → S.hold i < S.wide
  tn : S.turned = (S0 A b).turned
theorem nz_ex (p : Inp c A b) {w : Nat → Int} {S : Tab} (a : At0 A b c w S) {k : Nat} (hk : k < S.high) : nzT S k ≠ [] := by
  intro e
  have hn := p.n
  have hm := p.m
  have hkm : k < A.length := by rw [← a.hg]; exact hk
  have zero : ∀ j, j < S.wide → Lx S k j = 0 := fun j hj => by
    apply Classical.byContradiction
    intro z
    have hw := a.wd
    rw [Lx_real hk (by omega)] at z
    have : j ∈ nzT S k := List.mem_filter.mpr ⟨List.mem_range.mpr hj, by rw [decide_eq_false z]; rfl⟩
    rw [e] at this
    cases this
  have g := a.st.t.g
  have oz : ∀ l, l < 3 → Lx S k (o0 A b l) = 0 := fun l hl => by
    by_cases h : l < A.length
    · have e1 := g.rows p.good k (c.length + l) (by omega)
      rw [zero _ (by rw [a.wd]; omega), p.t_s 0 h, p.t_s 1 h, p.t_s 2 h] at e1
      have s2 := sg_sq b l
      have sne : sg b l ≠ 0 := fun z => by rw [z] at s2; omega
      match l, hl with
      | 0, _ =>
        simp at e1
        rcases Int.mul_eq_zero.mp e1.symm with z | z
        · exact z
        · omega
      | 1, _ =>
        simp at e1
        rcases Int.mul_eq_zero.mp e1.symm with z | z
        · exact z
        · omega
      | 2, _ =>
        simp at e1
        rcases Int.mul_eq_zero.mp e1.symm with z | z
        · exact z
        · omega
    · rw [p.o_pad h]
      exact Lx_far hk (by omega)
  have e2 := g.rows p.good k (hx S k) (by omega)
  rw [oz 0 (by decide), oz 1 (by decide), oz 2 (by decide), Int.zero_mul, Int.zero_mul, Int.zero_mul, g.un k k (by omega) (by omega), if_pos rfl] at e2
  have := g.lp
  omega
theorem CI.step (p : Inp c A b) {k : Nat} {S : Tab} (ci : CI A b c k S) (hk : k < S.high) : CI A b c (k + 1) (clearStep S k) := by
  have a := ci.a
  have hn := p.n
  have hm := p.m
  have hw := a.wd
  have hg := a.hg
  unfold clearStep
  by_cases hc : S.wide ≤ S.hold k
  · rw [if_pos hc]
    cases hz : nzT S k with
    | nil => exact absurd hz (nz_ex p a hk)
    | cons col cs =>
      have hcm : col ∈ nzT S k := by rw [hz]; simp
      obtain ⟨m1, m2⟩ := List.mem_filter.mp hcm
      have hcw : col < S.wide := List.mem_range.mp m1
      have hne : cell (S.line k) col ≠ 0 := fun z => by rw [decide_eq_true z] at m2; cases m2
      have tc := a.st.t.change hk (c := col) (by omega) hne
      have lp := a.st.t.g.lp
      have r0 := ci.z k hk hc
      have hR := a.st.R
      have hL := changeL a.st.t.sh lp hk (by omega : col < 100)
      have hv : 0 < sgC S k col * Lx S k col := by
        rw [Lx_real hk (by omega)]
        unfold sgC
        split <;> omega
      have rowk : Lx (changeT k col S) k (S.wide + S.high) = 0 := by
        rw [hL]
        unfold pivL
        rw [if_pos rfl, r0, Int.mul_zero]
      have rowi : ∀ i, i < S.high → i ≠ k → S.low * Lx (changeT k col S) i (S.wide + S.high) = Lx S i (S.wide + S.high) * (sgC S k col * Lx S k col) := fun i hi hn => by
        have h3 := a.st.t.sh.h
        have := a.st.t.g.piv_eq (sg := sgC S k col) (c := col) (i := i) (a := k) (by omega) (by omega) hn (S.wide + S.high)
        rw [hL, this, r0, Int.mul_zero, Int.zero_mul, Int.sub_zero]
      have hold : ∀ i, i < S.high → (changeT k col S).hold i = if i = k then col else S.hold i := fun i hi => by
        show (S.held.set k col).getD i 0 = _
        rw [m_getD_set (by rw [a.st.t.sh.hl]; exact hk)]
        rfl
      refine ⟨⟨⟨tc, a.st.l.change a.st.t hk (by omega), fun i hi => ?_⟩, hw, hg⟩, fun i hi hwi => ?_, fun i hi hih => ?_, ci.tn⟩
      · have hi : i < S.high := hi
        show 0 ≤ Lx (changeT k col S) i (S.wide + S.high)
        by_cases e : i = k
        · rw [e, rowk]; exact Int.le_refl 0
        · exact nonneg_of lp (rowi i hi e) (Int.mul_nonneg (a.st.r i hi) (by omega))
      · have hi : i < S.high := hi
        have hwi : S.wide ≤ (changeT k col S).hold i := hwi
        show Lx (changeT k col S) i (S.wide + S.high) = 0
        rw [hold i hi] at hwi
        by_cases e : i = k
        · rw [e]; exact rowk
        · rw [if_neg e] at hwi
          have := rowi i hi e
          rw [ci.z i hi hwi, Int.zero_mul] at this
          rcases Int.mul_eq_zero.mp this with z | z
          · omega
          · exact z
      · have hih : i < S.high := hih
        show (changeT k col S).hold i < S.wide
        rw [hold i hih]
        by_cases e : i = k
        · rw [if_pos e]; exact hcw
        · rw [if_neg e]; exact ci.h i (by omega) hih
  · rw [if_neg hc]
    refine ⟨a, ci.z, fun i hi hih => ?_, ci.tn⟩
    by_cases e : i = k
    · rw [e]; omega
    · exact ci.h i (by omega) hih
theorem clear_all (p : Inp c A b) {S : Tab} (ci : CI A b c 0 S) : ∀ k, k ≤ S.high → CI A b c k (clearT S k)
  | 0, _ => ci
  | k + 1, h => by
    have e : clearT S (k + 1) = clearStep (clearT S k) k := by
      unfold clearT
      rw [List.range_succ, List.foldl_append]
      rfl
    rw [e]
    have ih := clear_all p ci k (by omega)
    exact ih.step p (by rw [ih.a.hg, ← ci.a.hg]; omega)
/-- a last table -/
structure FinZ (A : List (List Int)) (b : List Int) (c : List Int) (Z : Tab) : Prop where
  a : At0 A b c (cell (costs2 c A.length)) Z
  h : ∀ i, i < Z.high → Z.hold i < Z.wide
  tn : Z.turned = (S0 A b).turned
theorem run_all (p : Inp c A b) :
    (∃ paper low, SolveRun c A b (.none paper low) ∧ NoX c A b) ∨
    (∃ Z col, SolveRun c A b (.endless ((planT Z).take c.length) Z.low) ∧ FinZ A b c Z ∧ col < c.length + A.length ∧ cell Z.left col < 0 ∧ ∀ i, i < Z.high → cell (Z.line i) col ≤ 0) ∨
    (∃ Z, SolveRun c A b (.best ((planT Z).take c.length) (paperT 0 Z) Z.low) ∧ FinZ A b c Z ∧ ∀ j, j < c.length + A.length → 0 ≤ cell Z.left j) := by
  obtain ⟨n1, T1, dn, a1, tn1, h1, h2⟩ := phase1 p
  have ok1 := a1.st.t.ok p.tb a1.st.l (w1_bi c.length A.length)
  by_cases hz : lastZ T1.left = 0
  · have ca := clear_all p ⟨a1, h2 hz, (fun i hi => absurd hi (Nat.not_lt_zero _)), tn1⟩
    have oks : ∀ k, k ≤ T1.high → TabOk (clearT T1 k) := fun k hk => (ca k hk).a.st.t.ok p.tb (ca k hk).a.st.l (w1_bi c.length A.length)
    have cl := ca T1.high (Nat.le_refl _)
    have a2 := restart p cl.a
    obtain ⟨n2, r, Z, dn2, en⟩ := desc_ends (I := fun S => (∀ i, i < S.high → S.hold i < S.wide) ∧ S.turned = (S0 A b).turned) (many := c.length + A.length) (T := T0 A b) (w := cell (costs2 c A.length)) (fun S S' col a u ih0 => ⟨fun i hi => by
        have ih := ih0.1
        have f := u.f
        obtain ⟨w1, w2⟩ := u.wh
        obtain ⟨cs, hs⟩ := u.so
        obtain ⟨s1, _, _⟩ := some_spec hs
        have hmw := u.mw
        rw [w2] at hi
        rw [w1, u.eq]
        show (S.held.set a col).getD i 0 < S.wide
        rw [m_getD_set (by rw [u.st.t.sh.hl]; exact f.ha)]
        split
        · omega
        · exact ih i hi, by rw [u.eq]; exact ih0.2⟩) p.tb (w2_bi p A.length) (w2_pad p A.length) p.good a2.st (by rw [a2.wd]; exact Nat.le_refl _) ⟨fun i hi => by
          have hi : i < (clearT T1 T1.high).high := hi
          exact cl.h i (by rw [cl.a.hg] at hi; rw [a1.hg]; exact hi) hi, cl.tn⟩
    have fz : FinZ A b c Z := ⟨⟨en.st, en.wd.trans a2.wd, en.hg.trans a2.hg⟩, en.inv.1, en.inv.2⟩
    have ok2 := en.st.t.ok p.tb en.st.l (w2_bi p A.length)
    cases r with
    | some col =>
      obtain ⟨c1, c2, c3⟩ := en.some col rfl
      exact .inr (.inl ⟨Z, col, .endless dn ok1 hz oks dn2 ok2, fz, c1, c2, c3⟩)
    | none => exact .inr (.inr ⟨Z, .best dn ok1 hz oks dn2 ok2, fz, en.none rfl⟩)
  · exact .inl ⟨_, _, .none dn ok1 hz, h1 hz⟩
end
end WM

set_option Elab.async false
set_option linter.all false
set_option maxHeartbeats 1000000
/-! What a last table says. -/
namespace WM
section
variable {c : List Int} {A : List (List Int)} {b : List Int} {Z : Tab}
abbrev lw (Z : Tab) : Rat := ((Z.low : Int) : Rat)
abbrev ccR (c : List Int) (j : Nat) : Rat := ((cell c j : Int) : Rat)
/-- the held columns' values -/
def Xv (Z : Tab) (col : Nat) : Rat := Vh (hx Z) (fun k => ((Lx Z k (Z.wide + Z.high) : Int) : Rat)) col
theorem FinZ.lp (f : FinZ A b c Z) : 0 < lw Z := by
  have := f.a.st.t.g.lp
  show (0 : Rat) < ((Z.low : Int) : Rat)
  exact_mod_cast this
theorem FinZ.R (f : FinZ A b c Z) : Z.wide + Z.high = c.length + A.length + A.length := by rw [f.a.wd, f.a.hg]
theorem ee_nn (x y : Nat) : 0 ≤ ee x y := by unfold ee; split <;> decide +kernel
theorem Vh_nn {h : Nat → Nat} {v : Nat → Rat} (hv : ∀ k, k < 3 → 0 ≤ v k) (col : Nat) : 0 ≤ Vh h v col := by
  unfold Vh
  have a := Rat.mul_nonneg (ee_nn (h 0) col) (hv 0 (by decide))
  have b := Rat.mul_nonneg (ee_nn (h 1) col) (hv 1 (by decide))
  have c := Rat.mul_nonneg (ee_nn (h 2) col) (hv 2 (by decide))
  grind
theorem Vh_out {h : Nat → Nat} {v : Nat → Rat} {col : Nat} (hn : ∀ k, k < 3 → h k ≠ col) : Vh h v col = 0 := by
  unfold Vh
  rw [ee_ne (hn 0 (by decide)), ee_ne (hn 1 (by decide)), ee_ne (hn 2 (by decide))]
  grind
theorem Vh_at {T L : Mx} {h : Nat → Nat} {low : Int} (g : Good T L h low) (v : Nat → Rat) {k : Nat} (hk : k < 3) : Vh h v (h k) = v k := by
  unfold Vh
  have ne : ∀ i, i < 3 → i ≠ k → ee (h i) (h k) = 0 := fun i hi hn => ee_ne fun e => hn (g.inj hi hk e)
  match k, hk with
  | 0, _ => rw [ee_same, ne 1 (by decide) (by decide), ne 2 (by decide) (by decide)]; grind
  | 1, _ => rw [ee_same, ne 0 (by decide) (by decide), ne 2 (by decide) (by decide)]; grind
  | 2, _ => rw [ee_same, ne 0 (by decide) (by decide), ne 1 (by decide) (by decide)]; grind
theorem FinZ.hold (f : FinZ A b c Z) {k : Nat} (hk : k < A.length) : hx Z k = Z.hold k ∧ hx Z k < c.length + A.length := by
  have hg := f.a.hg
  have e : hx Z k = Z.hold k := by unfold hx; rw [if_pos (by omega)]
  refine ⟨e, ?_⟩
  rw [e, ← f.a.wd]
  exact f.h k (by omega)
theorem FinZ.pad (f : FinZ A b c Z) {k : Nat} (hk : ¬ k < A.length) : hx Z k = 100 + k := by
  have hg := f.a.hg
  unfold hx
  rw [if_neg (by omega)]
theorem FinZ.no_art (p : Inp c A b) (f : FinZ A b c Z) {i : Nat} (v : Nat → Rat) (hi : i < A.length) : Vh (hx Z) v (c.length + A.length + i) = 0 := by
  have hn := p.n
  have hm := p.m
  refine Vh_out fun k hk => ?_
  by_cases h : k < A.length
  · have := (f.hold h).2
    omega
  · rw [f.pad h]
    omega
theorem FinZ.R_nn (p : Inp c A b) (f : FinZ A b c Z) (k : Nat) : 0 ≤ Lx Z k (Z.wide + Z.high) := by
  have hn := p.n
  have hm := p.m
  have hR := f.R
  by_cases h : k < Z.high
  · exact f.a.st.r k h
  · rw [Lx_pad h, if_neg (by omega)]
    exact Int.le_refl 0
theorem FinZ.F1 (p : Inp c A b) (f : FinZ A b c Z) (col : Nat) : 0 ≤ Xv Z col := Vh_nn (fun k _ => Rat.intCast_nonneg.mpr (f.R_nn p k)) col
theorem FinZ.F2 (p : Inp c A b) (f : FinZ A b c Z) {i : Nat} (hi : i < A.length) : acR A i 0 * Xv Z 0 + acR A i 1 * Xv Z 1 + acR A i 2 * Xv Z 2 - Xv Z (c.length + i) = lw Z * bR b i := by
  have hm := p.m
  have b1 := back_R f.a.st.t i (Z.wide + Z.high) (by omega)
  have k1 := K_id p f.a.st.t f.a.wd f.a.hg (fun k => ((Lx Z k (Z.wide + Z.high) : Int) : Rat)) hi
  have n1 := f.no_art p (fun k => ((Lx Z k (Z.wide + Z.high) : Int) : Rat)) hi
  rw [k1, n1, f.R, p.t_r i, Rat.intCast_mul] at b1
  have s2 := sgR_sq b i
  unfold Xv
  rw [f.R]
  grind
theorem plan_cell (p : Inp c A b) (f : FinZ A b c Z) {j : Nat} (hj : j < c.length + A.length) : ((cell (planT Z) j : Int) : Rat) = Xv Z j := by
  have hn := p.n
  have hm := p.m
  have hR := f.R
  have hwd := f.a.wd
  have hhg := f.a.hg
  have sh := f.a.st.t.sh
  have g := f.a.st.t.g
  have real : ∀ i, i < Z.high → hx Z i = Z.held.getD i 0 ∧ Lx Z i (Z.wide + Z.high) = lastZ (Z.lines.getD i []) := fun i hi => by
    refine ⟨by unfold hx; rw [if_pos hi]; rfl, ?_⟩
    rw [Lx_real hi (by omega)]
    exact (last_cell sh hi).symm
  have padd : ∀ i, ¬ i < Z.high → ee (hx Z i) j = 0 := fun i hi => ee_ne (by
    unfold hx
    rw [if_neg hi]
    omega)
  have hlt : ∀ i, i < Z.high → Z.held.getD i 0 < Z.wide := fun i hi => f.h i hi
  have inj : ∀ i k, i < Z.high → k < Z.high → Z.held.getD i 0 = Z.held.getD k 0 → i = k := fun i k hi hk e => by
    refine g.inj (by omega) (by omega) ?_
    rw [(real i hi).1, (real k hk).1, e]
  have rep : ∀ j, cell (List.replicate Z.wide 0) j = 0 := fun j => by rw [rep_cell]; split <;> rfl
  have hl0 : (List.replicate Z.wide (0 : Int)).length = Z.wide := List.length_replicate ..
  have st : ∀ (fd : List Int) (r : List Int) (x : Nat), x < Z.wide → fd.length = Z.wide → cell (planStep Z.wide fd (r, x)) j = (if j = x then lastZ r else cell fd j) ∧ (planStep Z.wide fd (r, x)).length = Z.wide := fun fd r x hx hl => by
    unfold planStep
    rw [if_pos hx]
    refine ⟨?_, by rw [List.length_set]; exact hl⟩
    unfold cell
    exact m_getD_set (by rw [hl]; exact hx)
  show ((cell ((Z.lines.zip Z.held).foldl (planStep Z.wide) (List.replicate Z.wide 0)) j : Int) : Rat) = ee (hx Z 0) j * ((Lx Z 0 (Z.wide + Z.high) : Int) : Rat) + ee (hx Z 1) j * ((Lx Z 1 (Z.wide + Z.high) : Int) : Rat) + ee (hx Z 2) j * ((Lx Z 2 (Z.wide + Z.high) : Int) : Rat)
  have hll := sh.ll
  have hhl := sh.hl
  have h3 := sh.h
  obtain ⟨wide, high, turned, lines, held, low, left⟩ := Z
  have hll : lines.length = high := hll
  have hhl : held.length = high := hhl
  have h3 : 1 ≤ high ∧ high ≤ 3 := h3
  match lines, held, hll, hhl with
  | [a], [x], e1, e2 =>
    have e : high = 1 := e1.symm
    have x0 := hlt 0 (by show 0 < high; omega)
    rw [padd 1 (by show ¬ 1 < high; omega), padd 2 (by show ¬ 2 < high; omega), (real 0 (by show 0 < high; omega)).1, (real 0 (by show 0 < high; omega)).2]
    show ((cell (planStep wide (List.replicate wide 0) (a, x)) j : Int) : Rat) = ee x j * ((lastZ a : Int) : Rat) + _ + _
    rw [(st _ a x x0 hl0).1, rep]
    by_cases h : j = x
    · rw [if_pos h, h, ee_same]; grind
    · rw [if_neg h, ee_ne (Ne.symm h)]; grind
  | [a, a'], [x, x'], e1, e2 =>
    have e : high = 2 := e1.symm
    have x0 := hlt 0 (by show 0 < high; omega)
    have x1 := hlt 1 (by show 1 < high; omega)
    have ne : x ≠ x' := fun z => by have := inj 0 1 (by show 0 < high; omega) (by show 1 < high; omega) z; omega
    rw [padd 2 (by show ¬ 2 < high; omega), (real 0 (by show 0 < high; omega)).1, (real 0 (by show 0 < high; omega)).2, (real 1 (by show 1 < high; omega)).1, (real 1 (by show 1 < high; omega)).2]
    show ((cell (planStep wide (planStep wide (List.replicate wide 0) (a, x)) (a', x')) j : Int) : Rat) = ee x j * ((lastZ a : Int) : Rat) + ee x' j * ((lastZ a' : Int) : Rat) + _
    have s0 := st _ a x x0 hl0
    rw [(st _ a' x' x1 s0.2).1, s0.1, rep]
    by_cases h : j = x
    · rw [if_pos h, if_neg (by omega), h, ee_same, ee_ne (Ne.symm ne)]; grind
    · rw [if_neg h, ee_ne (Ne.symm h)]
      by_cases h' : j = x'
      · rw [if_pos h', h', ee_same]; grind
      · rw [if_neg h', ee_ne (Ne.symm h')]; grind
  | [a, a', a''], [x, x', x''], e1, e2 =>
    have e : high = 3 := e1.symm
    have x0 := hlt 0 (by show 0 < high; omega)
    have x1 := hlt 1 (by show 1 < high; omega)
    have x2 := hlt 2 (by show 2 < high; omega)
    have ne : x ≠ x' := fun z => by have := inj 0 1 (by show 0 < high; omega) (by show 1 < high; omega) z; omega
    have ne2 : x ≠ x'' := fun z => by have := inj 0 2 (by show 0 < high; omega) (by show 2 < high; omega) z; omega
    have ne3 : x' ≠ x'' := fun z => by have := inj 1 2 (by show 1 < high; omega) (by show 2 < high; omega) z; omega
    rw [(real 0 (by show 0 < high; omega)).1, (real 0 (by show 0 < high; omega)).2, (real 1 (by show 1 < high; omega)).1, (real 1 (by show 1 < high; omega)).2, (real 2 (by show 2 < high; omega)).1, (real 2 (by show 2 < high; omega)).2]
    show ((cell (planStep wide (planStep wide (planStep wide (List.replicate wide 0) (a, x)) (a', x')) (a'', x'')) j : Int) : Rat) = ee x j * ((lastZ a : Int) : Rat) + ee x' j * ((lastZ a' : Int) : Rat) + ee x'' j * ((lastZ a'' : Int) : Rat)
    have s0 := st _ a x x0 hl0
    have s1 := st _ a' x' x1 s0.2
    rw [(st _ a'' x'' x2 s1.2).1, s1.1, s0.1, rep]
    by_cases h : j = x
    · rw [if_pos h, if_neg (by omega), if_neg (by omega), h, ee_same, ee_ne (Ne.symm ne), ee_ne (Ne.symm ne2)]; grind
    · rw [if_neg h, ee_ne (Ne.symm h)]
      by_cases h' : j = x'
      · rw [if_pos h', if_neg (by omega), h', ee_same, ee_ne (Ne.symm ne3)]; grind
      · rw [if_neg h', ee_ne (Ne.symm h')]
        by_cases h'' : j = x''
        · rw [if_pos h'', h'', ee_same]; grind
        · rw [if_neg h'', ee_ne (Ne.symm h'')]; grind
  | [], _, e1, _ => simp at e1; omega
  | _ :: _ :: _ :: _ :: _, _, e1, _ => simp at e1; omega
  | [_], [], e1, e2 => simp at e1 e2; omega
  | [_], _ :: _ :: _, e1, e2 => simp at e1 e2; omega
  | [_, _], [], e1, e2 => simp at e1 e2; omega
  | [_, _], [_], e1, e2 => simp at e1 e2; omega
  | [_, _], _ :: _ :: _ :: _, e1, e2 => simp at e1 e2; omega
  | [_, _, _], [], e1, e2 => simp at e1 e2; omega
  | [_, _, _], [_], e1, e2 => simp at e1 e2; omega
  | [_, _, _], [_, _], e1, e2 => simp at e1 e2; omega
  | [_, _, _], _ :: _ :: _ :: _ :: _, e1, e2 => simp at e1 e2; omega
/-- a column's cost by the task's costs -/
theorem cost_col (p : Inp c A b) (col : Nat) : ((cell (costs2 c A.length) col : Int) : Rat) = ccR c 0 * ee col 0 + ccR c 1 * ee col 1 + ccR c 2 * ee col 2 := by
  have hn := p.n
  rw [w2_eq]
  have out : ∀ j, ¬ j < c.length → ccR c j = 0 := fun j hj => by unfold ccR; rw [cell_out (by omega)]; rfl
  by_cases h : col < c.length
  · have h3 : col < 3 := by omega
    match col, h3 with
    | 0, _ => rw [ee_same, ee_ne (by decide : (0 : Nat) ≠ 1), ee_ne (by decide : (0 : Nat) ≠ 2)]; grind
    | 1, _ => rw [ee_same, ee_ne (by decide : (1 : Nat) ≠ 0), ee_ne (by decide : (1 : Nat) ≠ 2)]; grind
    | 2, _ => rw [ee_same, ee_ne (by decide : (2 : Nat) ≠ 0), ee_ne (by decide : (2 : Nat) ≠ 1)]; grind
  · rw [cell_out (by omega)]
    have z : ∀ j, ccR c j * ee col j = 0 := fun j => by
      by_cases h1 : j < c.length
      · rw [ee_ne (show col ≠ j by omega), Rat.mul_zero]
      · rw [out j h1, Rat.zero_mul]
    rw [z, z, z]
    show ((0 : Int) : Rat) = _
    decide +kernel
theorem cost_held (p : Inp c A b) (Z : Tab) (v : Nat → Rat) :
    ((cell (costs2 c A.length) (hx Z 0) : Int) : Rat) * v 0 + ((cell (costs2 c A.length) (hx Z 1) : Int) : Rat) * v 1 + ((cell (costs2 c A.length) (hx Z 2) : Int) : Rat) * v 2 = ccR c 0 * Vh (hx Z) v 0 + ccR c 1 * Vh (hx Z) v 1 + ccR c 2 * Vh (hx Z) v 2 := by
  rw [cost_col p, cost_col p, cost_col p]
  unfold Vh
  grind
theorem left_cast (w : Nat → Int) (Z : Tab) (j : Nat) : ((leftF w (Lx Z) (hx Z) Z.low j : Int) : Rat) = lw Z * ((w j : Int) : Rat) - (((w (hx Z 0) : Int) : Rat) * ((Lx Z 0 j : Int) : Rat) + ((w (hx Z 1) : Int) : Rat) * ((Lx Z 1 j : Int) : Rat) + ((w (hx Z 2) : Int) : Rat) * ((Lx Z 2 j : Int) : Rat)) := by
  unfold leftF
  simp only [Rat.intCast_sub, Rat.intCast_add, Rat.intCast_mul]
abbrev Pz (A : List (List Int)) (b c : List Int) (Z : Tab) (k : Nat) : Rat := PR A b (cell (costs2 c A.length)) Z k
theorem FinZ.F45 (p : Inp c A b) (f : FinZ A b c Z) : Pz A b c Z 0 * bR b 0 + Pz A b c Z 1 * bR b 1 + Pz A b c Z 2 * bR b 2 = ccR c 0 * Xv Z 0 + ccR c 1 * Xv Z 1 + ccR c 2 * Xv Z 2 := by
  have hn := p.n
  have e1 := left_r p f.a.st.t (cell (costs2 c A.length))
  have e2 := left_cast (cell (costs2 c A.length)) Z (c.length + A.length + A.length)
  have z : cell (costs2 c A.length) (c.length + A.length + A.length) = 0 := by rw [w2_eq, cell_out (by omega)]
  rw [z] at e2
  rw [z, Int.mul_zero] at e1
  rw [e1] at e2
  have e3 := cost_held p Z (fun k => ((Lx Z k (Z.wide + Z.high) : Int) : Rat))
  unfold Xv
  rw [← e3, f.R]
  simp only [Rat.intCast_sub, Rat.intCast_add, Rat.intCast_mul] at e2
  have z0 : ((0 : Int) : Rat) = 0 := rfl
  rw [z0] at e2
  unfold Pz PR
  grind
end
end WM

set_option Elab.async false
set_option linter.all false
set_option maxHeartbeats 1000000
/-! Papers, rays, corners. -/
namespace WM
section
variable {c : List Int} {A : List (List Int)} {b : List Int} {Z : Tab}
theorem w2_s (p : Inp c A b) (k : Nat) : cell (costs2 c A.length) (c.length + k) = 0 := by rw [w2_eq, cell_out (by omega)]
theorem w2_a (p : Inp c A b) (k : Nat) : cell (costs2 c A.length) (c.length + A.length + k) = 0 := by rw [w2_eq, cell_out (by omega)]
theorem FinZ.F6 (p : Inp c A b) (f : FinZ A b c Z) {k : Nat} (hk : k < A.length) : cell (paperT 0 Z) k = Pw A b (cell (costs2 c A.length)) Z k := by
  have hn := p.n
  have hm := p.m
  have hg := f.a.hg
  have hw := f.a.wd
  have e0 : cell (paperT 0 Z) k = payT 0 Z k := by
    unfold paperT cell
    rw [List.getD_eq_getElem?_getD, List.getElem?_map, List.getElem?_range (by omega)]
    rfl
  rw [e0]
  have e1 := left_a p f.a.st.t (cell (costs2 c A.length)) hk
  rw [w2_a p k, Int.mul_zero] at e1
  have e2 := f.a.st.l.eq (Z.wide + k) (by omega)
  rw [hw, e1] at e2
  have tn : Z.turned.getD k false = decide (cell b k < 0) := by
    rw [f.tn]
    show (b.map fun r => decide (r < 0)).getD k false = _
    unfold cell
    rw [List.getD_eq_getElem?_getD, List.getElem?_map, m_getD_at (z := 0) (by rw [p.bl]; exact hk : k < b.length)]
    rfl
  unfold payT Pw sg sgT
  rw [tn, hw, e2]
  by_cases h : cell b k < 0
  · rw [if_pos (decide_eq_true h), if_pos h]; omega
  · rw [if_neg (by rw [decide_eq_false h]; decide), if_neg h]; omega
def NoY (c : List Int) (A : List (List Int)) : Prop := ¬ ∃ y : Nat → Rat, (∀ i, i < A.length → 0 ≤ y i) ∧ ∀ j, j < c.length → y 0 * acR A 0 j + y 1 * acR A 1 j + y 2 * acR A 2 j ≤ ccR c j
theorem cc_out (c : List Int) {j : Nat} (h : ¬ j < c.length) : ccR c j = 0 := by
  unfold ccR
  rw [cell_out (by omega)]
  rfl
theorem FinZ.F7 (p : Inp c A b) (f : FinZ A b c Z) {col : Nat} (hc : col < c.length + A.length) (hl : cell Z.left col < 0) (hd : ∀ i, i < Z.high → cell (Z.line i) col ≤ 0) : NoY c A := by
  rintro ⟨y, y1, y2⟩
  have hn := p.n
  have hm := p.m
  have hg := f.a.hg
  have lp := f.lp
  have vn : ∀ k, k < 3 → 0 ≤ -((Lx Z k col : Int) : Rat) := fun k hk => by
    have : Lx Z k col ≤ 0 := by
      by_cases h : k < Z.high
      · rw [Lx_real h (by omega)]; exact hd k h
      · rw [Lx_pad h, if_neg (by omega)]; exact Int.le_refl 0
    have h2 : ((Lx Z k col : Int) : Rat) ≤ ((0 : Int) : Rat) := by exact_mod_cast this
    have h0 : ((0 : Int) : Rat) = 0 := rfl
    rw [h0] at h2
    grind
  have Vn := Vh_nn (h := hx Z) (v := fun k => -((Lx Z k col : Int) : Rat)) vn
  -- the way
  have Dn : ∀ x, 0 ≤ lw Z * ee col x + Vh (hx Z) (fun k => -((Lx Z k col : Int) : Rat)) x := fun x => by
    have a1 := Rat.mul_nonneg (show 0 ≤ lw Z by grind) (ee_nn col x)
    have a2 := Vn x
    grind
  have rowI : ∀ i, i < A.length → 0 ≤ acR A i 0 * (lw Z * ee col 0 + Vh (hx Z) (fun k => -((Lx Z k col : Int) : Rat)) 0) + acR A i 1 * (lw Z * ee col 1 + Vh (hx Z) (fun k => -((Lx Z k col : Int) : Rat)) 1) + acR A i 2 * (lw Z * ee col 2 + Vh (hx Z) (fun k => -((Lx Z k col : Int) : Rat)) 2) := fun i hi => by
    have b1 := back_R f.a.st.t i col (by omega)
    have k1 := K_id p f.a.st.t f.a.wd hg (fun k => -((Lx Z k col : Int) : Rat)) hi
    have n1 := f.no_art p (fun k => -((Lx Z k col : Int) : Rat)) hi
    have t1 := t_col p hi (.inl (by omega : col < c.length + A.length + A.length))
    rw [ee_ne (show col ≠ c.length + A.length + i by omega)] at t1
    rw [n1] at k1
    have s2 := sgR_sq b i
    have d1 := Dn (c.length + i)
    have key : acR A i 0 * (lw Z * ee col 0 + Vh (hx Z) (fun k => -((Lx Z k col : Int) : Rat)) 0) + acR A i 1 * (lw Z * ee col 1 + Vh (hx Z) (fun k => -((Lx Z k col : Int) : Rat)) 1) + acR A i 2 * (lw Z * ee col 2 + Vh (hx Z) (fun k => -((Lx Z k col : Int) : Rat)) 2) = lw Z * ee col (c.length + i) + Vh (hx Z) (fun k => -((Lx Z k col : Int) : Rat)) (c.length + i) := by
      generalize Vh (hx Z) (fun k => -((Lx Z k col : Int) : Rat)) 0 = V0 at *
      generalize Vh (hx Z) (fun k => -((Lx Z k col : Int) : Rat)) 1 = V1 at *
      generalize Vh (hx Z) (fun k => -((Lx Z k col : Int) : Rat)) 2 = V2 at *
      generalize Vh (hx Z) (fun k => -((Lx Z k col : Int) : Rat)) (c.length + i) = Vs at *
      grind
    rw [key]
    exact d1
  have w := weakG p (be := fun _ => 0) (d := ccR c) y1 y2 (x := fun x => lw Z * ee col x + Vh (hx Z) (fun k => -((Lx Z k col : Int) : Rat)) x) (fun j _ => Dn j) rowI (fun j hj => cc_out c hj) (fun _ _ => rfl)
  -- its cost
  have l1 := left_cast (cell (costs2 c A.length)) Z col
  rw [← f.a.st.l.eq col (by omega), cost_col p col] at l1
  have l2 := cost_held p Z (fun k => -((Lx Z k col : Int) : Rat))
  have neg : ((cell Z.left col : Int) : Rat) < 0 := by exact_mod_cast hl
  generalize Vh (hx Z) (fun k => -((Lx Z k col : Int) : Rat)) 0 = V0 at *
  generalize Vh (hx Z) (fun k => -((Lx Z k col : Int) : Rat)) 1 = V1 at *
  generalize Vh (hx Z) (fun k => -((Lx Z k col : Int) : Rat)) 2 = V2 at *
  clear rowI Dn Vn vn
  have e : ccR c 0 * (lw Z * ee col 0 + V0) + ccR c 1 * (lw Z * ee col 1 + V1) + ccR c 2 * (lw Z * ee col 2 + V2) = ((cell Z.left col : Int) : Rat) := by
    rw [l1]
    grind
  have w : y 0 * 0 + y 1 * 0 + y 2 * 0 ≤ ccR c 0 * (lw Z * ee col 0 + V0) + ccR c 1 * (lw Z * ee col 1 + V1) + ccR c 2 * (lw Z * ee col 2 + V2) := w
  rw [e] at w
  grind
/-- the columns held -/
def HeldC (Z : Tab) (col : Nat) : Prop := ∃ k, k < Z.high ∧ Z.hold k = col
theorem FinZ.X_out (p : Inp c A b) (f : FinZ A b c Z) {col : Nat} (hc : col < c.length + A.length) (h : ¬ HeldC Z col) (v : Nat → Rat) : Vh (hx Z) v col = 0 := by
  refine Vh_out fun k hk e => ?_
  by_cases hr : k < A.length
  · exact h ⟨k, by rw [f.a.hg]; exact hr, by rw [← (f.hold hr).1]; exact e⟩
  · rw [f.pad hr] at e
    have := p.n
    have := p.m
    omega
theorem FinZ.F8 (p : Inp c A b) (f : FinZ A b c Z) {z : Nat → Rat} (h1 : ∀ j, j < c.length → ¬ HeldC Z j → z j = 0) (h2 : ∀ i, i < A.length → ¬ HeldC Z (c.length + i) → acR A i 0 * z 0 + acR A i 1 * z 1 + acR A i 2 * z 2 = 0) : ∀ j, j < c.length → z j = 0 := by
  have hn := p.n
  have hm := p.m
  let Zc : Nat → Rat := fun col => if col < c.length then z col else if col < c.length + A.length then acR A (col - c.length) 0 * z 0 + acR A (col - c.length) 1 * z 1 + acR A (col - c.length) 2 * z 2 else 0
  have zx : ∀ j, j < c.length → Zc j = z j := fun j hj => if_pos hj
  have zs : ∀ i, i < A.length → Zc (c.length + i) = acR A i 0 * z 0 + acR A i 1 * z 1 + acR A i 2 * z 2 := fun i hi => by
    show (if c.length + i < c.length then _ else if c.length + i < c.length + A.length then _ else _) = _
    rw [if_neg (by omega), if_pos (by omega), Nat.add_sub_cancel_left]
  have V : ∀ col, col < c.length + A.length → Vh (hx Z) (fun k => Zc (hx Z k)) col = Zc col := fun col hc => by
    by_cases hh : HeldC Z col
    · obtain ⟨k, k1, k2⟩ := hh
      have hkm : k < A.length := by rw [← f.a.hg]; exact k1
      have e : hx Z k = col := by rw [(f.hold hkm).1, k2]
      have := Vh_at f.a.st.t.g (fun k => Zc (hx Z k)) (k := k) (by omega)
      rw [e] at this
      rw [this]
    · rw [f.X_out p hc hh]
      by_cases hx : col < c.length
      · rw [zx col hx, h1 col hx hh]
      · have e : col = c.length + (col - c.length) := by omega
        rw [e] at hh ⊢
        rw [zs _ (by omega), h2 _ (by omega) hh]
  have acV : ∀ i j, acR A i j * Vh (hx Z) (fun k => Zc (hx Z k)) j = acR A i j * z j := fun i j => by
    by_cases hj : j < c.length
    · rw [V j (by omega), zx j hj]
    · have : acR A i j = 0 := by unfold acR; rw [p.ac_out (fun z => hj z.2)]; rfl
      rw [this, Rat.zero_mul, Rat.zero_mul]
  have ker := ker_held f.a.st.t (fun k => Zc (hx Z k)) fun i hi => by
    by_cases him : i < A.length
    · refine (K_id p f.a.st.t f.a.wd f.a.hg (fun k => Zc (hx Z k)) him).trans ?_
      rw [f.no_art p _ him, acV, acV, acV, V _ (by omega), zs i him]
      grind
    · have pz : ∀ k, k < 3 → ((T0 A b i (hx Z k) : Int) : Rat) * Zc (hx Z k) = 0 := fun k hk => by
        by_cases hkm : k < A.length
        · have e : T0 A b i (hx Z k) = 0 := by
            have := (f.hold hkm).2
            exact (Lx_pad (by rw [p.high]; exact him)).trans (if_neg (by omega))
          rw [e]
          exact Rat.zero_mul _
        · have e : Zc (hx Z k) = 0 := by
            rw [f.pad hkm]
            show (if 100 + k < c.length then _ else if 100 + k < c.length + A.length then _ else _) = _
            rw [if_neg (by omega), if_neg (by omega)]
          rw [e]
          exact Rat.mul_zero _
      have q0 := pz 0 (by decide)
      have q1 := pz 1 (by decide)
      have q2 := pz 2 (by decide)
      show ((T0 A b i (hx Z 0) : Int) : Rat) * Zc (hx Z 0) + ((T0 A b i (hx Z 1) : Int) : Rat) * Zc (hx Z 1) + ((T0 A b i (hx Z 2) : Int) : Rat) * Zc (hx Z 2) = 0
      rw [q0, q1, q2]
      decide +kernel
  intro j hj
  by_cases hh : HeldC Z j
  · obtain ⟨k, k1, k2⟩ := hh
    have hkm : k < A.length := by rw [← f.a.hg]; exact k1
    have e : hx Z k = j := by rw [(f.hold hkm).1, k2]
    have h3 : k < 3 := by omega
    have kz : Zc (hx Z k) = 0 := by
      match k, h3 with
      | 0, _ => exact ker.1
      | 1, _ => exact ker.2.1
      | 2, _ => exact ker.2.2
    rw [e, zx j hj] at kz
    exact kz
  · exact h1 j hj hh
/-- the dual's tight ones -/
theorem FinZ.F9a (p : Inp c A b) (f : FinZ A b c Z) : (∀ j, j < c.length → HeldC Z j → Pz A b c Z 0 * acR A 0 j + Pz A b c Z 1 * acR A 1 j + Pz A b c Z 2 * acR A 2 j = lw Z * ccR c j) ∧ ∀ k, k < A.length → HeldC Z (c.length + k) → Pz A b c Z k = 0 := by
  have hn := p.n
  have hm := p.m
  have zero : ∀ col, HeldC Z col → leftF (cell (costs2 c A.length)) (Lx Z) (hx Z) Z.low col = 0 := fun col ⟨k, k1, k2⟩ => by
    have hkm : k < A.length := by rw [← f.a.hg]; exact k1
    have e : hx Z k = col := by rw [(f.hold hkm).1, k2]
    rw [← e]
    exact left_held f.a.st.t _ (by omega)
  constructor
  · intro j hj hh
    have e := left_x p f.a.st.t (cell (costs2 c A.length)) hj
    rw [zero j hh, w2_eq] at e
    have e2 : ((0 : Int) : Rat) = ((Z.low * cell c j - (Pw A b (cell (costs2 c A.length)) Z 0 * ac A 0 j + Pw A b (cell (costs2 c A.length)) Z 1 * ac A 1 j + Pw A b (cell (costs2 c A.length)) Z 2 * ac A 2 j) : Int) : Rat) := congrArg _ e
    simp only [Rat.intCast_sub, Rat.intCast_add, Rat.intCast_mul] at e2
    have z0 : ((0 : Int) : Rat) = 0 := rfl
    rw [z0] at e2
    unfold Pz PR
    grind
  · intro k hk hh
    have e := left_s p f.a.st.t (cell (costs2 c A.length)) hk
    rw [zero _ hh, w2_s p k, Int.mul_zero, Int.zero_add] at e
    unfold Pz PR
    rw [← e]
    rfl
theorem FinZ.F9b (p : Inp c A b) (f : FinZ A b c Z) {y : Nat → Rat} (h1 : ∀ j, j < c.length → HeldC Z j → y 0 * acR A 0 j + y 1 * acR A 1 j + y 2 * acR A 2 j = 0) (h2 : ∀ k, k < A.length → HeldC Z (c.length + k) → y k = 0) : ∀ k, k < A.length → y k = 0 := by
  have hn := p.n
  have hm := p.m
  let v : Nat → Rat := fun i => if i < A.length then sgR b i * y i else 0
  have vr : ∀ i, i < A.length → v i = sgR b i * y i := fun i hi => if_pos hi
  have vp : ∀ i, ¬ i < A.length → v i = 0 := fun i hi => if_neg hi
  have ker := ker_rows f.a.st.t v fun k hk => by
    by_cases hkm : k < A.length
    · obtain ⟨e1, e2⟩ := f.hold hkm
      have hh : HeldC Z (hx Z k) := ⟨k, by rw [f.a.hg]; exact hkm, e1.symm⟩
      by_cases hx' : hx Z k < c.length
      · have tm : ∀ i, ((T0 A b i (hx Z k) : Int) : Rat) * v i = y i * acR A i (hx Z k) := fun i => by
          rw [p.t_x i hx', Rat.intCast_mul]
          by_cases hi : i < A.length
          · rw [vr i hi]
            have := sgR_sq b i
            unfold sgR at this ⊢
            unfold acR
            grind
          · have : acR A i (hx Z k) = 0 := by unfold acR; rw [p.ac_out (fun z => hi z.1)]; rfl
            rw [vp i hi, this, Rat.mul_zero, Rat.mul_zero]
        rw [tm, tm, tm]
        exact h1 _ hx' hh
      · obtain ⟨l, hl, el⟩ : ∃ l, l < A.length ∧ hx Z k = c.length + l := ⟨hx Z k - c.length, by omega, by omega⟩
        rw [el] at hh ⊢
        have yz := h2 l hl hh
        have tm : ∀ i, ((T0 A b i (c.length + l) : Int) : Rat) * v i = 0 := fun i => by
          rw [p.t_s i hl]
          by_cases e : l = i
          · subst e
            rw [vr l hl, yz, Rat.mul_zero, Rat.mul_zero]
          · rw [if_neg e]
            exact Rat.zero_mul _
        rw [tm, tm, tm]
        decide +kernel
    · rw [f.pad hkm]
      have tm : ∀ i, ((T0 A b i (100 + k) : Int) : Rat) * v i = 0 := fun i => by
        rw [p.t_p i hkm]
        by_cases e : k = i
        · subst e
          rw [vp k hkm, Rat.mul_zero]
        · rw [if_neg e]
          exact Rat.zero_mul _
      rw [tm, tm, tm]
      decide +kernel
  intro k hk
  have h3 : k < 3 := by omega
  have kz : v k = 0 := by
    match k, h3 with
    | 0, _ => exact ker.1
    | 1, _ => exact ker.2.1
    | 2, _ => exact ker.2.2
  rw [vr k hk] at kz
  rcases Rat.mul_eq_zero.mp kz with z | z
  · have := sgR_sq b k
    rw [z] at this
    exact absurd this (by decide +kernel)
  · exact z
end
end WM

set_option Elab.async false
set_option linter.all false
set_option maxHeartbeats 1000000
/-! The law's equations: where the kernel is 0 and a solution is known, that is what is told. -/
namespace WM
def ce (n : Nat) (r : List Rat) (j : Nat) : Rat := if j < n then r.getD j 0 else 0
def vl (n : Nat) (r : List Rat) (z : Nat → Rat) (u : Rat) : Rat := ce n r 0 * z 0 + ce n r 1 * z 1 + ce n r 2 * z 2 - r.getD n 0 * u
theorem ce_op {n j : Nat} {m : Rat} {lead r : List Rat} (h1 : lead.length = n + 1) (h2 : r.length = n + 1) : ce n (rowOp m lead r) j = ce n r j + m * ce n lead j := by
  unfold ce
  by_cases h : j < n
  · rw [if_pos h, if_pos h, if_pos h, getD_op (by omega) (by omega)]
  · rw [if_neg h, if_neg h, if_neg h]
    grind
theorem vl_op {n : Nat} {m : Rat} {lead r : List Rat} (h1 : lead.length = n + 1) (h2 : r.length = n + 1) (z : Nat → Rat) (u : Rat) : vl n (rowOp m lead r) z u = vl n r z u + m * vl n lead z u := by
  unfold vl
  rw [ce_op h1 h2, ce_op h1 h2, ce_op h1 h2, getD_op (by omega) (by omega)]
  grind
theorem ce_map {n j : Nat} {c : Rat} {r : List Rat} (h2 : r.length = n + 1) : ce n (r.map fun x => x * c) j = ce n r j * c := by
  unfold ce
  by_cases h : j < n
  · rw [if_pos h, if_pos h, getD_map (by omega)]
  · rw [if_neg h, if_neg h]
    grind
theorem vl_map {n : Nat} {c : Rat} {r : List Rat} (h2 : r.length = n + 1) (z : Nat → Rat) (u : Rat) : vl n (r.map fun x => x * c) z u = vl n r z u * c := by
  unfold vl
  rw [ce_map h2, ce_map h2, ce_map h2, getD_map (by omega)]
  grind
structure Ga (n k : Nat) (F : RF) : Prop where
  len : ∀ s, s < n → (F s).length = n + 1
  un : ∀ s j, s < n → j < k → (F s).getD j 0 = if s = j then 1 else 0
def Sol (n : Nat) (F : RF) (z : Nat → Rat) (u : Rat) : Prop := ∀ s, s < n → vl n (F s) z u = 0
theorem swap_at (F : RF) (s0 k : Nat) : swapF F s0 k k = leadF F s0 k := by unfold swapF; rw [if_pos rfl]
theorem swap_ne {F : RF} {s0 k s : Nat} (h : s ≠ k) : swapF F s0 k s = if s = s0 then F k else F s := by unfold swapF; rw [if_neg h]
theorem Ga.step {n k : Nat} {F F' : RF} (g : Ga n k F) (hk : k < n) (hs : gstep n k F = some F') : Ga n (k + 1) F' ∧ ∀ z u, Sol n F z u ↔ Sol n F' z u := by
  unfold gstep at hs
  cases e : nzs n k F with
  | nil => rw [e] at hs; cases hs
  | cons s0 r =>
    rw [e] at hs
    cases hs
    obtain ⟨h1, h2, h3⟩ := nzs_mem (F := F) (show s0 ∈ nzs n k F by rw [e]; simp)
    have hi : (F s0).getD k 0 * ((F s0).getD k 0)⁻¹ = 1 := Rat.mul_inv_cancel _ h3
    have l0 := g.len s0 h2
    have leadlen : (leadF F s0 k).length = n + 1 := by unfold leadF; rw [List.length_map]; exact l0
    have leadget : ∀ j, j < n + 1 → (leadF F s0 k).getD j 0 = (F s0).getD j 0 * ((F s0).getD k 0)⁻¹ := fun j hj => by
      unfold leadF
      rw [getD_map (by omega)]
    have leadk : (leadF F s0 k).getD k 0 = 1 := by rw [leadget k (by omega), hi]
    have leadj : ∀ j, j < k → (leadF F s0 k).getD j 0 = 0 := fun j hj => by
      rw [leadget j (by omega), g.un s0 j h2 hj, if_neg (by omega), Rat.zero_mul]
    have leadv : ∀ z u, vl n (leadF F s0 k) z u = vl n (F s0) z u * ((F s0).getD k 0)⁻¹ := fun z u => by
      unfold leadF
      exact vl_map l0 z u
    have swl : ∀ s, s < n → (swapF F s0 k s).length = n + 1 := fun s hs => by
      by_cases e : s = k
      · subst e; rw [swap_at]; exact leadlen
      · rw [swap_ne e]
        split
        · exact g.len k hk
        · exact g.len s hs
    have atk : elimF (leadF F s0 k) k (swapF F s0 k) n k = leadF F s0 k := by rw [elim_n hk, if_pos rfl, swap_at]
    have atn : ∀ s, s < n → s ≠ k → elimF (leadF F s0 k) k (swapF F s0 k) n s = rowOp (-((swapF F s0 k s).getD k 0)) (leadF F s0 k) (swapF F s0 k s) := fun s hs h => by rw [elim_n hs, if_neg h]
    refine ⟨⟨fun s hs => ?_, fun s j hs hj => ?_⟩, fun z u => ⟨fun h s hs => ?_, fun h => ?_⟩⟩
    · by_cases e : s = k
      · subst e; rw [atk]; exact leadlen
      · rw [atn s hs e, op_len, swl s hs, leadlen]
        exact Nat.min_self _
    · by_cases e : s = k
      · subst e
        rw [atk]
        by_cases e2 : j = s
        · subst e2; rw [leadk, if_pos rfl]
        · rw [leadj j (by omega), if_neg (fun z => e2 z.symm)]
      · rw [atn s hs e, getD_op (by omega) (by rw [swl s hs]; omega)]
        by_cases e2 : j = k
        · subst e2
          rw [leadk, if_neg e]
          grind
        · rw [leadj j (by omega), swap_ne e]
          by_cases e3 : s = s0
          · rw [if_pos e3, g.un k j hk (by omega), if_neg (by omega), if_neg (by omega)]
            grind
          · rw [if_neg e3, g.un s j hs (by omega)]
            grind
    · have lz : vl n (leadF F s0 k) z u = 0 := by rw [leadv, h s0 h2, Rat.zero_mul]
      by_cases e : s = k
      · subst e; rw [atk]; exact lz
      · rw [atn s hs e, vl_op leadlen (swl s hs), lz, Rat.mul_zero, swap_ne e]
        by_cases e3 : s = s0
        · rw [if_pos e3, h k hk]
          grind
        · rw [if_neg e3, h s hs]
          grind
    · have lz : vl n (leadF F s0 k) z u = 0 := by
        have := h k hk
        rw [atk] at this
        exact this
      have z0 : vl n (F s0) z u = 0 := by
        have e1 := leadv z u
        rw [lz] at e1
        rcases Rat.mul_eq_zero.mp e1.symm with q | q
        · exact q
        · rw [q, Rat.mul_zero] at hi
          exact absurd hi (by decide +kernel)
      have sw : ∀ s, s < n → s ≠ k → vl n (swapF F s0 k s) z u = 0 := fun s hs e => by
        have := h s hs
        rw [atn s hs e, vl_op leadlen (swl s hs), lz, Rat.mul_zero, Rat.add_zero] at this
        exact this
      intro s hs
      by_cases e3 : s = s0
      · rw [e3]; exact z0
      · by_cases e : s = k
        · have := sw s0 h2 (fun q => e3 (e.trans q.symm))
          rw [swap_ne (fun q => e3 (e.trans q.symm)), if_pos rfl] at this
          rw [e]; exact this
        · have := sw s hs e
          rw [swap_ne e, if_neg e3] at this
          exact this
def Ker (n : Nat) (F : RF) : Prop := ∀ z, Sol n F z 0 → ∀ j, j < n → z j = 0
theorem Ga.some {n k : Nat} {F : RF} (g : Ga n k F) (hn : n ≤ 3) (hk : k < n) (ker : Ker n F) : ∃ F', gstep n k F = some F' := by
  unfold gstep
  cases e : nzs n k F with
  | cons s0 r => exact ⟨_, rfl⟩
  | nil =>
    exfalso
    have zz : ∀ s, k ≤ s → s < n → (F s).getD k 0 = 0 := fun s h1 h2 => by
      apply Classical.byContradiction
      intro hne
      have : s ∈ nzs n k F := by
        unfold nzs
        refine List.mem_filter.mpr ⟨List.mem_map.mpr ⟨s - k, List.mem_range.mpr (by omega), by omega⟩, decide_eq_true hne⟩
      rw [e] at this
      cases this
    have h3 : k < 3 := by omega
    have ck : ∀ s j, j < n → ce n (F s) j = (F s).getD j 0 := fun s j hj => if_pos hj
    have key := ker (fun j => if j < k then -((F j).getD k 0) else if j = k then 1 else 0) (fun s hs => ?_) k hk
    · rw [if_neg (Nat.lt_irrefl k), if_pos rfl] at key
      exact absurd key (by decide +kernel)
    · unfold vl
      match k, h3 with
      | 0, _ =>
        rw [ck s 0 hk, zz s (Nat.zero_le _) hs]
        simp
        grind
      | 1, _ =>
        rw [ck s 1 hk, ck s 0 (by omega), g.un s 0 hs (by decide)]
        by_cases h0 : s = 0
        · subst h0
          simp
          grind
        · rw [zz s (by omega) hs, if_neg h0]
          simp
          grind
      | 2, _ =>
        rw [ck s 2 hk, ck s 0 (by omega), ck s 1 (by omega), g.un s 0 hs (by decide), g.un s 1 hs (by decide)]
        by_cases h0 : s = 0
        · subst h0
          simp
          grind
        · by_cases h1 : s = 1
          · subst h1
            simp
            grind
          · rw [zz s (by omega) hs, if_neg h0, if_neg h1]
            simp
            grind
theorem ga_all {n : Nat} {F : RF} (hn : n ≤ 3) (len : ∀ s, s < n → (F s).length = n + 1) (ker : Ker n F) : ∀ k, k ≤ n → ∃ F', gauss n k F = some F' ∧ Ga n k F' ∧ ∀ z u, Sol n F z u ↔ Sol n F' z u
  | 0, _ => ⟨F, rfl, ⟨len, fun _ _ _ h => absurd h (Nat.not_lt_zero _)⟩, fun _ _ => Iff.rfl⟩
  | k + 1, hk => by
    obtain ⟨F1, e1, g1, s1⟩ := ga_all hn len ker k (by omega)
    obtain ⟨F2, e2⟩ := g1.some hn (by omega) (fun z hz => ker z ((s1 z 0).mpr hz))
    obtain ⟨g2, s2⟩ := g1.step (by omega) e2
    refine ⟨F2, ?_, g2, fun z u => (s1 z u).trans (s2 z u)⟩
    show (gauss n k F).bind (gstep n k) = _
    rw [e1]
    exact e2
/-- a row of ints at a vector -/
def sh3 (r : List Int) (z : Nat → Rat) : Rat := ((cell r 0 : Int) : Rat) * z 0 + ((cell r 1 : Int) : Rat) * z 1 + ((cell r 2 : Int) : Rat) * z 2
theorem start_len {rows : List (List Int)} {rights : List Int} {s n : Nat} (hl : (rows.getD s []).length = n) : (startF rows rights s).length = n + 1 := by
  unfold startF
  rw [List.length_map, List.length_append, hl]
  rfl
theorem start_vl {rows : List (List Int)} {rights : List Int} {s n : Nat} (hl : (rows.getD s []).length = n) (z : Nat → Rat) (u : Rat) : vl n (startF rows rights s) z u = sh3 (rows.getD s []) z - ((cell rights s : Int) : Rat) * u := by
  have c : ∀ j, ce n (startF rows rights s) j = ((cell (rows.getD s []) j : Int) : Rat) := fun j => by
    unfold ce
    by_cases h : j < n
    · rw [if_pos h]
      unfold startF
      rw [getD_ints (by rw [List.length_append]; omega), getD_apL (by omega)]
    · rw [if_neg h, cell_out (by omega)]
      rfl
  have r : (startF rows rights s).getD n 0 = ((cell rights s : Int) : Rat) := by
    unfold startF
    rw [getD_ints (by rw [List.length_append, hl]; exact Nat.lt_succ_self _), getD_apR (by omega), hl, Nat.sub_self]
    rfl
  unfold vl sh3
  rw [c, c, c, r]
theorem solved_eq {n : Nat} {rows : List (List Int)} {rights : List Int} (hn : n ≤ 3) (len : rows.length = n) (rl : ∀ s, s < n → (rows.getD s []).length = n)
    (ker : ∀ z : Nat → Rat, (∀ s, s < n → sh3 (rows.getD s []) z = 0) → ∀ j, j < n → z j = 0) {x : Nat → Rat} (hx : ∀ s, s < n → sh3 (rows.getD s []) x = ((cell rights s : Int) : Rat)) :
    solvedR rows rights = some ((List.range n).map x) := by
  obtain ⟨F, e, g, so⟩ := ga_all (F := startF rows rights) hn (fun s hs => start_len (rl s hs)) (fun z hz => ker z fun s hs => by
    have := hz s hs
    rw [start_vl (rl s hs), Rat.mul_zero] at this
    grind) n (Nat.le_refl n)
  unfold solvedR
  rw [len, e]
  show some _ = some _
  congr 1
  have sx := (so x 1).mp fun s hs => by
    rw [start_vl (rl s hs), hx s hs]
    grind
  refine List.map_congr_left fun s hs => ?_
  have hs := List.mem_range.mp hs
  have h := sx s hs
  have c : ∀ j, ce n (F s) j = if s = j then 1 else 0 := fun j => by
    unfold ce
    by_cases hj : j < n
    · rw [if_pos hj, g.un s j hs hj]
    · rw [if_neg hj, if_neg (by omega)]
  unfold vl at h
  rw [c, c, c] at h
  have h3 : s < 3 := by omega
  match s, h3 with
  | 0, _ => simp at h; grind
  | 1, _ => simp at h; grind
  | 2, _ => simp at h; grind
end WM

set_option Elab.async false
set_option linter.all false
set_option maxHeartbeats 1000000
/-! Lots and corners. -/
namespace WM
theorem lots_mem {many : Int} : ∀ (n : Nat) (l : List Int), l.length = n → l.Pairwise (· < ·) → (∀ z ∈ l, 0 ≤ z ∧ z < many) → l ∈ lotsM many n
  | 0, l, h, _, _ => by
    rw [List.length_eq_zero_iff.mp h]
    exact List.mem_singleton.mpr rfl
  | n + 1, l, h, hp, hr => by
    have hne : l ≠ [] := fun z => by rw [z] at h; cases h
    have e := (List.dropLast_concat_getLast hne).symm
    generalize l.dropLast = l0 at e
    generalize l.getLast hne = z at e
    subst e
    rw [List.length_append] at h
    have h : l0.length + 1 = n + 1 := h
    obtain ⟨p1, _, p3⟩ := List.pairwise_append.mp hp
    refine List.mem_flatMap.mpr ⟨l0, lots_mem n l0 (by omega) p1 fun x hx => hr x (by simp [hx]), ?_⟩
    have hz := hr z (by simp)
    have hs : startZ l0 ≤ z := by
      unfold startZ
      by_cases h0 : l0 = []
      · rw [if_pos h0]; exact hz.1
      · rw [if_neg h0, List.getLast?_eq_some_getLast h0]
        have := p3 _ (List.getLast_mem h0) z (by simp)
        show l0.getLast h0 + 1 ≤ z
        omega
    unfold extsZ
    refine List.mem_map.mpr ⟨(z - startZ l0).toNat, List.mem_range.mpr (by omega), ?_⟩
    congr 2
    omega
/-! ### one corner -/
theorem den_dvd {ends : List Rat} : ∀ (lot : List Int) (acc : Int), acc ∣ lot.foldl (fun acc k => acc * ((ends.getD k.toNat 0).den : Int)) acc ∧ ∀ k ∈ lot, ((ends.getD k.toNat 0).den : Int) ∣ lot.foldl (fun acc k => acc * ((ends.getD k.toNat 0).den : Int)) acc
  | [], acc => ⟨Int.dvd_refl _, fun _ h => nomatch h⟩
  | k :: lot, acc => by
    obtain ⟨h1, h2⟩ := den_dvd lot (acc * ((ends.getD k.toNat 0).den : Int))
    refine ⟨Int.dvd_trans (Int.dvd_mul_right _ _) h1, fun x hx => ?_⟩
    rcases List.mem_cons.mp hx with e | hx
    · rw [e]; exact Int.dvd_trans (Int.dvd_mul_left _ _) h1
    · exact h2 x hx
theorem low_pos {ends : List Rat} : ∀ (lot : List Int) (acc : Int), 0 < acc → 0 < lot.foldl (fun acc k => acc * ((ends.getD k.toNat 0).den : Int)) acc
  | [], acc, h => h
  | k :: lot, acc, h => low_pos lot _ (Int.mul_pos h (den_pos _))
theorem lowZ_pos (ends : List Rat) (lot : List Int) : 0 < lowZ ends lot := low_pos lot 1 (by decide)
theorem whole_cast {ends : List Rat} {lot : List Int} {k : Int} (hk : k ∈ lot) : (((ends.getD k.toNat 0).num * (lowZ ends lot / ((ends.getD k.toNat 0).den : Int)) : Int) : Rat) = ends.getD k.toNat 0 * ((lowZ ends lot : Int) : Rat) := by
  have hd : ((ends.getD k.toNat 0).den : Int) ∣ lowZ ends lot := (den_dvd lot 1).2 k hk
  generalize ends.getD k.toNat 0 = q at *
  obtain ⟨t, ht⟩ := hd
  rw [ht, Int.mul_ediv_cancel_left t (den_ne q), Rat.intCast_mul, Rat.intCast_mul, ← q_den q]
  grind
theorem lot_cell {α : Type} {lot : List Int} {f : Int → α} {s : Nat} {k : Int} {d : α} (h : lot[s]? = some k) : (lot.map f).getD s d = f k := by
  rw [List.getD_eq_getElem?_getD, List.getElem?_map, h]
  rfl
theorem divInt_one {l : Int} (h : 0 < l) : Rat.divInt 1 l = ((l : Int) : Rat)⁻¹ := by
  rw [Rat.divInt_eq_div]
  have : ((1 : Int) : Rat) = 1 := rfl
  rw [this, Rat.div_def, Rat.one_mul]
theorem corner_eq {n : Nat} {sheet : List (List Int)} {ends : List Rat} {lot : List Int} (hn : n ≤ 3) (len : lot.length = n) (rl : ∀ k ∈ lot, (sheet.getD k.toNat []).length = n)
    (ker : ∀ z : Nat → Rat, (∀ k ∈ lot, sh3 (sheet.getD k.toNat []) z = 0) → ∀ j, j < n → z j = 0) {x : Nat → Rat} (hx : ∀ k ∈ lot, sh3 (sheet.getD k.toNat []) x = ends.getD k.toNat 0) :
    cornerR sheet ends lot = some ((List.range n).map x) := by
  have at_ : ∀ s, s < n → ∃ k, k ∈ lot ∧ lot[s]? = some k := fun s hs => ⟨_, List.getElem_mem (by omega), List.getElem?_eq_getElem (by omega)⟩
  have lp := lowZ_pos ends lot
  have key := solved_eq (n := n) (rows := lotRows sheet lot) (rights := wholeZ ends lot) (x := fun j => x j * ((lowZ ends lot : Int) : Rat)) hn (by unfold lotRows; rw [List.length_map]; exact len) (fun s hs => by
      obtain ⟨k, hk, e⟩ := at_ s hs
      unfold lotRows
      rw [lot_cell e]
      exact rl k hk) (fun z hz => ker z fun k hk => by
      obtain ⟨s, hs⟩ := List.mem_iff_getElem?.mp hk
      have hsn : s < n := by
        have := (List.getElem?_eq_some_iff.mp hs).1
        omega
      have := hz s hsn
      unfold lotRows at this
      rw [lot_cell hs] at this
      exact this) (fun s hs => by
      obtain ⟨k, hk, e⟩ := at_ s hs
      have h1 : (lotRows sheet lot).getD s [] = sheet.getD k.toNat [] := by unfold lotRows; rw [lot_cell e]
      have h2 : cell (wholeZ ends lot) s = (ends.getD k.toNat 0).num * (lowZ ends lot / ((ends.getD k.toNat 0).den : Int)) := by unfold wholeZ cell; rw [lot_cell e]
      rw [h1, h2, whole_cast hk, ← hx k hk]
      unfold sh3
      grind)
  unfold cornerR
  rw [key]
  show some _ = some _
  congr 1
  show List.map (fun q : Rat => q * Rat.divInt 1 (lowZ ends lot)) (List.map (fun j => x j * ((lowZ ends lot : Int) : Rat)) (List.range n)) = _
  rw [List.map_map]
  refine List.map_congr_left fun j _ => ?_
  show x j * ((lowZ ends lot : Int) : Rat) * Rat.divInt 1 (lowZ ends lot) = x j
  rw [divInt_one lp, Rat.mul_assoc, Rat.mul_inv_cancel, Rat.mul_one]
  intro z
  have : lowZ ends lot = 0 := by exact_mod_cast z
  omega
/-! ### the corners -/
theorem inner_sh {r : List Int} {qs : List Rat} (h : qs.length ≤ 3) : innerR r qs = sh3 r (fun j => qs.getD j 0) := by
  have z0 : ((0 : Int) : Rat) = 0 := rfl
  unfold innerR sh3 cell
  match r, qs, h with
  | _, [], _ => simp <;> grind
  | [], [_], _ => simp <;> grind
  | _ :: _, [_], _ => simp <;> grind
  | [], [_, _], _ => simp <;> grind
  | [_], [_, _], _ => simp <;> grind
  | _ :: _ :: _, [_, _], _ => simp <;> grind
  | [], [_, _, _], _ => simp <;> grind
  | [_], [_, _, _], _ => simp <;> grind
  | [_, _], [_, _, _], _ => simp <;> grind
  | _ :: _ :: _ :: _, [_, _, _], _ => simp <;> grind
  | _, _ :: _ :: _ :: _ :: _, h => simp at h <;> omega
theorem unitZ_cell {n k j : Nat} (hj : j < n) : cell (unitZ n k) j = if j = k then 1 else 0 := by
  unfold unitZ cell
  rw [List.getD_eq_getElem?_getD, List.getElem?_map, List.getElem?_range hj]
  rfl
theorem unit_sh {n k : Nat} (hn : n ≤ 3) (hk : k < n) (z : Nat → Rat) : sh3 (unitZ n k) z = z k := by
  have z0 : ((0 : Int) : Rat) = 0 := rfl
  have z1 : ((1 : Int) : Rat) = 1 := rfl
  have c : ∀ j, ((cell (unitZ n k) j : Int) : Rat) = if j = k then 1 else 0 := fun j => by
    by_cases h : j < n
    · rw [unitZ_cell h]
      split <;> rfl
    · rw [cell_out (by rw [unitZ_len]; omega), if_neg (by omega)]
      rfl
  unfold sh3
  rw [c, c, c]
  have h3 : k < 3 := by omega
  match k, h3 with
  | 0, _ => simp <;> grind
  | 1, _ => simp <;> grind
  | 2, _ => simp <;> grind
theorem sheet_row {rows : List (List Int)} {n k : Nat} (h : k < rows.length) : (sheetZ rows n).getD k [] = rows.getD k [] := by unfold sheetZ; exact getD_apL h
theorem sheet_unit {rows : List (List Int)} {n j : Nat} (h : j < n) : (sheetZ rows n).getD (rows.length + j) [] = unitZ n j := by
  unfold sheetZ
  rw [getD_apR (by omega), Nat.add_sub_cancel_left]
  unfold unitsZ
  rw [List.getD_eq_getElem?_getD, List.getElem?_map, List.getElem?_range h]
  rfl
theorem ends_row {rights : List Rat} {n k : Nat} (h : k < rights.length) : (endsR rights n).getD k 0 = rights.getD k 0 := by unfold endsR; exact getD_apL h
theorem ends_unit {rights : List Rat} {n j : Nat} : (endsR rights n).getD (rights.length + j) 0 = 0 := by
  unfold endsR
  rw [getD_apR (by omega), Nat.add_sub_cancel_left, List.getD_eq_getElem?_getD, List.getElem?_replicate]
  split <;> rfl
theorem ok_iff {rows : List (List Int)} {rights : List Rat} {n : Nat} {qs : List Rat} (hn : n ≤ 3) (hl : rights.length = rows.length) (hq : qs.length = n) :
    okC (sheetZ rows n) (endsR rights n) qs ↔ (∀ j, j < n → 0 ≤ qs.getD j 0) ∧ ∀ i, i < rows.length → rights.getD i 0 ≤ sh3 (rows.getD i []) (fun j => qs.getD j 0) := by
  unfold okC
  rw [sheetZ_len]
  have u : ∀ j, j < n → innerR (unitZ n j) qs = qs.getD j 0 := fun j hj => by rw [inner_sh (by omega), unit_sh hn hj]
  constructor
  · intro h
    refine ⟨fun j hj => ?_, fun i hi => ?_⟩
    · have := h (rows.length + j) (List.mem_range.mpr (by omega))
      rw [sheet_unit hj, u j hj, ← hl, ends_unit] at this
      exact this
    · have := h i (List.mem_range.mpr (by omega))
      rw [sheet_row hi, ends_row (by omega), inner_sh (by omega)] at this
      exact this
  · rintro ⟨h1, h2⟩ k hk
    have hk := List.mem_range.mp hk
    by_cases hi : k < rows.length
    · rw [sheet_row hi, ends_row (by omega), inner_sh (by omega)]
      exact h2 k hi
    · obtain ⟨j, hj, rfl⟩ : ∃ j, j < n ∧ k = rows.length + j := ⟨k - rows.length, by omega, by omega⟩
      rw [sheet_unit hj, u j hj, ← hl, ends_unit]
      exact h1 j hj
theorem step_sub {sheet : List (List Int)} {ends : List Rat} {found : List (List Rat)} {lot : List Int} {q : List Rat} (h : q ∈ found) : q ∈ cornStep sheet ends found lot := by
  unfold cornStep
  split
  · exact h
  · split
    · exact List.mem_append_left _ h
    · exact h
theorem fold_sub {sheet : List (List Int)} {ends : List Rat} {q : List Rat} : ∀ (lots : List (List Int)) (found : List (List Rat)), q ∈ found → q ∈ lots.foldl (cornStep sheet ends) found
  | [], _, h => h
  | _ :: lots, _, h => fold_sub lots _ (step_sub h)
theorem fold_mem {sheet : List (List Int)} {ends : List Rat} {q : List Rat} {lot : List Int} (hc : cornerR sheet ends lot = some q) (ok : okC sheet ends q) : ∀ (lots : List (List Int)) (found : List (List Rat)), lot ∈ lots → q ∈ lots.foldl (cornStep sheet ends) found
  | [], _, h => nomatch h
  | l :: lots, found, h => by
    rcases List.mem_cons.mp h with e | h
    · subst e
      refine fold_sub lots _ ?_
      unfold cornStep
      rw [hc]
      show q ∈ if okC sheet ends q ∧ q ∉ found then found ++ [q] else found
      by_cases hm : q ∈ found
      · rw [if_neg (fun z => z.2 hm)]; exact hm
      · rw [if_pos ⟨ok, hm⟩]; simp
    · exact fold_mem hc ok lots _ h
theorem fold_ok {sheet : List (List Int)} {ends : List Rat} : ∀ (lots : List (List Int)) (found : List (List Rat)), (∀ q ∈ found, okC sheet ends q) → ∀ q ∈ lots.foldl (cornStep sheet ends) found, okC sheet ends q
  | [], _, h => h
  | l :: lots, found, h => by
    refine fold_ok lots _ ?_
    unfold cornStep
    split
    · exact h
    · rename_i qs _
      split
      · rename_i hk
        intro q hq
        rcases List.mem_append.mp hq with hq | hq
        · exact h q hq
        · rw [List.mem_singleton.mp hq]; exact hk.1
      · exact h
theorem corners_ok {rows : List (List Int)} {rights : List Rat} {n : Nat} : ∀ q ∈ cornersR rows rights n, okC (sheetZ rows n) (endsR rights n) q := fold_ok _ [] fun _ h => nomatch h
theorem corners_mem {rows : List (List Int)} {rights : List Rat} {n : Nat} {lot : List Int} {q : List Rat} (h1 : lot.length = n) (h2 : lot.Pairwise (· < ·)) (h3 : ∀ z ∈ lot, 0 ≤ z ∧ z < ((rows.length + n : Nat) : Int)) (hc : cornerR (sheetZ rows n) (endsR rights n) lot = some q) (ok : okC (sheetZ rows n) (endsR rights n) q) : q ∈ cornersR rows rights n := by
  unfold cornersR
  refine fold_mem hc ok _ [] (lots_mem n lot h1 h2 ?_)
  rw [sheetZ_len]
  exact h3
/-- a corner, told by which of the sheet's rows are tight -/
theorem corner_in {rows : List (List Int)} {rights : List Rat} {n : Nat} (hn : n ≤ 3) (hl : rights.length = rows.length) (rl : ∀ i, i < rows.length → (rows.getD i []).length = n) {tt : Nat → Bool} (cnt : ((List.range (rows.length + n)).filter tt).length = n) {x : Nat → Rat}
    (x1 : ∀ i, i < rows.length → tt i = true → sh3 (rows.getD i []) x = rights.getD i 0) (x2 : ∀ j, j < n → tt (rows.length + j) = true → x j = 0)
    (ker : ∀ z : Nat → Rat, (∀ i, i < rows.length → tt i = true → sh3 (rows.getD i []) z = 0) → (∀ j, j < n → tt (rows.length + j) = true → z j = 0) → ∀ j, j < n → z j = 0)
    (f1 : ∀ j, j < n → 0 ≤ x j) (f2 : ∀ i, i < rows.length → rights.getD i 0 ≤ sh3 (rows.getD i []) x) : (List.range n).map x ∈ cornersR rows rights n := by
  have xg : ∀ j, j < n → ((List.range n).map x).getD j 0 = x j := fun j hj => by
    rw [List.getD_eq_getElem?_getD, List.getElem?_map, List.getElem?_range hj]
    rfl
  have sx : ∀ i, i < rows.length → sh3 (rows.getD i []) (fun j => ((List.range n).map x).getD j 0) = sh3 (rows.getD i []) x := fun i hi => by
    have c : ∀ j, ((cell (rows.getD i []) j : Int) : Rat) * ((List.range n).map x).getD j 0 = ((cell (rows.getD i []) j : Int) : Rat) * x j := fun j => by
      by_cases hj : j < n
      · rw [xg j hj]
      · rw [cell_out (by rw [rl i hi]; omega)]
        show (0 : Rat) * _ = 0 * _
        rw [Rat.zero_mul, Rat.zero_mul]
    unfold sh3
    rw [c, c, c]
  have lotm : ∀ k : Int, k ∈ ((List.range (rows.length + n)).filter tt).map (fun i : Nat => (i : Int)) → ∃ i : Nat, i < rows.length + n ∧ tt i = true ∧ k = (i : Int) := fun k hk => by
    obtain ⟨i, hi, rfl⟩ := List.mem_map.mp hk
    obtain ⟨h1, h2⟩ := List.mem_filter.mp hi
    exact ⟨i, List.mem_range.mp h1, h2, rfl⟩
  have mlot : ∀ i : Nat, i < rows.length + n → tt i = true → (i : Int) ∈ ((List.range (rows.length + n)).filter tt).map (fun i : Nat => (i : Int)) := fun i h1 h2 => List.mem_map.mpr ⟨i, List.mem_filter.mpr ⟨List.mem_range.mpr h1, h2⟩, rfl⟩
  refine corners_mem (lot := ((List.range (rows.length + n)).filter tt).map fun i : Nat => (i : Int)) (by rw [List.length_map]; exact cnt) ?_ (fun z hz => ?_) (corner_eq hn (by rw [List.length_map]; exact cnt) (fun k hk => ?_) (fun z hz => ?_) (fun k hk => ?_)) ?_
  · refine List.Pairwise.map (R := (· < ·)) _ (fun a b h => ?_) ((List.pairwise_lt_range).filter _)
    show (a : Int) < (b : Int)
    omega
  · obtain ⟨i, h1, _, rfl⟩ := lotm z hz
    omega
  · obtain ⟨i, h1, _, rfl⟩ := lotm k hk
    rw [Int.toNat_natCast]
    by_cases hi : i < rows.length
    · rw [sheet_row hi]; exact rl i hi
    · obtain ⟨j, hj, rfl⟩ : ∃ j, j < n ∧ i = rows.length + j := ⟨i - rows.length, by omega, by omega⟩
      rw [sheet_unit hj, unitZ_len]
  · refine ker z (fun i hi ht => ?_) (fun j hj ht => ?_)
    · have := hz _ (mlot i (by omega) ht)
      rw [Int.toNat_natCast, sheet_row hi] at this
      exact this
    · have := hz _ (mlot (rows.length + j) (by omega) ht)
      rw [Int.toNat_natCast, sheet_unit hj, unit_sh hn hj] at this
      exact this
  · obtain ⟨i, h1, ht, rfl⟩ := lotm k hk
    rw [Int.toNat_natCast]
    by_cases hi : i < rows.length
    · rw [sheet_row hi, ends_row (by omega)]; exact x1 i hi ht
    · obtain ⟨j, hj, rfl⟩ : ∃ j, j < n ∧ i = rows.length + j := ⟨i - rows.length, by omega, by omega⟩
      rw [sheet_unit hj, unit_sh hn hj, ← hl, ends_unit]
      exact x2 j hj ht
  · refine (ok_iff hn hl (by rw [List.length_map, List.length_range])).mpr ⟨fun j hj => by rw [xg j hj]; exact f1 j hj, fun i hi => by rw [sx i hi]; exact f2 i hi⟩
end WM

set_option Elab.async false
set_option linter.all false
set_option maxHeartbeats 1000000
/-! The last table's plan and paper are corners. -/
namespace WM
theorem filt_or {xs : List Nat} {a : Nat} {l : List Nat} (h : a ∉ l) : (xs.filter fun j => decide (j ∈ a :: l)).length = (xs.filter fun j => decide (j = a)).length + (xs.filter fun j => decide (j ∈ l)).length := by
  induction xs with
  | nil => rfl
  | cons x xs ih =>
    rw [List.filter_cons, List.filter_cons, List.filter_cons]
    by_cases e : x = a
    · subst e
      rw [if_pos (decide_eq_true (by simp)), if_pos (decide_eq_true rfl), if_neg (by rw [decide_eq_false h]; decide), List.length_cons, List.length_cons, ih]
      omega
    · by_cases e2 : x ∈ l
      · rw [if_pos (decide_eq_true (by simp [e2])), if_neg (by rw [decide_eq_false e]; decide), if_pos (decide_eq_true e2), List.length_cons, List.length_cons, ih]
        omega
      · rw [if_neg (by rw [decide_eq_false (by simp [e, e2])]; decide), if_neg (by rw [decide_eq_false e]; decide), if_neg (by rw [decide_eq_false e2]; decide), ih]
theorem filt_one : ∀ {N a : Nat}, a < N → ((List.range N).filter fun j => decide (j = a)).length = 1
  | 0, a, h => absurd h (Nat.not_lt_zero _)
  | N + 1, a, h => by
    rw [List.range_succ, List.filter_append, List.length_append]
    by_cases e : a = N
    · subst e
      have : ((List.range a).filter fun j => decide (j = a)) = [] := by
        rw [List.filter_eq_nil_iff]
        intro j hj
        have := List.mem_range.mp hj
        rw [decide_eq_false (by omega)]
        decide
      rw [this, List.filter_cons, if_pos (decide_eq_true rfl)]
      rfl
    · rw [filt_one (N := N) (by omega), List.filter_cons, if_neg (by rw [decide_eq_false (by omega)]; decide)]
      rfl
theorem filt_mem {N : Nat} : ∀ {l : List Nat}, l.Nodup → (∀ x ∈ l, x < N) → ((List.range N).filter fun j => decide (j ∈ l)).length = l.length
  | [], _, _ => by
    have : ((List.range N).filter fun j => decide (j ∈ ([] : List Nat))) = [] := by
      rw [List.filter_eq_nil_iff]
      intro j _
      rw [decide_eq_false (by simp)]
      decide
    exact congrArg List.length this
  | a :: l, hn, hl => by
    obtain ⟨h1, h2⟩ := List.nodup_cons.mp hn
    rw [filt_or h1, filt_one (hl a (by simp)), filt_mem h2 fun x hx => hl x (by simp [hx]), List.length_cons]
    omega
theorem filt_not {xs : List Nat} (f : Nat → Bool) : (xs.filter f).length + (xs.filter fun j => !f j).length = xs.length := by
  induction xs with
  | nil => rfl
  | cons x xs ih =>
    rw [List.filter_cons, List.filter_cons]
    cases e : f x with
    | true => simp; omega
    | false => simp; omega
theorem filt_add (f : Nat → Bool) (a b : Nat) : ((List.range (a + b)).filter f).length = ((List.range a).filter f).length + ((List.range b).filter fun j => f (a + j)).length := by
  rw [List.range_add, List.filter_append, List.length_append, List.filter_map, List.length_map]
  rfl
section
variable {c : List Int} {A : List (List Int)} {b : List Int} {Z : Tab}
def hB (Z : Tab) (col : Nat) : Bool := decide (col ∈ Z.held)
theorem FinZ.held_iff (f : FinZ A b c Z) (col : Nat) : HeldC Z col ↔ col ∈ Z.held := by
  constructor
  · rintro ⟨k, k1, rfl⟩
    exact List.mem_of_getElem? (m_getD_at (z := 0) (by rw [f.a.st.t.sh.hl]; exact k1))
  · intro h
    obtain ⟨k, hk⟩ := List.mem_iff_getElem?.mp h
    have hl := (List.getElem?_eq_some_iff.mp hk).1
    refine ⟨k, by rw [← f.a.st.t.sh.hl]; exact hl, ?_⟩
    unfold Tab.hold
    rw [List.getD_eq_getElem?_getD, hk]
    rfl
theorem FinZ.hB_t (f : FinZ A b c Z) {col : Nat} (h : hB Z col = true) : HeldC Z col := (f.held_iff col).mpr (of_decide_eq_true h)
theorem FinZ.hB_f (f : FinZ A b c Z) {col : Nat} (h : (!hB Z col) = true) : ¬ HeldC Z col := fun z => by
  have := (f.held_iff col).mp z
  unfold hB at h
  rw [decide_eq_true this] at h
  cases h
theorem FinZ.hB_of (f : FinZ A b c Z) {col : Nat} (h : HeldC Z col) : hB Z col = true := decide_eq_true ((f.held_iff col).mp h)
theorem FinZ.hB_nof (f : FinZ A b c Z) {col : Nat} (h : ¬ HeldC Z col) : (!hB Z col) = true := by
  unfold hB
  rw [decide_eq_false (fun z => h ((f.held_iff col).mpr z))]
  rfl
theorem FinZ.nodup (p : Inp c A b) (f : FinZ A b c Z) : Z.held.Nodup := by
  have hm := p.m
  have hg := f.a.hg
  have hl := f.a.st.t.sh.hl
  rw [List.nodup_iff_pairwise_ne, List.pairwise_iff_getElem]
  intro i j hi hj hij e
  have e1 : Z.held[i] = Z.hold i := by unfold Tab.hold; rw [List.getD_eq_getElem?_getD, List.getElem?_eq_getElem hi]; rfl
  have e2 : Z.held[j] = Z.hold j := by unfold Tab.hold; rw [List.getD_eq_getElem?_getD, List.getElem?_eq_getElem hj]; rfl
  rw [e1, e2, ← (f.hold (k := i) (by omega)).1, ← (f.hold (k := j) (by omega)).1] at e
  have := f.a.st.t.g.inj (by omega) (by omega) e
  omega
theorem FinZ.cnt (p : Inp c A b) (f : FinZ A b c Z) : ((List.range (c.length + A.length)).filter (hB Z)).length = A.length := by
  have := filt_mem (N := c.length + A.length) (f.nodup p) fun x hx => by
    obtain ⟨k, k1, k2⟩ := (f.held_iff x).mpr hx
    have hk : k < A.length := by rw [← f.a.hg]; exact k1
    have := (f.hold hk).2
    rw [(f.hold hk).1, k2] at this
    exact this
  rw [f.a.st.t.sh.hl, f.a.hg] at this
  exact this
theorem FinZ.cntN (p : Inp c A b) (f : FinZ A b c Z) : ((List.range (A.length + c.length)).filter fun i => if i < A.length then !hB Z (c.length + i) else !hB Z (i - A.length)).length = c.length := by
  have h1 := f.cnt p
  have h2 := filt_not (xs := List.range (c.length + A.length)) (hB Z)
  rw [List.length_range] at h2
  have e1 : ((List.range A.length).filter fun i => if i < A.length then !hB Z (c.length + i) else !hB Z (i - A.length)) = (List.range A.length).filter fun i => !hB Z (c.length + i) := by
    refine List.filter_congr fun i hi => ?_
    rw [if_pos (List.mem_range.mp hi)]
  have e2 : ((List.range c.length).filter fun j => if A.length + j < A.length then !hB Z (c.length + (A.length + j)) else !hB Z (A.length + j - A.length)) = (List.range c.length).filter fun j => !hB Z j := by
    refine List.filter_congr fun j hj => ?_
    rw [if_neg (by omega), Nat.add_sub_cancel_left]
  rw [filt_add (fun i => if i < A.length then !hB Z (c.length + i) else !hB Z (i - A.length)), e1, e2]
  rw [filt_add (fun j => !hB Z j)] at h2
  omega
/-- the plan -/
theorem FinZ.plan (p : Inp c A b) (f : FinZ A b c Z) {rr : List Rat} (rl : rr.length = A.length) {L : Rat} (hL : 0 < L) (hb : ∀ i, i < A.length → bR b i = rr.getD i 0 * L) {g : Rat} (g0 : 0 < g) (hg : g * (lw Z * L) = 1) :
    (List.range c.length).map (fun j => Xv Z j * g) ∈ cornersR A rr c.length ∧ (∀ j, 0 ≤ Xv Z j * g) ∧ ∀ i, i < A.length → rr.getD i 0 ≤ sh3 (A.getD i []) (fun j => Xv Z j * g) := by
  have hn := p.n
  have hm := p.m
  have nn : ∀ j, 0 ≤ Xv Z j * g := fun j => Rat.mul_nonneg (f.F1 p j) (by grind)
  have sx : ∀ i, i < A.length → sh3 (A.getD i []) (fun j => Xv Z j * g) = rr.getD i 0 + Xv Z (c.length + i) * g := fun i hi => by
    have h2 := f.F2 p hi
    rw [hb i hi] at h2
    show acR A i 0 * (Xv Z 0 * g) + acR A i 1 * (Xv Z 1 * g) + acR A i 2 * (Xv Z 2 * g) = _
    grind
  have f2 : ∀ i, i < A.length → rr.getD i 0 ≤ sh3 (A.getD i []) (fun j => Xv Z j * g) := fun i hi => by
    rw [sx i hi]
    have := nn (c.length + i)
    grind
  refine ⟨corner_in (tt := fun i => if i < A.length then !hB Z (c.length + i) else !hB Z (i - A.length)) hn.2 rl (fun i hi => p.row hi) (f.cntN p) (fun i hi ht => ?_) (fun j hj ht => ?_) (fun z z1 z2 => ?_) (fun j _ => nn j) f2, nn, f2⟩
  · rw [if_pos hi] at ht
    rw [sx i hi]
    have : Xv Z (c.length + i) = 0 := f.X_out p (by omega) (f.hB_f ht) _
    rw [this]
    grind
  · rw [if_neg (by omega), Nat.add_sub_cancel_left] at ht
    have : Xv Z j = 0 := f.X_out p (by omega) (f.hB_f ht) _
    rw [this, Rat.zero_mul]
  · refine f.F8 p (fun j hj hh => z2 j hj ?_) (fun i hi hh => z1 i hi ?_)
    · rw [if_neg (by omega), Nat.add_sub_cancel_left]
      exact f.hB_nof hh
    · rw [if_pos hi]
      exact f.hB_nof hh
/-- the paper -/
theorem FinZ.paper (p : Inp c A b) (f : FinZ A b c Z) (hl : ∀ j, j < c.length + A.length → 0 ≤ cell Z.left j) {B : List (List Int)} {e : List Rat} (hB1 : B.length = c.length) (hB2 : ∀ j, j < c.length → (B.getD j []).length = A.length) (hB3 : ∀ j, j < c.length → ∀ i, cell (B.getD j []) i = -(ac A i j))
    (he1 : e.length = c.length) (he2 : ∀ j, j < c.length → e.getD j 0 = -(ccR c j)) {g : Rat} (g0 : 0 < g) (hg : g * lw Z = 1) :
    (List.range A.length).map (fun k => Pz A b c Z k * g) ∈ cornersR B e A.length ∧ (∀ k, k < A.length → 0 ≤ Pz A b c Z k * g) ∧ ∀ j, j < c.length → (Pz A b c Z 0 * g) * acR A 0 j + (Pz A b c Z 1 * g) * acR A 1 j + (Pz A b c Z 2 * g) * acR A 2 j ≤ ccR c j := by
  have hn := p.n
  have hm := p.m
  obtain ⟨d1, d2⟩ := dual_of p f.a (fun k _ => w2_s p k) hl
  obtain ⟨t1, t2⟩ := f.F9a p
  have nn : ∀ k, k < A.length → 0 ≤ Pz A b c Z k * g := fun k hk => Rat.mul_nonneg (d1 k hk) (by grind)
  have sB : ∀ j, j < c.length → ∀ y : Nat → Rat, sh3 (B.getD j []) y = -(y 0 * acR A 0 j + y 1 * acR A 1 j + y 2 * acR A 2 j) := fun j hj y => by
    unfold sh3 acR
    rw [hB3 j hj, hB3 j hj, hB3 j hj, Rat.intCast_neg, Rat.intCast_neg, Rat.intCast_neg]
    grind
  have le : ∀ j, j < c.length → (Pz A b c Z 0 * g) * acR A 0 j + (Pz A b c Z 1 * g) * acR A 1 j + (Pz A b c Z 2 * g) * acR A 2 j ≤ ccR c j := fun j hj => by
    have h1 := d2 j hj
    rw [w2_eq] at h1
    have h2 := Rat.mul_le_mul_of_nonneg_right h1 (show 0 ≤ g by grind)
    have e1 : (lw Z * ccR c j) * g = ccR c j := by
      have : (lw Z * ccR c j) * g = (g * lw Z) * ccR c j := by grind
      rw [this, hg, Rat.one_mul]
    have e2 : (PR A b (cell (costs2 c A.length)) Z 0 * acR A 0 j + PR A b (cell (costs2 c A.length)) Z 1 * acR A 1 j + PR A b (cell (costs2 c A.length)) Z 2 * acR A 2 j) * g = (Pz A b c Z 0 * g) * acR A 0 j + (Pz A b c Z 1 * g) * acR A 1 j + (Pz A b c Z 2 * g) * acR A 2 j := by
      unfold Pz
      grind
    rw [e2, e1] at h2
    exact h2
  refine ⟨?_, nn, le⟩
  refine corner_in (tt := hB Z) hm.2 (by omega) (fun j hj => hB2 j (by omega)) (by rw [hB1]; exact f.cnt p) (fun j hj ht => ?_) (fun k hk ht => ?_) (fun z z1 z2 => ?_) nn (fun j hj => ?_)
  · rw [sB j (by omega), he2 j (by omega)]
    have h1 := t1 j (by omega) (f.hB_t ht)
    grind
  · rw [hB1] at ht
    rw [t2 k hk (f.hB_t ht), Rat.zero_mul]
  · refine f.F9b p (fun j hj hh => ?_) (fun k hk hh => z2 k hk (by rw [hB1]; exact f.hB_of hh))
    have := z1 j (by omega) (f.hB_of hh)
    rw [sB j hj] at this
    grind
  · rw [sB j (by omega), he2 j (by omega)]
    have := le j (by omega)
    grind
end
end WM

set_option Elab.async false
set_option linter.all false
set_option maxHeartbeats 1000000
/-! The told and the due agree. -/
namespace WM
theorem min_fold {v : Rat} : ∀ (ws : List Rat) (f0 : Rat), (∀ w ∈ ws, v ≤ w) → v ≤ f0 → (f0 = v ∨ v ∈ ws) → ws.foldl (fun f w => if w < f then w else f) f0 = v
  | [], f0, _, _, h => by
    rcases h with h | h
    · exact h
    · cases h
  | w :: ws, f0, h1, h2, h3 => by
    refine min_fold ws (if w < f0 then w else f0) (fun x hx => h1 x (by simp [hx])) ?_ ?_
    · have := h1 w (by simp)
      split
      · exact this
      · exact h2
    · have hw := h1 w (by simp)
      rcases h3 with h3 | h3
      · left
        rw [if_neg (by rw [h3]; exact Rat.not_lt.mpr hw)]
        exact h3
      · rcases List.mem_cons.mp h3 with h3 | h3
        · left
          by_cases e : w < f0
          · rw [if_pos e]; exact h3.symm
          · rw [if_neg e]
            have := Rat.not_lt.mp e
            grind
        · exact .inr h3
theorem min_eq {v : Rat} {ws : List Rat} (h1 : ∀ w ∈ ws, v ≤ w) (h2 : v ∈ ws) : minR ws = v := by
  unfold minR
  refine min_fold ws _ h1 ?_ (.inr h2)
  cases ws with
  | nil => cases h2
  | cons w ws => exact h1 w (by simp)
theorem dot_sh {ns ms : List Int} (h : ns.length ≤ 3) : ((dotL ns ms : Int) : Rat) = sh3 ns (fun j => ((cell ms j : Int) : Rat)) := by
  have z0 : ((0 : Int) : Rat) = 0 := rfl
  unfold dotL sh3 cell
  match ns, ms, h with
  | [], _, _ => simp <;> grind
  | [_], [], _ => simp <;> grind
  | [_], _ :: _, _ => simp <;> grind
  | [_, _], [], _ => simp <;> grind
  | [_, _], [_], _ => simp <;> grind
  | [_, _], _ :: _ :: _, _ => simp <;> grind
  | [_, _, _], [], _ => simp <;> grind
  | [_, _, _], [_], _ => simp <;> grind
  | [_, _, _], [_, _], _ => simp <;> grind
  | [_, _, _], _ :: _ :: _ :: _, _ => simp <;> grind
  | _ :: _ :: _ :: _ :: _, _, h => simp at h <;> omega
theorem prom3 {xs ys : List Rat} (h : ys.length ≤ 3) : (List.zipWith (fun (a b : Rat) => a * b) xs ys).foldl (· + ·) 0 = xs.getD 0 0 * ys.getD 0 0 + xs.getD 1 0 * ys.getD 1 0 + xs.getD 2 0 * ys.getD 2 0 := by
  match xs, ys, h with
  | _, [], _ => simp <;> grind
  | [], [_], _ => simp <;> grind
  | _ :: _, [_], _ => simp <;> grind
  | [], [_, _], _ => simp <;> grind
  | [_], [_, _], _ => simp <;> grind
  | _ :: _ :: _, [_, _], _ => simp <;> grind
  | [], [_, _, _], _ => simp <;> grind
  | [_], [_, _, _], _ => simp <;> grind
  | [_, _], [_, _, _], _ => simp <;> grind
  | _ :: _ :: _ :: _, [_, _, _], _ => simp <;> grind
  | _, _ :: _ :: _ :: _ :: _, h => simp at h <;> omega
theorem rng_get {n : Nat} (x : Nat → Rat) {j : Nat} (hj : j < n) : ((List.range n).map x).getD j 0 = x j := by
  rw [List.getD_eq_getElem?_getD, List.getElem?_map, List.getElem?_range hj]
  rfl
theorem rng_out {n : Nat} (x : Nat → Rat) {j : Nat} (hj : ¬ j < n) : ((List.range n).map x).getD j 0 = 0 := by
  rw [List.getD_eq_getElem?_getD, List.getElem?_eq_none (by rw [List.length_map, List.length_range]; omega)]
  rfl
theorem sh_rng {r : List Int} {n : Nat} (hl : r.length = n) (x : Nat → Rat) : sh3 r (fun j => ((List.range n).map x).getD j 0) = sh3 r x := by
  have c : ∀ j, ((cell r j : Int) : Rat) * ((List.range n).map x).getD j 0 = ((cell r j : Int) : Rat) * x j := fun j => by
    by_cases hj : j < n
    · rw [rng_get x hj]
    · rw [cell_out (by omega)]
      show (0 : Rat) * _ = 0 * _
      rw [Rat.zero_mul, Rat.zero_mul]
  unfold sh3
  rw [c, c, c]
section
variable {t : Tk} {p : Pl}
abbrev tA (t : Tk) : List (List Int) := t.rows.map (·.nums)
theorem tA_len (t : Tk) : (tA t).length = t.rows.length := List.length_map ..
theorem tA_get {i : Nat} (hi : i < t.rows.length) : ∃ r, r ∈ t.rows ∧ t.rows[i]? = some r ∧ (tA t).getD i [] = r.nums := by
  refine ⟨t.rows[i], List.getElem_mem hi, List.getElem?_eq_getElem hi, ?_⟩
  rw [List.getD_eq_getElem?_getD, List.getElem?_map, List.getElem?_eq_getElem hi]
  rfl
theorem TkOk.inp (ht : TkOk t) (hp : PlOk p) : Inp t.costs (tA t) (rightsZ t p) := by
  refine ⟨ht.wide, by rw [tA_len]; exact ht.high, fun r hr => ?_, by rw [tA_len, rightsZ_len], fun r hr z hz => ?_, ht.cost8, rightZ_bi ht hp⟩
  · obtain ⟨x, hx, rfl⟩ := List.mem_map.mp hr
    exact (ht.rows x hx).len
  · obtain ⟨x, hx, rfl⟩ := List.mem_map.mp hr
    exact (ht.rows x hx).b8 z hz
abbrev plR (p : Pl) : Rat := ((plL p : Int) : Rat)
theorem plR_pos (p : Pl) : 0 < plR p := by
  have := plL_pos p
  show (0 : Rat) < ((plL p : Int) : Rat)
  exact_mod_cast this
theorem rr_get {i : Nat} {r : Rw} (h : t.rows[i]? = some r) : (rightsR t p).getD i 0 = atR r.east r.north r.right p := by
  rw [List.getD_eq_getElem?_getD, rights_at h]
  rfl
theorem b_rr {i : Nat} (hi : i < (tA t).length) : bR (rightsZ t p) i = (rightsR t p).getD i 0 * plR p := by
  rw [tA_len] at hi
  obtain ⟨r, _, h, _⟩ := tA_get hi
  rw [rr_get h]
  unfold bR cell rightsZ
  rw [List.getD_eq_getElem?_getD, List.getElem?_map, h]
  exact rightZ_eq r p
theorem keeps_iff (ht : TkOk t) {qs : List Rat} (hq : qs.length = t.costs.length) : Keeps t p qs ↔ okC (sheetZ (tA t) t.costs.length) (endsR (rightsR t p) t.costs.length) qs := by
  have hn := ht.wide
  rw [ok_iff hn.2 (by rw [tA_len, rightsR_len]) hq, tA_len]
  unfold Keeps
  constructor
  · rintro ⟨h1, h2⟩
    refine ⟨fun j hj => h1 _ (List.mem_of_getElem? (m_getD_at (by omega))), fun i hi => ?_⟩
    obtain ⟨r, hr, hg, e⟩ := tA_get hi
    rw [rr_get hg, e, ← inner_sh (by omega)]
    exact h2 r hr
  · rintro ⟨h1, h2⟩
    refine ⟨fun q hq' => ?_, fun r hr => ?_⟩
    · obtain ⟨j, hj⟩ := List.mem_iff_getElem?.mp hq'
      have hjl := (List.getElem?_eq_some_iff.mp hj).1
      have := h1 j (by omega)
      rw [List.getD_eq_getElem?_getD, hj] at this
      exact this
    · obtain ⟨i, hi⟩ := List.mem_iff_getElem?.mp hr
      have hil := (List.getElem?_eq_some_iff.mp hi).1
      have := h2 i hil
      obtain ⟨r', _, hg, e⟩ := tA_get hil
      rw [hi] at hg
      cases hg
      rw [rr_get hi, e, ← inner_sh (by omega)] at this
      exact this
/-- what a member of the plans is -/
theorem plan_mem (ht : TkOk t) (hp : PlOk p) {qs : List Rat} (h : qs ∈ plansR t p) : qs.length = t.costs.length ∧ (∀ j, j < t.costs.length → 0 ≤ qs.getD j 0) ∧ ∀ i, i < (tA t).length → (rightsR t p).getD i 0 ≤ sh3 ((tA t).getD i []) (fun j => qs.getD j 0) := by
  have h1 := (corners_sz (ht.plans hp) qs h).1
  exact ⟨h1, (ok_iff ht.wide.2 (by rw [tA_len, rightsR_len]) h1).mp (corners_ok qs h)⟩
theorem no_plan (ht : TkOk t) (hp : PlOk p) (h : NoX t.costs (tA t) (rightsZ t p)) : plansR t p = [] := by
  cases e : plansR t p with
  | nil => rfl
  | cons q qs =>
    exfalso
    obtain ⟨_, h1, h2⟩ := plan_mem (t := t) (p := p) ht hp (qs := q) (by rw [e]; simp)
    have lp := plR_pos p
    refine h ⟨fun j => q.getD j 0 * plR p, fun j hj => Rat.mul_nonneg (h1 j hj) (by grind), fun i hi => ?_⟩
    rw [b_rr hi]
    have h3 := Rat.mul_le_mul_of_nonneg_right (h2 i hi) (show 0 ≤ plR p by grind)
    have e2 : sh3 ((tA t).getD i []) (fun j => q.getD j 0) * plR p = acR (tA t) i 0 * (q.getD 0 0 * plR p) + acR (tA t) i 1 * (q.getD 1 0 * plR p) + acR (tA t) i 2 * (q.getD 2 0 * plR p) := by
      show (acR (tA t) i 0 * q.getD 0 0 + acR (tA t) i 1 * q.getD 1 0 + acR (tA t) i 2 * q.getD 2 0) * plR p = _
      grind
    rw [e2] at h3
    exact h3
/-! the dual's sheet -/
theorem turned_get {j : Nat} (hj : j < t.costs.length) : (turnedZ t).getD j [] = t.rows.map fun r => 0 - r.nums.getD j 0 := by
  unfold turnedZ
  rw [List.getD_eq_getElem?_getD, List.getElem?_map, List.getElem?_range hj]
  rfl
theorem turned_cell {j : Nat} (hj : j < t.costs.length) (i : Nat) : cell ((turnedZ t).getD j []) i = -(ac (tA t) i j) := by
  rw [turned_get hj]
  by_cases hi : i < t.rows.length
  · obtain ⟨r, _, hg, e⟩ := tA_get hi
    unfold ac
    rw [e]
    unfold cell
    rw [List.getD_eq_getElem?_getD, List.getElem?_map, hg]
    show 0 - r.nums.getD j 0 = -(r.nums.getD j 0)
    omega
  · unfold ac
    rw [cell_out (by rw [List.length_map]; omega), getD_nil (by rw [tA_len]; omega)]
    rfl
theorem ends_get {j : Nat} (hj : j < t.costs.length) : (costEnds t).getD j 0 = -(ccR t.costs j) := by
  unfold costEnds ccR
  rw [List.getD_eq_getElem?_getD, List.getElem?_map, m_getD_at (z := 0) hj]
  show ((0 - cell t.costs j : Int) : Rat) = _
  rw [Int.zero_sub, Rat.intCast_neg]
theorem no_paper (ht : TkOk t) (h : NoY t.costs (tA t)) : papersR t = [] := by
  cases e : papersR t with
  | nil => rfl
  | cons q qs =>
    exfalso
    have hm : q ∈ cornersR (turnedZ t) (costEnds t) t.rows.length := by
      have : q ∈ papersR t := by rw [e]; simp
      exact this
    have h1 := (corners_sz ht.papers q hm).1
    obtain ⟨k1, k2⟩ := (ok_iff ht.high.2 (by rw [turned_len]; unfold costEnds; rw [List.length_map]) h1).mp (corners_ok q hm)
    refine h ⟨fun i => q.getD i 0, fun i hi => k1 i (by rw [tA_len] at hi; exact hi), fun j hj => ?_⟩
    have h2 := k2 j (by rw [turned_len]; exact hj)
    rw [ends_get hj] at h2
    unfold sh3 at h2
    rw [turned_cell hj, turned_cell hj, turned_cell hj, Rat.intCast_neg, Rat.intCast_neg, Rat.intCast_neg] at h2
    show q.getD 0 0 * acR (tA t) 0 j + q.getD 1 0 * acR (tA t) 1 j + q.getD 2 0 * acR (tA t) 2 j ≤ ccR t.costs j
    unfold acR
    grind
variable {Z : Tab}
theorem plan_list (P : Inp t.costs (tA t) (rightsZ t p)) (f : FinZ (tA t) (rightsZ t p) t.costs Z) : ((planT Z).take t.costs.length).map (fun z => Rat.divInt z (Z.low * plL p)) = (List.range t.costs.length).map fun j => Xv Z j * (lw Z * plR p)⁻¹ := by
  have hw := f.a.wd
  refine List.ext_getElem? fun j => ?_
  by_cases hj : j < t.costs.length
  · rw [List.getElem?_map, List.getElem?_take, if_pos hj, m_getD_at (z := 0) (by rw [planT_len]; omega : j < (planT Z).length), List.getElem?_map, List.getElem?_range hj]
    show some (Rat.divInt (cell (planT Z) j) (Z.low * plL p)) = some _
    rw [Rat.divInt_eq_div, plan_cell P f (by omega), Rat.intCast_mul, Rat.div_def]
  · rw [List.getElem?_eq_none (by rw [List.length_map, List.length_take]; omega), List.getElem?_eq_none (by rw [List.length_map, List.length_range]; omega)]
theorem paper_list (P : Inp t.costs (tA t) (rightsZ t p)) (f : FinZ (tA t) (rightsZ t p) t.costs Z) : (paperT 0 Z).map (fun z => Rat.divInt z Z.low) = (List.range (tA t).length).map fun k => Pz (tA t) (rightsZ t p) t.costs Z k * (lw Z)⁻¹ := by
  have hg := f.a.hg
  have hl : (paperT 0 Z).length = (tA t).length := by unfold paperT; rw [List.length_map, List.length_range]; exact hg
  refine List.ext_getElem? fun k => ?_
  by_cases hk : k < (tA t).length
  · rw [List.getElem?_map, m_getD_at (z := 0) (by omega : k < (paperT 0 Z).length), List.getElem?_map, List.getElem?_range hk]
    show some (Rat.divInt (cell (paperT 0 Z) k) Z.low) = some _
    rw [Rat.divInt_eq_div, f.F6 P hk, Rat.div_def]
  · rw [List.getElem?_eq_none (by rw [List.length_map]; omega), List.getElem?_eq_none (by rw [List.length_map, List.length_range]; omega)]
theorem inv_pos' {x : Rat} (h : 0 < x) : 0 < x⁻¹ ∧ x⁻¹ * x = 1 := by
  have h1 : x⁻¹ * x = 1 := Rat.inv_mul_cancel x (by grind)
  refine ⟨?_, h1⟩
  apply Classical.byContradiction
  intro z
  have h2 : x⁻¹ ≤ 0 := Rat.not_lt.mp z
  have h3 := Rat.mul_le_mul_of_nonneg_right h2 (show 0 ≤ x by grind)
  rw [h1, Rat.zero_mul] at h3
  exact absurd h3 (by decide +kernel)
theorem hyp_all : ∀ t p, TkOk t → PlOk p → ∃ told, Runs t p told ∧ Agree t p (bestR t p) told := fun t p ht hp => by
  have P := ht.inp hp
  have hn := P.n
  have hm := P.m
  have lp := plR_pos p
  have lenR : (rightsR t p).length = (tA t).length := by rw [tA_len, rightsR_len]
  rcases run_all P with ⟨paper, low, run, no⟩ | ⟨Z, col, run, f, c1, c2, c3⟩ | ⟨Z, run, f, hl⟩
  · refine ⟨_, run, ?_⟩
    unfold bestR
    rw [if_pos (no_plan ht hp no)]
    exact .none
  · obtain ⟨g0, hg⟩ := inv_pos' (Rat.mul_pos f.lp lp)
    obtain ⟨x1, x2, x3⟩ := f.plan P lenR lp (fun i hi => b_rr hi) g0 hg
    have x1 : _ ∈ plansR t p := x1
    refine ⟨_, run, ?_⟩
    unfold bestR
    rw [if_neg (fun z => by rw [z] at x1; cases x1), if_pos (no_paper ht (f.F7 P c1 c2 c3))]
    refine .endless ?_
    rw [plan_list P f]
    exact (keeps_iff ht (by rw [List.length_map, List.length_range])).mpr (corners_ok _ x1)
  · obtain ⟨g0, hg⟩ := inv_pos' (Rat.mul_pos f.lp lp)
    obtain ⟨x1, x2, x3⟩ := f.plan P lenR lp (fun i hi => b_rr hi) g0 hg
    have x1 : _ ∈ plansR t p := x1
    obtain ⟨k0, hk⟩ := inv_pos' f.lp
    obtain ⟨y1, y2, y3⟩ := f.paper P hl (B := turnedZ t) (e := costEnds t) (turned_len t) (fun j hj => by rw [turned_get hj, List.length_map, tA_len]) (fun j hj i => turned_cell hj i) (by unfold costEnds; rw [List.length_map]) (fun j hj => ends_get hj) k0 hk
    have y1 : ∃ q, q ∈ papersR t := by rw [tA_len] at y1; exact ⟨_, y1⟩
    have hv : innerR t.costs ((List.range t.costs.length).map fun j => Xv Z j * (lw Z * plR p)⁻¹) = sh3 t.costs (fun j => Xv Z j * (lw Z * plR p)⁻¹) := by
      rw [inner_sh (by rw [List.length_map, List.length_range]; omega), sh_rng rfl]
    have eq : (Pz (tA t) (rightsZ t p) t.costs Z 0 * (lw Z)⁻¹) * (rightsR t p).getD 0 0 + (Pz (tA t) (rightsZ t p) t.costs Z 1 * (lw Z)⁻¹) * (rightsR t p).getD 1 0 + (Pz (tA t) (rightsZ t p) t.costs Z 2 * (lw Z)⁻¹) * (rightsR t p).getD 2 0 = sh3 t.costs (fun j => Xv Z j * (lw Z * plR p)⁻¹) := by
      have bb : ∀ i, bR (rightsZ t p) i = (rightsR t p).getD i 0 * plR p := fun i => by
        by_cases hi : i < (tA t).length
        · exact b_rr hi
        · unfold bR
          rw [P.bc_out hi, List.getD_eq_getElem?_getD, List.getElem?_eq_none (by omega)]
          show (0 : Rat) = 0 * _
          rw [Rat.zero_mul]
      have h45 := f.F45 P
      rw [bb, bb, bb] at h45
      show _ = ccR t.costs 0 * (Xv Z 0 * (lw Z * plR p)⁻¹) + ccR t.costs 1 * (Xv Z 1 * (lw Z * plR p)⁻¹) + ccR t.costs 2 * (Xv Z 2 * (lw Z * plR p)⁻¹)
      have e1 : ccR t.costs 0 * (Xv Z 0 * (lw Z * plR p)⁻¹) + ccR t.costs 1 * (Xv Z 1 * (lw Z * plR p)⁻¹) + ccR t.costs 2 * (Xv Z 2 * (lw Z * plR p)⁻¹) = (ccR t.costs 0 * Xv Z 0 + ccR t.costs 1 * Xv Z 1 + ccR t.costs 2 * Xv Z 2) * (lw Z * plR p)⁻¹ := by
        generalize (lw Z * plR p)⁻¹ = g
        grind
      have e2 : plR p * (lw Z * plR p)⁻¹ = (lw Z)⁻¹ := by
        generalize (lw Z * plR p)⁻¹ = g at *
        generalize (lw Z)⁻¹ = k at *
        have a1 : plR p * g = (k * lw Z) * (plR p * g) := by rw [hk, Rat.one_mul]
        have a2 : (k * lw Z) * (plR p * g) = k * (g * (lw Z * plR p)) := by grind
        rw [a1, a2, hg, Rat.mul_one]
      rw [e1, ← h45, ← e2]
      generalize (lw Z * plR p)⁻¹ = g
      grind
    have weak : ∀ q ∈ plansR t p, sh3 t.costs (fun j => Xv Z j * (lw Z * plR p)⁻¹) ≤ innerR t.costs q := fun q hq => by
      obtain ⟨q1, q2, q3⟩ := plan_mem ht hp hq
      rw [inner_sh (by omega), ← eq]
      exact weakG P (y := fun k => Pz (tA t) (rightsZ t p) t.costs Z k * (lw Z)⁻¹) (d := ccR t.costs) (x := fun j => q.getD j 0) (be := fun i => (rightsR t p).getD i 0) y2 y3 q2 q3 (fun j hj => cc_out t.costs hj) (fun i hi => by
        rw [List.getD_eq_getElem?_getD, List.getElem?_eq_none (by omega)]
        rfl)
    refine ⟨_, run, ?_⟩
    unfold bestR
    rw [if_neg (fun z => by rw [z] at x1; cases x1), if_neg (fun z => by rw [z] at y1; obtain ⟨_, y⟩ := y1; cases y)]
    have hmin : minR ((plansR t p).map (innerR t.costs)) = sh3 t.costs (fun j => Xv Z j * (lw Z * plR p)⁻¹) := min_eq (fun w hw => by
      obtain ⟨q, hq, rfl⟩ := List.mem_map.mp hw
      exact weak q hq) (List.mem_map.mpr ⟨_, x1, hv⟩)
    rw [hmin]
    refine .best ?_ ?_ ?_ ?_ ?_
    · rw [plan_list P f]
      exact (keeps_iff ht (by rw [List.length_map, List.length_range])).mpr (corners_ok _ x1)
    · rw [plan_list P f]
      exact hv
    · rw [paper_list P f]
      refine ⟨fun y hy => ?_, fun j hj => ?_⟩
      · obtain ⟨k, hk', rfl⟩ := List.mem_map.mp hy
        exact y2 k (List.mem_range.mp hk')
      · have colC : ∀ i, cell (colZ t j) i = ac (tA t) i j := fun i => by
          by_cases hi : i < t.rows.length
          · obtain ⟨r, _, hg', e⟩ := tA_get hi
            unfold ac
            rw [e]
            unfold cell colZ
            rw [List.getD_eq_getElem?_getD, List.getElem?_map, hg']
            rfl
          · unfold ac
            rw [cell_out (by unfold colZ; rw [List.length_map]; omega), getD_nil (by rw [tA_len]; omega)]
            rfl
        rw [inner_sh (by rw [List.length_map, List.length_range]; omega), sh_rng (by unfold colZ; rw [List.length_map, tA_len])]
        have := y3 j hj
        unfold sh3
        rw [colC, colC, colC]
        show acR (tA t) 0 j * _ + acR (tA t) 1 j * _ + acR (tA t) 2 j * _ ≤ ccR t.costs j
        grind
    · rw [paper_list P f]
      unfold promR
      rw [prom3 (by rw [List.length_map, List.length_range]; omega), ← eq]
      have tm : ∀ i, (rightsR t p).getD i 0 * ((List.range (tA t).length).map fun k => Pz (tA t) (rightsZ t p) t.costs Z k * (lw Z)⁻¹).getD i 0 = (Pz (tA t) (rightsZ t p) t.costs Z i * (lw Z)⁻¹) * (rightsR t p).getD i 0 := fun i => by
        by_cases hi : i < (tA t).length
        · rw [rng_get _ hi, Rat.mul_comm]
        · have : (rightsR t p).getD i 0 = 0 := by
            rw [List.getD_eq_getElem?_getD, List.getElem?_eq_none (by omega)]
            rfl
          rw [this, Rat.zero_mul, Rat.mul_zero]
      rw [tm, tm, tm]
    · have hd : ((dotL t.costs ((planT Z).take t.costs.length) : Int) : Rat) = sh3 t.costs (fun j => Xv Z j) := by
        rw [dot_sh (by omega)]
        have c : ∀ j, ((cell t.costs j : Int) : Rat) * ((cell ((planT Z).take t.costs.length) j : Int) : Rat) = ((cell t.costs j : Int) : Rat) * Xv Z j := fun j => by
          by_cases hj : j < t.costs.length
          · have : cell ((planT Z).take t.costs.length) j = cell (planT Z) j := by
              unfold cell
              rw [List.getD_eq_getElem?_getD, List.getD_eq_getElem?_getD, List.getElem?_take, if_pos hj]
            rw [this, plan_cell P f (by omega)]
          · rw [cell_out (by omega : t.costs.length ≤ j)]
            show (0 : Rat) * _ = 0 * _
            rw [Rat.zero_mul, Rat.zero_mul]
        unfold sh3
        rw [c, c, c]
      rw [Rat.divInt_eq_div, hd, Rat.div_def, Rat.intCast_mul]
      show sh3 t.costs (fun j => Xv Z j) * (lw Z * plR p)⁻¹ = _
      unfold sh3
      generalize (lw Z * plR p)⁻¹ = g
      grind
end
end WM

set_option Elab.async false
set_option linter.all false
set_option pp.maxSteps 150
set_option pp.deepTerms false
open PySem PySem.W PyProof.Rows
set_option pp.maxSteps 150 in
set_option maxRecDepth 100000 in
set_option maxHeartbeats 0 in
theorem PySem.Challenge.cw_worthmaps_k05_whole_tasks_holds : PySem.Challenge.rw_worthmaps_k05_whole_tasks.Holds := by
  w_on; o_law; k_head; (case hw => w_witness2)
  k_fill
  refine WM.walk (l := PySem.Challenge.rw_worthmaps_k05_whole_tasks) rfl rfl (fun w h Y => PySem.W.kIn_of Y) ?F
  case F =>
    intro w mg fa h KX G hmg
    refine' WM.all_mk WM.hyp_all KX G hmg ?z_a0 ?z_l0 ?z_c0 ?z_k0 ?z_a1 ?z_l1 ?z_c1 ?z_k1 ?z_a2 ?z_l2 ?z_c2 ?z_k2 ?z_a3 ?z_l3 ?z_c3 ?z_k3 ?z_a4 ?z_l4 ?z_c4 ?z_k4 ?z_a5 ?z_l5 ?z_c5 ?z_k5 ?z_a6 ?z_l6 ?z_c6 ?z_k6 ?z_a7 ?z_i7 ?z_l7 ?z_c7 ?z_k7 ?z_a8 ?z_i8 ?z_l8 ?z_c8 ?z_k8 ?z_a9 ?z_i9 ?z_l9 ?z_c9 ?z_k9 ?z_a10 ?z_i10 ?z_l10 ?z_c10 ?z_k10 ?z_a11 ?z_i11 ?z_l11 ?z_c11 ?z_k11 ?z_a12 ?z_i12 ?z_l12 ?z_c12 ?z_k12 ?z_a13 ?z_i13 ?z_l13 ?z_c13 ?z_k13 ?z_a14 ?z_i14 ?z_l14 ?z_c14 ?z_k14 ?z_a15 ?z_i15 ?z_l15 ?z_c15 ?z_k15 ?z_a16 ?z_i16 ?z_l16 ?z_c16 ?z_k16 ?z_a17 ?z_l17 ?z_c17 ?z_k17 ?z_a18 ?z_l18 ?z_c18 ?z_k18 ?z_a19 ?z_l19 ?z_c19 ?z_k19 ?z_a20 ?z_l20 ?z_c20 ?z_k20 ?z_a21 ?z_l21 ?z_c21 ?z_k21 ?z_a22 ?z_l22 ?z_c22 ?z_k22 ?z_a23 ?z_l23 ?z_c23 ?z_k23 ?z_a24 ?z_l24 ?z_c24 ?z_k24 ?z_a25 ?z_l25 ?z_c25 ?z_k25 ?z_a26 ?z_l26 ?z_c26 ?z_k26 ?z_a27 ?z_l27 ?z_c27 ?z_k27 ?z_a28 ?z_l28 ?z_c28 ?z_k28 ?z_a29 ?z_l29 ?z_c29 ?z_k29 ?z_a30 ?z_l30 ?z_c30 ?z_k30 ?z_a31 ?z_l31 ?z_c31 ?z_k31 ?z_a32 ?z_l32 ?z_c32 ?z_k32 ?z_a33 ?z_l33 ?z_c33 ?z_k33 ?z_a34 ?z_l34 ?z_c34 ?z_k34 ?z_a35 ?z_l35 ?z_c35 ?z_k35 ?z_a36 ?z_l36 ?z_c36 ?z_k36 ?z_a37 ?z_l37 ?z_c37 ?z_k37 ?z_a38 ?z_l38 ?z_c38 ?z_k38 ?z_a39 ?z_l39 ?z_c39 ?z_k39 ?z_a40 ?z_l40 ?z_c40 ?z_k40 ?z_a41 ?z_l41 ?z_c41 ?z_k41 ?z_a42 ?z_l42 ?z_c42 ?z_k42 ?z_a43 ?z_l43 ?z_c43 ?z_k43 ?z_a44 ?z_l44 ?z_c44 ?z_k44 ?z_a45 ?z_l45 ?z_c45 ?z_k45 ?z_a46 ?z_l46 ?z_c46 ?z_k46 ?z_a47 ?z_l47 ?z_c47 ?z_k47 ?z_a48 ?z_l48 ?z_c48 ?z_k48 ?z_a49 ?z_l49 ?z_c49 ?z_k49 ?z_a50 ?z_l50 ?z_c50 ?z_k50 ?z_a51 ?z_l51 ?z_c51 ?z_k51 ?z_a52 ?z_l52 ?z_c52 ?z_k52 ?z_a53 ?z_l53 ?z_c53 ?z_k53 ?z_a54 ?z_l54 ?z_c54 ?z_k54 ?z_a55 ?z_l55 ?z_c55 ?z_k55 ?z_aC ?z_pg ?z_hd ?z_po ?z_sa ?z_mk ?z_kc ?z_n_wide ?z_n_high ?z_n_turned ?z_n_lines ?z_n_held ?z_n_low ?z_n_left ?z_b_isinstance ?z_b_abs ?z_b_len ?z_b_max ?z_b_sum ?z_b_any ?z_b_all ?z_b_tuple ?z_b_list ?z_b_int ?z_b_bool ?z_b_str ?z_b_range ?z_b_enumerate ?z_b_zip ?z_g0 ?z_g1 ?z_g2
    (case z_aC => k_is); (case z_a0 => k_is); (case z_l0 => k_is); (case z_c0 => k_is); (case z_k0 => k_is); (case z_a1 => k_is)
    (case z_l1 => k_is); (case z_c1 => k_is); (case z_k1 => k_is); (case z_a2 => k_is); (case z_l2 => k_is); (case z_c2 => k_is)
    (case z_k2 => k_is); (case z_a3 => k_is); (case z_l3 => k_is); (case z_c3 => k_is); (case z_k3 => k_is); (case z_a4 => k_is)
    (case z_l4 => k_is); (case z_c4 => k_is); (case z_k4 => k_is); (case z_a5 => k_is); (case z_l5 => k_is); (case z_c5 => k_is)
    (case z_k5 => k_is); (case z_a6 => k_is); (case z_l6 => k_is); (case z_c6 => k_is); (case z_k6 => k_is); (case z_a7 => k_is)
    (case z_i7 => k_is); (case z_l7 => k_is); (case z_c7 => k_is); (case z_k7 => k_is); (case z_a8 => k_is); (case z_i8 => k_is)
    (case z_l8 => k_is); (case z_c8 => k_is); (case z_k8 => k_is); (case z_a9 => k_is); (case z_i9 => k_is); (case z_l9 => k_is)
    (case z_c9 => k_is); (case z_k9 => k_is); (case z_a10 => k_is); (case z_i10 => k_is); (case z_l10 => k_is); (case z_c10 => k_is)
    (case z_k10 => k_is); (case z_a11 => k_is); (case z_i11 => k_is); (case z_l11 => k_is); (case z_c11 => k_is); (case z_k11 => k_is)
    (case z_a12 => k_is); (case z_i12 => k_is); (case z_l12 => k_is); (case z_c12 => k_is); (case z_k12 => k_is); (case z_a13 => k_is)
    (case z_i13 => k_is); (case z_l13 => k_is); (case z_c13 => k_is); (case z_k13 => k_is); (case z_a14 => k_is); (case z_i14 => k_is)
    (case z_l14 => k_is); (case z_c14 => k_is); (case z_k14 => k_is); (case z_a15 => k_is); (case z_i15 => k_is); (case z_l15 => k_is)
    (case z_c15 => k_is); (case z_k15 => k_is); (case z_a16 => k_is); (case z_i16 => k_is); (case z_l16 => k_is); (case z_c16 => k_is)
    (case z_k16 => k_is); (case z_a17 => k_is); (case z_l17 => k_is); (case z_c17 => k_is); (case z_k17 => k_is); (case z_a18 => k_is)
    (case z_l18 => k_is); (case z_c18 => k_is); (case z_k18 => k_is); (case z_a19 => k_is); (case z_l19 => k_is); (case z_c19 => k_is)
    (case z_k19 => k_is); (case z_a20 => k_is); (case z_l20 => k_is); (case z_c20 => k_is); (case z_k20 => k_is); (case z_a21 => k_is)
    (case z_l21 => k_is); (case z_c21 => k_is); (case z_k21 => k_is); (case z_a22 => k_is); (case z_l22 => k_is); (case z_c22 => k_is)
    (case z_k22 => k_is); (case z_a23 => k_is); (case z_l23 => k_is); (case z_c23 => k_is); (case z_k23 => k_is); (case z_a24 => k_is)
    (case z_l24 => k_is); (case z_c24 => k_is); (case z_k24 => k_is); (case z_a25 => k_is); (case z_l25 => k_is); (case z_c25 => k_is)
    (case z_k25 => k_is); (case z_a26 => k_is); (case z_l26 => k_is); (case z_c26 => k_is); (case z_k26 => k_is); (case z_a27 => k_is)
    (case z_l27 => k_is); (case z_c27 => k_is); (case z_k27 => k_is); (case z_a28 => k_is); (case z_l28 => k_is); (case z_c28 => k_is)
    (case z_k28 => k_is); (case z_a29 => k_is); (case z_l29 => k_is); (case z_c29 => k_is); (case z_k29 => k_is); (case z_a30 => k_is)
    (case z_l30 => k_is); (case z_c30 => k_is); (case z_k30 => k_is); (case z_a31 => k_is); (case z_l31 => k_is); (case z_c31 => k_is)
    (case z_k31 => k_is); (case z_a32 => k_is); (case z_l32 => k_is); (case z_c32 => k_is); (case z_k32 => k_is); (case z_a33 => k_is)
    (case z_l33 => k_is); (case z_c33 => k_is); (case z_k33 => k_is); (case z_a34 => k_is); (case z_l34 => k_is); (case z_c34 => k_is)
    (case z_k34 => k_is); (case z_a35 => k_is); (case z_l35 => k_is); (case z_c35 => k_is); (case z_k35 => k_is); (case z_a36 => k_is)
    (case z_l36 => k_is); (case z_c36 => k_is); (case z_k36 => k_is); (case z_a37 => k_is); (case z_l37 => k_is); (case z_c37 => k_is)
    (case z_k37 => k_is); (case z_a38 => k_is); (case z_l38 => k_is); (case z_c38 => k_is); (case z_k38 => k_is); (case z_a39 => k_is)
    (case z_l39 => k_is); (case z_c39 => k_is); (case z_k39 => k_is); (case z_a40 => k_is); (case z_l40 => k_is); (case z_c40 => k_is)
    (case z_k40 => k_is); (case z_a41 => k_is); (case z_l41 => k_is); (case z_c41 => k_is); (case z_k41 => k_is); (case z_a42 => k_is)
    (case z_l42 => k_is); (case z_c42 => k_is); (case z_k42 => k_is); (case z_a43 => k_is); (case z_l43 => k_is); (case z_c43 => k_is)
    (case z_k43 => k_is); (case z_a44 => k_is); (case z_l44 => k_is); (case z_c44 => k_is); (case z_k44 => k_is); (case z_a45 => k_is)
    (case z_l45 => k_is); (case z_c45 => k_is); (case z_k45 => k_is); (case z_a46 => k_is); (case z_l46 => k_is); (case z_c46 => k_is)
    (case z_k46 => k_is); (case z_a47 => k_is); (case z_l47 => k_is); (case z_c47 => k_is); (case z_k47 => k_is); (case z_a48 => k_is)
    (case z_l48 => k_is); (case z_c48 => k_is); (case z_k48 => k_is); (case z_a49 => k_is); (case z_l49 => k_is); (case z_c49 => k_is)
    (case z_k49 => k_is); (case z_a50 => k_is); (case z_l50 => k_is); (case z_c50 => k_is); (case z_k50 => k_is); (case z_a51 => k_is)
    (case z_l51 => k_is); (case z_c51 => k_is); (case z_k51 => k_is); (case z_a52 => k_is); (case z_l52 => k_is); (case z_c52 => k_is)
    (case z_k52 => k_is); (case z_a53 => k_is); (case z_l53 => k_is); (case z_c53 => k_is); (case z_k53 => k_is); (case z_a54 => k_is)
    (case z_l54 => k_is); (case z_c54 => k_is); (case z_k54 => k_is); (case z_a55 => k_is); (case z_l55 => k_is); (case z_c55 => k_is)
    (case z_k55 => k_is); (case z_pg => k_is); (case z_hd => k_is); (case z_po => k_is); (case z_sa => k_is); (case z_mk => k_is)
    (case z_kc => k_is); (case z_n_wide => k_is); (case z_n_high => k_is); (case z_n_turned => k_is); (case z_n_lines => k_is); (case z_n_held => k_is)
    (case z_n_low => k_is); (case z_n_left => k_is); (case z_b_isinstance => k_is); (case z_b_abs => k_is); (case z_b_len => k_is); (case z_b_max => k_is)
    (case z_b_sum => k_is); (case z_b_any => k_is); (case z_b_all => k_is); (case z_b_tuple => k_is); (case z_b_list => k_is); (case z_b_int => k_is)
    (case z_b_bool => k_is); (case z_b_str => k_is); (case z_b_range => k_is); (case z_b_enumerate => k_is); (case z_b_zip => k_is); (case z_g0 => k_is)
    (case z_g1 => k_is); (case z_g2 => k_is)

