import PyProof.Rows.All
import Wide.All
import OpenK.AllK
import Wide.FinOn
import HandS.ForMost
import HandS.IsInst
import HandS.TupAny
import HandS.Zip
import HandS.Style
import HandS.Deep
import HandS.RaiseMore
import HandS.Text
import HandS.More
import HandS.Flow
import HandS.Small
import PySem.Challenge.RW_lateforms_k01_kinds_told
set_option Elab.async false
set_option linter.all false
set_option maxRecDepth 1000000
set_option maxHeartbeats 4000000
/-! Mi1: pure data, the small heap, how both lie in the abstract heap. -/
namespace Mi
open PySem PySem.Spec PyProof.Rows L2

/-- pure data: tuples and lists that nobody changes are trees; ref n: the n-th object that may change; fn k: the k-th def; scr: the script itself -/
inductive D where
  | non | bl (b : Bool) | int (i : Int) | str (x : Str) | tup (xs : List D) | lst (xs : List D) | ref (n : Nat) | fn (k : Nat) | ty (t : String) | scr (ns : List Int)

/-- where the defs stand, and the written part -/
structure FA where
  ad : Nat → Addr
  K : PySem.W.Frag
instance : CoeFun FA (fun _ => Nat → Addr) := ⟨FA.ad⟩
/-- an object that may change -/
inductive MO where
  | lst (xs : List D) | dict (kvs : List (Key × D))
abbrev MH := List MO
abbrev Rho := List (Option D)

inductive Res (α : Type) where
  | ok (a : α) (M : MH) | bad
def Res.bind {α β : Type} (r : Res α) (f : α → MH → Res β) : Res β := match r with
  | .ok a M => f a M
  | .bad => .bad
theorem Res.bind_ok {α β : Type} {r : Res α} {f : α → MH → Res β} {b : β} {M : MH} (h : r.bind f = .ok b M) : ∃ a M1, r = .ok a M1 ∧ f a M1 = .ok b M := by
  cases r with
  | ok a M1 => exact ⟨a, M1, rfl, h⟩
  | bad => cases h

section
variable (fa : FA) (K : PySem.W.Frag)
mutual
inductive Rep (β res : List Addr) (H : Hp) : D → V → Prop where
  | non : Rep β res H .non .non
  | bl (b : Bool) : Rep β res H (.bl b) (.bl b)
  | int (i : Int) : Rep β res H (.int i) (.int i)
  | str (x : Str) : Rep β res H (.str x) (.str x)
  | ty (t : String) : Rep β res H (.ty t) (.ty t)
  | fn (k : Nat) : Rep β res H (.fn k) (.ref (fa k))
  | ref {n : Nat} {a : Addr} : β[n]? = some a → Rep β res H (.ref n) (.ref a)
  | tup {a : Addr} {ds : List D} {vs : List V} : H a = some (.tup vs) → a ∉ β → a ∉ res → Reps β res H ds vs → Rep β res H (.tup ds) (.ref a)
  | lst {a : Addr} {ds : List D} {vs : List V} : H a = some (.lst vs) → a ∉ β → a ∉ res → Reps β res H ds vs → Rep β res H (.lst ds) (.ref a)
  | scr {a : Addr} {o : Obj} {ns : List Int} : H a = some (.frz o (.lst (ns.map V.int))) → a ∉ β → a ∉ res → Rep β res H (.scr ns) (.ref a)
  | scrK {a : Addr} {ns : List Int} : SqL fa.K (fun _ => none) a (ns.map V.int) → Rep β res H (.scr ns) (.ref a)
inductive Reps (β res : List Addr) (H : Hp) : List D → List V → Prop where
  | nil : Reps β res H [] []
  | cons {d : D} {v : V} {ds : List D} {vs : List V} : Rep β res H d v → Reps β res H ds vs → Reps β res H (d :: ds) (v :: vs)
end
end

/-- what may have happened: fr the list of addresses (beyond β) that may have changed too -/
structure Step (mv β : List Addr) (H : Hp) (β' : List Addr) (H' : Hp) : Prop where
  pre : ∃ γ, β' = β ++ γ ∧ ∀ a ∈ γ, H a = none
  keep : ∀ a o, H a = some o → a ∉ β → a ∉ mv → H' a = some o
  dom : ∀ a, H a ≠ none → H' a ≠ none

theorem Step.refl {mv β : List Addr} {H : Hp} : Step mv β H β H := ⟨⟨[], by simp, fun _ h => by cases h⟩, fun _ _ e _ _ => e, fun _ h => h⟩
theorem Step.trans {mv β β1 β2 : List Addr} {H H1 H2 : Hp} (a : Step mv β H β1 H1) (b : Step mv β1 H1 β2 H2) : Step mv β H β2 H2 := by
  obtain ⟨⟨γ, rfl, f1⟩, k1, d1⟩ := a
  obtain ⟨⟨γ2, rfl, f2⟩, k2, d2⟩ := b
  refine ⟨⟨γ ++ γ2, by simp, fun x hx => ?_⟩, fun x o e nb nm => ?_, fun x h => d2 x (d1 x h)⟩
  · rcases List.mem_append.mp hx with h | h
    · exact f1 x h
    · have := f2 x h
      cases q : H x with
      | none => rfl
      | some o => exact absurd this (d1 x (by rw [q]; simp))
  · refine k2 x o (k1 x o e nb nm) (fun h => ?_) nm
    rcases List.mem_append.mp h with h | h
    · exact nb h
    · rw [f1 x h] at e; cases e
theorem Step.more {mv β β' : List Addr} {H H' : Hp} (a : Step [] β H β' H') : Step mv β H β' H' := ⟨a.pre, fun x o e nb _ => a.keep x o e nb (by simp), a.dom⟩
theorem Step.notin {mv β β' : List Addr} {H H' : Hp} (s : Step mv β H β' H') {a : Addr} (h : H a ≠ none) (nb : a ∉ β) : a ∉ β' := by
  obtain ⟨γ, rfl, f⟩ := s.pre
  intro q
  rcases List.mem_append.mp q with q | q
  · exact nb q
  · exact h (f a q)

section
variable {fa : FA} {K : PySem.W.Frag}
mutual
theorem Rep.step {mv β res β' : List Addr} {H H' : Hp} {d : D} {v : V} : Rep fa β res H d v → Step mv β H β' H' → (∀ a ∈ mv, a ∈ res) → Rep fa β' res H' d v
  | .non, _, _ => .non
  | .bl b, _, _ => .bl b
  | .int i, _, _ => .int i
  | .str x, _, _ => .str x
  | .ty t, _, _ => .ty t
  | .fn k, _, _ => .fn k
  | .ref e, s, _ => by
    obtain ⟨γ, rfl, _⟩ := s.pre
    refine .ref ?_
    rw [List.getElem?_append_left (List.getElem?_eq_some_iff.mp e).1]
    exact e
  | .tup e nb nr r, s, hm => .tup (s.keep _ _ e nb fun q => nr (hm _ q)) (s.notin (by rw [e]; simp) nb) nr (Reps.step r s hm)
  | .lst e nb nr r, s, hm => .lst (s.keep _ _ e nb fun q => nr (hm _ q)) (s.notin (by rw [e]; simp) nb) nr (Reps.step r s hm)
  | .scr e nb nr, s, hm => .scr (s.keep _ _ e nb fun q => nr (hm _ q)) (s.notin (by rw [e]; simp) nb) nr
  | .scrK h, _, _ => .scrK h
theorem Reps.step {mv β res β' : List Addr} {H H' : Hp} {ds : List D} {vs : List V} : Reps fa β res H ds vs → Step mv β H β' H' → (∀ a ∈ mv, a ∈ res) → Reps fa β' res H' ds vs
  | .nil, _, _ => .nil
  | .cons r q, s, hm => .cons (Rep.step r s hm) (Reps.step q s hm)
end
mutual
/-- a new reserved address -/
theorem Rep.reserve {β res : List Addr} {H : Hp} {p : Addr} (hp : H p = none) {d : D} {v : V} : Rep fa β res H d v → Rep fa β (p :: res) H d v
  | .non => .non
  | .bl b => .bl b
  | .int i => .int i
  | .str x => .str x
  | .ty t => .ty t
  | .fn k => .fn k
  | .ref e => .ref e
  | .tup e nb nr r => .tup e nb (fun q => by
      rcases List.mem_cons.mp q with q | q
      · rw [q, hp] at e; cases e
      · exact nr q) (Reps.reserve hp r)
  | .lst e nb nr r => .lst e nb (fun q => by
      rcases List.mem_cons.mp q with q | q
      · rw [q, hp] at e; cases e
      · exact nr q) (Reps.reserve hp r)
  | .scr e nb nr => .scr e nb (fun q => by
      rcases List.mem_cons.mp q with q | q
      · rw [q, hp] at e; cases e
      · exact nr q)
  | .scrK h => .scrK h
theorem Reps.reserve {β res : List Addr} {H : Hp} {p : Addr} (hp : H p = none) {ds : List D} {vs : List V} : Reps fa β res H ds vs → Reps fa β (p :: res) H ds vs
  | .nil => .nil
  | .cons r q => .cons (Rep.reserve hp r) (Reps.reserve hp q)
end
mutual
theorem Rep.unreserve {β res : List Addr} {H : Hp} {p : Addr} {d : D} {v : V} : Rep fa β (p :: res) H d v → Rep fa β res H d v
  | .non => .non
  | .bl b => .bl b
  | .int i => .int i
  | .str x => .str x
  | .ty t => .ty t
  | .fn k => .fn k
  | .ref e => .ref e
  | .tup e nb nr r => .tup e nb (fun q => nr (List.mem_cons_of_mem _ q)) (Reps.unreserve r)
  | .lst e nb nr r => .lst e nb (fun q => nr (List.mem_cons_of_mem _ q)) (Reps.unreserve r)
  | .scr e nb nr => .scr e nb (fun q => nr (List.mem_cons_of_mem _ q))
  | .scrK h => .scrK h
theorem Reps.unreserve {β res : List Addr} {H : Hp} {p : Addr} {ds : List D} {vs : List V} : Reps fa β (p :: res) H ds vs → Reps fa β res H ds vs
  | .nil => .nil
  | .cons r q => .cons (Rep.unreserve r) (Reps.unreserve q)
end
theorem Reps.length {β res : List Addr} {H : Hp} : ∀ {ds : List D} {vs : List V}, Reps fa β res H ds vs → ds.length = vs.length
  | _, _, .nil => rfl
  | _, _, .cons _ q => by simp [q.length]
theorem Reps.get {β res : List Addr} {H : Hp} : ∀ {ds : List D} {vs : List V} {i : Nat} {d : D}, Reps fa β res H ds vs → ds[i]? = some d → ∃ v, vs[i]? = some v ∧ Rep fa β res H d v
  | _, _, _, _, .nil, h => by simp at h
  | _, _, 0, _, .cons r _, h => by simp at h; subst h; exact ⟨_, rfl, r⟩
  | _, _, i + 1, d, .cons _ q, h => by
    obtain ⟨v, h1, h2⟩ := Reps.get (i := i) (d := d) q (by simpa using h)
    exact ⟨v, by simpa using h1, h2⟩
theorem Reps.getV {β res : List Addr} {H : Hp} : ∀ {ds : List D} {vs : List V} {i : Nat} {v : V}, Reps fa β res H ds vs → vs[i]? = some v → ∃ d, ds[i]? = some d ∧ Rep fa β res H d v
  | _, _, _, _, .nil, h => by simp at h
  | _, _, 0, _, .cons r _, h => by simp at h; subst h; exact ⟨_, rfl, r⟩
  | _, _, i + 1, v, .cons _ q, h => by
    obtain ⟨d, h1, h2⟩ := Reps.getV (i := i) (v := v) q (by simpa using h)
    exact ⟨d, by simpa using h1, h2⟩
theorem Reps.append {β res : List Addr} {H : Hp} : ∀ {ds es : List D} {vs ws : List V}, Reps fa β res H ds vs → Reps fa β res H es ws → Reps fa β res H (ds ++ es) (vs ++ ws)
  | _, _, _, _, .nil, s => s
  | _, _, _, _, .cons r t, s => .cons r (Reps.append t s)
theorem Reps.take {β res : List Addr} {H : Hp} : ∀ {ds : List D} {vs : List V} (n : Nat), Reps fa β res H ds vs → Reps fa β res H (ds.take n) (vs.take n)
  | _, _, 0, _ => by simp; exact .nil
  | _, _, _ + 1, .nil => by simp; exact .nil
  | _, _, n + 1, .cons r t => .cons r (Reps.take n t)
theorem Reps.drop {β res : List Addr} {H : Hp} : ∀ {ds : List D} {vs : List V} (n : Nat), Reps fa β res H ds vs → Reps fa β res H (ds.drop n) (vs.drop n)
  | _, _, 0, r => r
  | _, _, _ + 1, .nil => by simp; exact .nil
  | _, _, n + 1, .cons _ t => Reps.drop n t
theorem Reps.reverse {β res : List Addr} {H : Hp} : ∀ {ds : List D} {vs : List V}, Reps fa β res H ds vs → Reps fa β res H ds.reverse vs.reverse
  | _, _, .nil => .nil
  | _, _, .cons r t => by
    rw [List.reverse_cons, List.reverse_cons]
    exact (Reps.reverse t).append (.cons r .nil)
theorem Reps.set {β res : List Addr} {H : Hp} {d : D} {v : V} (r : Rep fa β res H d v) : ∀ {ds : List D} {vs : List V} (i : Nat), Reps fa β res H ds vs → Reps fa β res H (ds.set i d) (vs.set i v)
  | _, _, _, .nil => .nil
  | _, _, 0, .cons _ t => .cons r t
  | _, _, i + 1, .cons q t => .cons q (Reps.set r i t)
theorem Reps.eraseIdx {β res : List Addr} {H : Hp} : ∀ {ds : List D} {vs : List V} (i : Nat), Reps fa β res H ds vs → Reps fa β res H (ds.eraseIdx i) (vs.eraseIdx i)
  | _, _, _, .nil => .nil
  | _, _, 0, .cons _ t => t
  | _, _, i + 1, .cons q t => .cons q (Reps.eraseIdx i t)
theorem Reps.dropLast {β res : List Addr} {H : Hp} : ∀ {ds : List D} {vs : List V}, Reps fa β res H ds vs → Reps fa β res H ds.dropLast vs.dropLast
  | _, _, .nil => .nil
  | _, _, .cons q .nil => .nil
  | _, _, .cons q (.cons r t) => .cons q (Reps.dropLast (.cons r t))
end

section
variable (fa : FA)
inductive RepKV (β res : List Addr) (H : Hp) : List (Key × D) → List (Key × V) → Prop where
  | nil : RepKV β res H [] []
  | cons {k : Key} {d : D} {v : V} {ds : List (Key × D)} {vs : List (Key × V)} : Rep fa β res H d v → RepKV β res H ds vs → RepKV β res H ((k, d) :: ds) ((k, v) :: vs)
inductive RepO (β res : List Addr) (H : Hp) : MO → HO → Prop where
  | lst {ds : List D} {vs : List V} : Reps fa β res H ds vs → RepO β res H (.lst ds) (.lst vs)
  | dict {ds : List (Key × D)} {vs : List (Key × V)} : RepKV fa β res H ds vs → RepO β res H (.dict ds) (.dK vs)
structure Sim (β res : List Addr) (M : MH) (H : Hp) : Prop where
  len : β.length = M.length
  nd : β.Nodup
  nr : ∀ a ∈ β, a ∉ res
  rt : ∀ a ∈ res, H a ≠ none
  at_ : ∀ (n : Nat) (a : Addr) (o : MO), β[n]? = some a → M[n]? = some o → ∃ ho, H a = some ho ∧ RepO fa β res H o ho
/-- the frame's slots -/
structure RepS (β res : List Addr) (H : Hp) (ρ : Rho) (σ : L2.St) : Prop where
  len : ρ.length = σ.length
  at_ : ∀ (i : Nat) (d : D), ρ[i]? = some (some d) → ∃ v, σ[i]? = some (some v) ∧ Rep fa β res H d v
end
section
variable {fa : FA}
theorem RepKV.step {mv β res β' : List Addr} {H H' : Hp} : ∀ {ds : List (Key × D)} {vs : List (Key × V)}, RepKV fa β res H ds vs → Step mv β H β' H' → (∀ a ∈ mv, a ∈ res) → RepKV fa β' res H' ds vs
  | _, _, .nil, _, _ => .nil
  | _, _, .cons r q, s, hm => .cons (r.step s hm) (RepKV.step q s hm)
theorem RepO.step {mv β res β' : List Addr} {H H' : Hp} {o : MO} {ho : HO} (r : RepO fa β res H o ho) (s : Step mv β H β' H') (hm : ∀ a ∈ mv, a ∈ res) : RepO fa β' res H' o ho := by
  cases r with
  | lst r => exact .lst (r.step s hm)
  | dict r => exact .dict (r.step s hm)
theorem RepKV.reserve {β res : List Addr} {H : Hp} {p : Addr} (hp : H p = none) : ∀ {ds : List (Key × D)} {vs : List (Key × V)}, RepKV fa β res H ds vs → RepKV fa β (p :: res) H ds vs
  | _, _, .nil => .nil
  | _, _, .cons r q => .cons (r.reserve hp) (RepKV.reserve hp q)
theorem RepKV.unreserve {β res : List Addr} {H : Hp} {p : Addr} : ∀ {ds : List (Key × D)} {vs : List (Key × V)}, RepKV fa β (p :: res) H ds vs → RepKV fa β res H ds vs
  | _, _, .nil => .nil
  | _, _, .cons r q => .cons r.unreserve (RepKV.unreserve q)
theorem RepS.step {mv β res β' : List Addr} {H H' : Hp} {ρ : Rho} {σ : L2.St} (r : RepS fa β res H ρ σ) (s : Step mv β H β' H') (hm : ∀ a ∈ mv, a ∈ res) : RepS fa β' res H' ρ σ :=
  ⟨r.len, fun i d e => let ⟨v, h1, h2⟩ := r.at_ i d e; ⟨v, h1, h2.step s hm⟩⟩
theorem RepS.set {β res : List Addr} {H : Hp} {ρ : Rho} {σ : L2.St} {d : D} {v : V} (r : RepS fa β res H ρ σ) (i : Nat) (q : Rep fa β res H d v) : RepS fa β res H (ρ.set i (some d)) (σ.set i (some v)) := by
  refine ⟨by simp [r.len], fun j e h => ?_⟩
  by_cases hj : i = j
  · subst hj
    by_cases hl : i < ρ.length
    · rw [List.getElem?_set_self hl] at h
      cases h
      exact ⟨v, by rw [List.getElem?_set_self (by rw [← r.len]; exact hl)], q⟩
    · rw [List.getElem?_eq_none (by simp; omega)] at h; cases h
  · rw [List.getElem?_set_ne hj] at h
    obtain ⟨w, h1, h2⟩ := r.at_ j e h
    exact ⟨w, by rw [List.getElem?_set_ne hj]; exact h1, h2⟩
theorem Sim.there {β res : List Addr} {M : MH} {H : Hp} (s : Sim fa β res M H) {a : Addr} (h : a ∈ β) : H a ≠ none := by
  obtain ⟨n, hn, e⟩ := List.getElem_of_mem h
  obtain ⟨ho, e1, _⟩ := s.at_ n a (M[n]'(by rw [← s.len]; exact hn)) (by rw [← e]; exact List.getElem?_eq_getElem hn) (List.getElem?_eq_getElem _)
  rw [e1]; simp
theorem Sim.fresh {β res : List Addr} {M : MH} {H : Hp} (s : Sim fa β res M H) {p : Addr} (h : H p = none) : p ∉ β := fun q => s.there q h
theorem Sim.get {β res : List Addr} {M : MH} {H : Hp} (s : Sim fa β res M H) {n : Nat} {o : MO} (h : M[n]? = some o) : ∃ a ho, β[n]? = some a ∧ H a = some ho ∧ RepO fa β res H o ho := by
  have hn : n < β.length := by rw [s.len]; exact (List.getElem?_eq_some_iff.mp h).1
  obtain ⟨ho, e1, e2⟩ := s.at_ n β[n] o (List.getElem?_eq_getElem hn) h
  exact ⟨β[n], ho, List.getElem?_eq_getElem hn, e1, e2⟩
theorem step_new {mv β : List Addr} {H : Hp} {p : Addr} {o : HO} (hp : H p = none) : Step mv β H β (upd H p o) :=
  ⟨⟨[], by simp, fun _ h => by cases h⟩, fun a u e _ _ => by rw [upd_ne (ne_of_none e hp)]; exact e, fun a h => by
    by_cases q : a = p
    · subst q; exact absurd hp h
    · rw [upd_ne q]; exact h⟩
/-- a new object that nobody changes -/
theorem Sim.new {β res : List Addr} {M : MH} {H : Hp} {p : Addr} {o : HO} (s : Sim fa β res M H) (hp : H p = none) : Sim fa β res M (upd H p o) :=
  ⟨s.len, s.nd, s.nr, fun a h => (step_new (mv := []) (β := β) hp).dom a (s.rt a h), fun n a mo e1 e2 => by
    obtain ⟨ho, h1, h2⟩ := s.at_ n a mo e1 e2
    exact ⟨ho, by rw [upd_ne (ne_of_none h1 hp)]; exact h1, h2.step (mv := []) (step_new hp) (by simp)⟩⟩
/-- a new object that may change -/
theorem step_newM {mv β : List Addr} {H : Hp} {p : Addr} {o : HO} (hp : H p = none) : Step mv β H (β ++ [p]) (upd H p o) :=
  ⟨⟨[p], rfl, fun a h => by rw [List.mem_singleton.mp h]; exact hp⟩, (step_new (mv := mv) (β := β) hp).keep, (step_new (mv := mv) (β := β) hp).dom⟩
theorem Sim.newM {β res : List Addr} {M : MH} {H : Hp} {p : Addr} {o : MO} {ho : HO} (s : Sim fa β res M H) (hp : H p = none) (r : RepO fa β res H o ho) : Sim fa (β ++ [p]) res (M ++ [o]) (upd H p ho) := by
  refine ⟨by simp [s.len], ?_, fun a h => ?_, fun a h => (step_new (mv := []) (β := β) hp).dom a (s.rt a h), fun n a mo e1 e2 => ?_⟩
  · rw [List.nodup_append]
    exact ⟨s.nd, by simp, fun a h b h' q => by rw [List.mem_singleton.mp h'] at q; subst q; exact s.fresh hp h⟩
  · rcases List.mem_append.mp h with h | h
    · exact s.nr a h
    · rw [List.mem_singleton.mp h]; exact fun q => s.rt p q hp
  · by_cases hn : n < β.length
    · rw [List.getElem?_append_left hn] at e1
      rw [List.getElem?_append_left (by rw [← s.len]; exact hn)] at e2
      obtain ⟨ho', h1, h2⟩ := s.at_ n a mo e1 e2
      exact ⟨ho', by rw [upd_ne (ne_of_none h1 hp)]; exact h1, h2.step (mv := []) (step_newM hp) (by simp)⟩
    · have en : n = β.length := by
        have := (List.getElem?_eq_some_iff.mp e1).1
        simp at this
        omega
      subst en
      rw [List.getElem?_append_right (Nat.le_refl _)] at e1
      rw [s.len, List.getElem?_append_right (Nat.le_refl _)] at e2
      simp at e1 e2
      subst e1 e2
      exact ⟨ho, upd_same, r.step (mv := []) (step_newM hp) (by simp)⟩
theorem step_write {mv β : List Addr} {H : Hp} {a : Addr} {o : HO} (h : a ∈ β) : Step mv β H β (upd H a o) :=
  ⟨⟨[], by simp, fun _ h => by cases h⟩, fun b u e nb _ => by rw [upd_ne (fun q => nb (by rw [q]; exact h))]; exact e, fun b hb => by
    by_cases q : b = a
    · subst q; rw [upd_same]; simp
    · rw [upd_ne q]; exact hb⟩
/-- an object changed -/
theorem Sim.write {β res : List Addr} {M : MH} {H : Hp} {n : Nat} {a : Addr} {o : MO} {ho : HO} (s : Sim fa β res M H) (e : β[n]? = some a) (r : RepO fa β res H o ho) : Sim fa β res (M.set n o) (upd H a ho) := by
  have hm : a ∈ β := List.mem_of_getElem? e
  refine ⟨by simp [s.len], s.nd, s.nr, fun c h => (step_write (mv := []) hm).dom c (s.rt c h), fun m b mo e1 e2 => ?_⟩
  by_cases q : n = m
  · subst q
    rw [e] at e1; cases e1
    have hl : n < M.length := by rw [← s.len]; exact (List.getElem?_eq_some_iff.mp e).1
    rw [List.getElem?_set_self hl] at e2
    cases e2
    exact ⟨ho, upd_same, r.step (mv := []) (step_write hm) (by simp)⟩
  · rw [List.getElem?_set_ne q] at e2
    obtain ⟨ho', h1, h2⟩ := s.at_ m b mo e1 e2
    have hne : b ≠ a := fun z => by
      subst z
      obtain ⟨l1, q1⟩ := List.getElem?_eq_some_iff.mp e
      obtain ⟨l2, q2⟩ := List.getElem?_eq_some_iff.mp e1
      exact q ((List.getElem_inj s.nd).mp (q1.trans q2.symm))
    exact ⟨ho', by rw [upd_ne hne]; exact h1, h2.step (mv := []) (step_write hm) (by simp)⟩
/-- a reserved (or any tracked, not counted) address changed -/
theorem step_mv {β : List Addr} {H : Hp} {p : Addr} {o : HO} : Step [p] β H β (upd H p o) :=
  ⟨⟨[], by simp, fun _ h => by cases h⟩, fun b u e _ nm => by rw [upd_ne (fun q => nm (by rw [q]; simp))]; exact e, fun b hb => by
    by_cases q : b = p
    · subst q; rw [upd_same]; simp
    · rw [upd_ne q]; exact hb⟩
theorem Sim.mvd {β res : List Addr} {M : MH} {H : Hp} {p : Addr} {o : HO} (s : Sim fa β res M H) (hp : p ∈ res) : Sim fa β res M (upd H p o) :=
  ⟨s.len, s.nd, s.nr, fun c h => (step_mv (β := β)).dom c (s.rt c h), fun n a mo e1 e2 => by
    obtain ⟨ho, h1, h2⟩ := s.at_ n a mo e1 e2
    have hne : a ≠ p := fun z => s.nr a (List.mem_of_getElem? e1) (z ▸ hp)
    exact ⟨ho, by rw [upd_ne hne]; exact h1, h2.step (mv := [p]) step_mv (by intro x hx; rw [List.mem_singleton.mp hx]; exact hp)⟩⟩
theorem Rep.hold {β res : List Addr} {H : Hp} {p : Addr} {o : HO} {d : D} {v : V} (r : Rep fa β res H d v) (hp : H p = none) : Rep fa β (p :: res) (upd H p o) d v := (r.reserve hp).step (mv := []) (step_new hp) (by simp)
theorem Sim.hold {β res : List Addr} {M : MH} {H : Hp} {p : Addr} {o : HO} (s : Sim fa β res M H) (hp : H p = none) : Sim fa β (p :: res) M (upd H p o) :=
  ⟨s.len, s.nd, fun a h q => by
    rcases List.mem_cons.mp q with q | q
    · subst q; exact s.fresh hp h
    · exact s.nr a h q, fun a h => by
    rcases List.mem_cons.mp h with q | q
    · subst q; rw [upd_same]; simp
    · exact (step_new (mv := []) (β := β) hp).dom a (s.rt a q), fun n a mo e1 e2 => by
    obtain ⟨ho, h1, h2⟩ := (s.new (o := o) hp).at_ n a mo e1 e2
    refine ⟨ho, h1, ?_⟩
    obtain ⟨ho', h1', h2'⟩ := s.at_ n a mo e1 e2
    have e : ho = ho' := by
      rw [upd_ne (ne_of_none h1' hp), h1'] at h1
      exact (Option.some.inj h1).symm
    subst e
    cases h2' with
    | lst r => exact .lst ((r.reserve hp).step (mv := []) (step_new hp) (by simp))
    | dict r => exact .dict ((r.reserve hp).step (mv := []) (step_new hp) (by simp))⟩
theorem Sim.unreserve {β res : List Addr} {M : MH} {H : Hp} {p : Addr} (s : Sim fa β (p :: res) M H) : Sim fa β res M H :=
  ⟨s.len, s.nd, fun a h q => s.nr a h (List.mem_cons_of_mem _ q), fun a h => s.rt a (List.mem_cons_of_mem _ h), fun n a mo e1 e2 => by
    obtain ⟨ho, h1, h2⟩ := s.at_ n a mo e1 e2
    refine ⟨ho, h1, ?_⟩
    cases h2 with
    | lst r => exact .lst r.unreserve
    | dict r => exact .dict r.unreserve⟩
theorem RepS.hold {β res : List Addr} {H : Hp} {ρ : Rho} {σ : L2.St} {p : Addr} {o : HO} (r : RepS fa β res H ρ σ) (hp : H p = none) : RepS fa β (p :: res) (upd H p o) ρ σ :=
  ⟨r.len, fun i d e => let ⟨v, h1, h2⟩ := r.at_ i d e; ⟨v, h1, h2.hold hp⟩⟩
theorem Reps.hold {β res : List Addr} {H : Hp} {ds : List D} {vs : List V} {p : Addr} {o : HO} (r : Reps fa β res H ds vs) (hp : H p = none) : Reps fa β (p :: res) (upd H p o) ds vs := (r.reserve hp).step (mv := []) (step_new hp) (by simp)
end
end Mi
/-! Mi2: the small syntax and its evaluation. -/
namespace Mi
open PySem PySem.Spec PyProof.Rows L2

/-! ### operations on data -/
def getL (M : MH) : D → Option (List D)
  | .lst xs => some xs
  | .ref n => match M[n]? with
    | some (.lst xs) => some xs
    | _ => none
  | _ => none
def getDict (M : MH) : D → Option (List (Key × D))
  | .ref n => match M[n]? with
    | some (.dict kvs) => some kvs
    | _ => none
  | _ => none
def newL (m : Bool) (ds : List D) (M : MH) : Res D := if m = true then .ok (.ref M.length) (M ++ [.lst ds]) else .ok (.lst ds) M
def numD : D → Option Int
  | .int i => some i
  | .bl b => some (if b = true then 1 else 0)
  | _ => none
mutual
def py0 : D → Option PyData
  | .non => some .none
  | .bl b => some (.bool b)
  | .int i => some (.int i)
  | .str x => some (.str x)
  | .tup xs => match py0s xs with
    | some ps => some (.tuple ps)
    | none => none
  | .lst xs => match py0s xs with
    | some ps => some (.list ps)
    | none => none
  | _ => none
def py0s : List D → Option (List PyData)
  | [] => some []
  | d :: ds => match py0 d, py0s ds with
    | some p, some ps => some (p :: ps)
    | _, _ => none
end
def pyM (M : MH) (d : D) : Option PyData := match d with
  | .ref n => match M[n]? with
    | some (.lst xs) => (match py0s xs with
      | some ps => some (.list ps)
      | none => none)
    | _ => none
  | d => py0 d
def eqD (M : MH) (a b : D) : Option Bool := match pyM M a, pyM M b with
  | some p, some q => if (SeqAt.shaped p && SeqAt.shaped q) = true then some (PyData.eqv p q) else none
  | _, _ => none
/-- == : two texts by their signs -/
def eqS (M : MH) (a b : D) : Option Bool := match a, b with
  | .str x, .str y => some (decide (x = y))
  | a, b => eqD M a b
def ltS (a b : Str) : Bool := decide (a.cps.toList < b.cps.toList)
def keyOf : D → Option Key
  | .int i => some (.inl i)
  | .str x => some (.inr x)
  | _ => none
def inD (M : MH) (a b : D) : Option Bool := match a, b with
  | .str x, .str y => some (!(Builtin.Str.occurrences y x 0 y.length 1).isEmpty)
  | a, b => match py0 a, pyM M b with
    | some p, some (.list qs) => if (SeqAt.shaped p && SeqAt.shaped (.list qs)) = true then some (qs.any fun z => PyData.eqv z p) else none
    | _, _ => none
def mulOk (i j : Int) : Bool := (decide (-(2 ^ 64) < i) && decide (i < 2 ^ 64)) || (decide (-(2 ^ 64) < j) && decide (j < 2 ^ 64))
def resO (M : MH) : Option D → Res D
  | some d => .ok d M
  | none => .bad
def binD (m : Bool) (o : Operator) (a b : D) (M : MH) : Res D := match o with
  | .Add => match a, b with
    | .str x, .str y => if x.length + y.length ≤ sizeLine then .ok (.str (x ++ y)) M else .bad
    | .tup xs, .tup ys => if xs.length + ys.length ≤ sizeLine then .ok (.tup (xs ++ ys)) M else .bad
    | a, b => match numD a, numD b with
      | some i, some j => .ok (.int (i + j)) M
      | _, _ => match getL M a, getL M b with
        | some xs, some ys => if xs.length + ys.length ≤ sizeLine then newL m (xs ++ ys) M else .bad
        | _, _ => .bad
  | .Sub => match numD a, numD b with
    | some i, some j => .ok (.int (i - j)) M
    | _, _ => .bad
  | .Mult => match a, b with
    | .int i, .int j => if mulOk i j = true then .ok (.int (i * j)) M else .bad
    | .str x, .int j => if 0 ≤ j ∧ j < 100000 ∧ x.length < 100 then .ok (.str (Txt.mul x j)) M else .bad
    | a, .int j => (match getL M a with
      | some xs => if (0 ≤ j ∧ j < 1000) ∧ xs.length * j.toNat ≤ sizeLine then newL m (List.replicate j.toNat xs).flatten M else .bad
      | none => .bad)
    | _, _ => .bad
  | .FloorDiv => match a, b with
    | .int i, .int j => if 0 < j ∧ j < 1073741824 then .ok (.int (i / j)) M else .bad
    | _, _ => .bad
  | .Mod => match a, b with
    | .int i, .int j => if 0 < j then .ok (.int (i % j)) M else .bad
    | _, _ => .bad
  | .Pow => match a, b with
    | .int i, .int j => if (0 ≤ j ∧ j ≤ 1000000) ∧ i.natAbs < 2 ^ 64 then .ok (.int (i ^ j.toNat)) M else .bad
    | _, _ => .bad
  | _ => .bad
def cmpD (o : CmpOp) (a b : D) (M : MH) : Option Bool := match o with
  | .Eq => eqS M a b
  | .NotEq => (eqS M a b).map (!·)
  | .Lt => match a, b with
    | .int i, .int j => some (decide (i < j))
    | .str x, .str y => some (ltS x y)
    | _, _ => none
  | .LtE => match a, b with
    | .int i, .int j => some (decide (i ≤ j))
    | .str x, .str y => some (!ltS y x)
    | _, _ => none
  | .Gt => match a, b with
    | .int i, .int j => some (decide (j < i))
    | .str x, .str y => some (ltS y x)
    | _, _ => none
  | .GtE => match a, b with
    | .int i, .int j => some (decide (j ≤ i))
    | .str x, .str y => some (!ltS x y)
    | _, _ => none
  | .In => inD M a b
  | .NotIn => (inD M a b).map (!·)
  | .Is => match b with
    | .non => match a with
      | .non => some true
      | _ => some false
    | _ => none
  | .IsNot => match b with
    | .non => match a with
      | .non => some false
      | _ => some true
    | _ => none
def truD (M : MH) : D → Option Bool
  | .non => some false
  | .bl b => some b
  | .int i => some (i != 0)
  | .str x => if x.length ≤ sizeLine then some ((x.length : Int) != 0) else none
  | .tup xs => some (!xs.isEmpty)
  | .lst xs => some (!xs.isEmpty)
  | .ref n => match M[n]? with
    | some (.lst xs) => some (!xs.isEmpty)
    | some (.dict kvs) => some (!kvs.isEmpty)
    | none => none
  | _ => none
def lookK (kvs : List (Key × D)) (k : Key) : Option D := (kvs.find? fun kv => decide (kv.1 = k)).map (·.2)
def putD (kvs : List (Key × D)) (k : Key) (d : D) : List (Key × D) :=
  if (kvs.any fun kv => decide (kv.1 = k)) = true then kvs.map (fun kv => if kv.1 = k then (kv.1, d) else kv) else kvs ++ [(k, d)]
def idxD (a i : D) (M : MH) : Option D := match a, i with
  | .str x, .int k => if x.length ≤ sizeLine then (atI x.cps.toList k).map fun c => .str ⟨#[c]⟩ else none
  | .tup xs, .int k => atI xs k
  | a, i => match getL M a, i with
    | some xs, .int k => atI xs k
    | _, _ => match getDict M a, keyOf i with
      | some kvs, some k => lookK kvs k
      | _, _ => none
def cutD (xs : List D) (lo hi : Option Int) : List D := (xs.drop (HT.sIx xs.length 0 lo)).take (HT.sIx xs.length xs.length hi - HT.sIx xs.length 0 lo)
def optI : Option D → Option (Option Int)
  | none => some none
  | some (.int i) => some (some i)
  | _ => none
def sliceD (m : Bool) (a : D) (lo hi : Option Int) (M : MH) : Res D := match a with
  | .str x => if x.length ≤ sizeLine then .ok (.str (cutS x lo hi)) M else .bad
  | .tup xs => .ok (.tup (cutD xs lo hi)) M
  | .scr ns => newL m (cutD (ns.map D.int) lo hi) M
  | a => match getL M a with
    | some xs => newL m (cutD xs lo hi) M
    | none => .bad
/-- a[lo:hi:st] of a list -/
def pickD {α : Type} (xs : List α) (lo hi st : Option Int) : List α :=
  (sliceRange (sliceBounds lo hi st xs.length).1 (sliceBounds lo hi st xs.length).2.1 (sliceBounds lo hi st xs.length).2.2).filterMap (xs[·]?)
def isiD (a : D) (t : String) : Option Bool :=
  if t = "int" then (match a with | .int _ => some true | .bl _ => some true | .fn _ => none | .ref _ => none | .ty _ => none | .scr _ => none | _ => some false)
  else if t = "bool" then (match a with | .bl _ => some true | .fn _ => none | .ref _ => none | .ty _ => none | .scr _ => none | _ => some false)
  else if t = "str" then (match a with | .str _ => some true | .fn _ => none | .ref _ => none | .ty _ => none | .scr _ => none | _ => some false)
  else if t = "tuple" then (match a with | .tup _ => some true | .fn _ => none | .ref _ => none | .ty _ => none | .scr _ => none | _ => some false)
  else if t = "list" then (match a with | .lst _ => some true | .fn _ => none | .ref _ => none | .ty _ => none | .scr _ => none | _ => some false)
  else none
def boolsOf : List D → Option (List Bool)
  | [] => some []
  | .bl b :: r => (boolsOf r).map (b :: ·)
  | _ => none
def strsOf : List D → Option (List Str)
  | [] => some []
  | .str x :: r => (strsOf r).map (x :: ·)
  | _ => none
def insS (x : Str) : List Str → List Str
  | [] => [x]
  | y :: r => if ltS y x = true then y :: insS x r else x :: y :: r
def sortS : List Str → List Str
  | [] => []
  | x :: r => insS x (sortS r)
def pairsOf : List D → Option (List (Key × D))
  | [] => some []
  | .tup [k, v] :: r => match keyOf k, pairsOf r with
    | some k, some r => some ((k, v) :: r)
    | _, _ => none
  | _ => none
def keysS : List (Key × D) → Option (List Str)
  | [] => some []
  | (.inr x, _) :: r => (keysS r).map (x :: ·)
  | _ => none
/-- calls of built-ins -/
def biLen (as : List D) (M : MH) : Res D := match as with
  | [.str x] => if x.length ≤ sizeLine then .ok (.int x.length) M else .bad
  | [.tup xs] => .ok (.int xs.length) M
  | [a] => (match getL M a with
    | some xs => .ok (.int xs.length) M
    | none => .bad)
  | _ => .bad
def biIsi (as : List D) (M : MH) : Res D := match as with
  | [a, .ty t] => resO M ((isiD a t).map D.bl)
  | _ => .bad
def biInt (as : List D) (M : MH) : Res D := match as with
  | [a] => resO M ((numD a).map D.int)
  | _ => .bad
def biStr (as : List D) (M : MH) : Res D := match as with
  | [.int i] => if i.natAbs.log2 < 1920 then .ok (.str (toString i)) M else .bad
  | [.bl b] => .ok (.str (if b then "True" else "False")) M
  | [.str x] => .ok (.str x) M
  | _ => .bad
def biOrd (as : List D) (M : MH) : Res D := match as with
  | [.str x] => if x.length = 1 then .ok (.int (x.cps.getD 0 0 : Nat)) M else .bad
  | _ => .bad
def biAll (as : List D) (M : MH) : Res D := match as with
  | [a] => (match (getL M a).bind boolsOf with
    | some bs => .ok (.bl (bs.all id)) M
    | none => .bad)
  | _ => .bad
def biList (m : Bool) (as : List D) (M : MH) : Res D := match as with
  | [.tup xs] => newL m xs M
  | [a] => (match getL M a with
    | some xs => newL m xs M
    | none => .bad)
  | _ => .bad
def biTuple (as : List D) (M : MH) : Res D := match as with
  | [.tup xs] => .ok (.tup xs) M
  | [a] => (match getL M a with
    | some xs => .ok (.tup xs) M
    | none => .bad)
  | _ => .bad
def biDict (as : List D) (M : MH) : Res D := match as with
  | [a] => (match (getL M a).bind pairsOf with
    | some kvs => .ok (.ref M.length) (M ++ [.dict (kvs.foldl (fun acc kv => putD acc kv.1 kv.2) [])])
    | none => .bad)
  | _ => .bad
def biSorted (m : Bool) (as : List D) (M : MH) : Res D := match as with
  | [a] => (match (getL M a).bind strsOf with
    | some xs => if xs.length < 64 then newL m ((sortS xs).map D.str) M else .bad
    | none => (match (getDict M a).bind keysS with
      | some ks => if ks.length < 64 then newL m ((sortS ks).map D.str) M else .bad
      | none => .bad))
  | _ => .bad
def isTree : D → Bool
  | .ref _ => true
  | .lst _ => true
  | .tup _ => true
  | _ => false
def reprD (a : D) (M : MH) : Option Str := if isTree a = true then (match pyM M a with
    | some p => if (p.showable && decide (p.depth ≤ 60) && decide (p.shown.length ≤ sizeLine)) = true then some p.shown else none
    | none => none) else none
def biRepr (as : List D) (M : MH) : Res D := match as with
  | [a] => resO M ((reprD a M).map D.str)
  | _ => .bad
def biD (m : Bool) (f : String) (as : List D) (M : MH) : Res D :=
  if f = "len" then biLen as M
  else if f = "isinstance" then biIsi as M
  else if f = "int" then biInt as M
  else if f = "str" then biStr as M
  else if f = "ord" then biOrd as M
  else if f = "all" then biAll as M
  else if f = "list" then biList m as M
  else if f = "tuple" then biTuple as M
  else if f = "dict" then biDict as M
  else if f = "sorted" then biSorted m as M
  else if f = "repr" then biRepr as M
  else .bad
/-- methods -/
def mtAppend (o : D) (as : List D) (M : MH) : Res D := match o, as with
  | .ref n, [y] => (match M[n]? with
    | some (.lst xs) => if xs.length < sizeLine then .ok .non (M.set n (.lst (xs ++ [y]))) else .bad
    | _ => .bad)
  | _, _ => .bad
def mtExtend (o : D) (as : List D) (M : MH) : Res D := match o, as with
  | .ref n, [b] => (match M[n]?, getL M b with
    | some (.lst xs), some ys => if xs.length + ys.length ≤ sizeLine then .ok .non (M.set n (.lst (xs ++ ys))) else .bad
    | _, _ => .bad)
  | _, _ => .bad
def mtPop (o : D) (as : List D) (M : MH) : Res D := match o, as with
  | .ref n, [.int i] => (match M[n]? with
    | some (.lst xs) => if 0 ≤ i ∧ i < xs.length ∧ xs.length ≤ sizeLine then (match xs[i.toNat]? with
      | some y => .ok y (M.set n (.lst (xs.eraseIdx i.toNat)))
      | none => .bad) else .bad
    | _ => .bad)
  | _, _ => .bad
def mtUpper (o : D) (as : List D) (M : MH) : Res D := match o, as with
  | .str x, [] => if x.length ≤ 5592405 then .ok (.str (Txt.upper x)) M else .bad
  | _, _ => .bad
/-- the kind of thing that has the method -/
def mtKind (f : String) (o : D) (M : MH) : Bool := if f = "upper" then (match o with | .str _ => true | _ => false) else (getL M o).isSome
def mtD (f : String) (o : D) (as : List D) (M : MH) : Res D :=
  if f = "append" then mtAppend o as M
  else if f = "extend" then mtExtend o as M
  else if f = "pop" then mtPop o as M
  else if f = "upper" then mtUpper o as M
  else .bad

/-! ### syntax -/
/-- targets -/
inductive Tg where
  | name (i : Nat) | tup (is : List Nat)
mutual
inductive C where
  | var (i : Nat)
  | const (d : D)
  | glob (x : Str) (d : D)
  | bin (m : Bool) (o : Operator) (a b : C)
  | neg (a : C)
  | not (a : C)
  | and (as : Cs)
  | or (as : Cs)
  | cmp (o : CmpOp) (a b : C)
  | chain (o o' : CmpOp) (a b c : C)
  | ife (c a b : C)
  | tup (es : Cs)
  | lst (m : Bool) (es : Cs)
  | dict (ks : List Str) (vs : Cs)
  | idx (a i : C)
  | slice (m : Bool) (a : C) (lo hi : Co)
  | revT (a : C)
  | stepL (m : Bool) (a lo : C) (n : Nat)
  | call (k : Nat) (as : Cs)
  | callV (i : Nat) (as : Cs)
  | callK (k : Nat) (x : Str) (a : C)
  | bi (m : Bool) (f : String) (as : Cs)
  | meth (f : String) (o : C) (as : Cs)
  | comp (m : Bool) (elt : C) (tg : Tg) (it : It) (ifs : Co)
inductive Cs where
  | nil | cons (c : C) (r : Cs)
inductive Co where
  | none | some (c : C)
inductive It where
  | seq (c : C)
  | rng1 (a : C)
  | rng2 (a b : C)
  | zip (a b : C)
end
mutual
inductive S where
  | set (i : Nat) (e : C)
  | par (i j : Nat) (a b : C)
  | setIx (o : C) (k : Str) (e : C)
  | expr (e : C)
  | ret (e : C)
  | ifs (c : C) (a b : Ss)
  | for_ (tg : Tg) (it : It) (body : Ss)
inductive Ss where
  | nil | cons (s : S) (r : Ss)
end

/-- what a loop walks -/
inductive Src where
  | vals (xs : List D)
  | live (n : Nat) (len : Nat)
  | zipL (xs ys : List D)
inductive Got where
  | item (d : D) | stop | bad
def srcLen : Src → Nat
  | .vals xs => xs.length
  | .live _ k => k
  | .zipL xs ys => min xs.length ys.length
def srcAt (M : MH) (i : Nat) : Src → Option D
  | .vals xs => xs[i]?
  | .live n k => match M[n]? with
    | some (.lst ys) => if ys.length = k then ys[i]? else none
    | _ => none
  | .zipL xs ys => match xs[i]?, ys[i]? with
    | some x, some y => some (.tup [x, y])
    | _, _ => none
/-- at the end the list must have its length still -/
def srcEnd (M : MH) : Src → Bool
  | .vals _ => true
  | .live n k => match M[n]? with
    | some (.lst ys) => ys.length == k
    | _ => false
  | .zipL _ _ => true
def srcOf (M : MH) : D → Option Src
  | .str x => if x.length ≤ sizeLine then some (.vals (x.cps.toList.map fun c => .str ⟨#[c]⟩)) else none
  | .tup xs => some (.vals xs)
  | .lst xs => some (.vals xs)
  | .ref n => match M[n]? with
    | some (.lst ys) => some (.live n ys.length)
    | _ => none
  | _ => none
def setAll (ρ : Rho) : List Nat → List D → Option Rho
  | [], [] => some ρ
  | i :: is, d :: ds => setAll (ρ.set i (some d)) is ds
  | _, _ => none
def bindT (t : Tg) (d : D) (ρ : Rho) : Option Rho := match t with
  | .name i => some (ρ.set i (some d))
  | .tup is => match d with
    | .tup ds => setAll ρ is ds
    | _ => none
def Tg.own : Tg → List Nat
  | .name i => [i]
  | .tup is => is
def wipeR (ρ : Rho) : List Nat → Rho
  | [] => ρ
  | v :: vs => (wipeR ρ vs).set v none
inductive Fl where
  | nx (ρ : Rho) | rt (d : D)
/-- k turns of a comprehension from i on -/
def compLoop (src : Src) (bind : D → Option Rho) (cond : Rho → MH → Res Bool) (elt : Rho → MH → Res D) : Nat → Nat → List D → MH → Res (List D)
  | 0, _, acc, M => if srcEnd M src = true then .ok acc M else .bad
  | k + 1, i, acc, M => match srcAt M i src with
    | some d => (match bind d with
      | some ρ => (cond ρ M).bind fun b M1 => if b = true then (elt ρ M1).bind fun e M2 => compLoop src bind cond elt k (i + 1) (acc ++ [e]) M2 else compLoop src bind cond elt k (i + 1) acc M1
      | none => .bad)
    | none => .bad
def forLoop (src : Src) (bind : D → Rho → Option Rho) (body : Rho → MH → Res Fl) : Nat → Nat → Rho → MH → Res Fl
  | 0, _, ρ, M => if srcEnd M src = true then .ok (.nx ρ) M else .bad
  | k + 1, i, ρ, M => match srcAt M i src with
    | some d => (match bind d ρ with
      | some ρ1 => (body ρ1 M).bind fun f M1 => match f with
        | .nx ρ2 => forLoop src bind body k (i + 1) ρ2 M1
        | .rt d => .ok (.rt d) M1
      | none => .bad)
    | none => .bad
abbrev Calls := Nat → List D → MH → Res D
section
variable (cl : Calls)
mutual
def ev : C → Rho → MH → Res D
  | .var i, ρ, M => match ρ[i]? with
    | some (some d) => .ok d M
    | _ => .bad
  | .const d, _, M => .ok d M
  | .glob _ d, _, M => .ok d M
  | .bin m o a b, ρ, M => (ev a ρ M).bind fun x M1 => (ev b ρ M1).bind fun y M2 => binD m o x y M2
  | .neg a, ρ, M => (ev a ρ M).bind fun x M1 => match x with
    | .int i => .ok (.int (-i)) M1
    | _ => .bad
  | .not a, ρ, M => (ev a ρ M).bind fun x M1 => match truD M1 x with
    | some k => .ok (.bl (!k)) M1
    | none => .bad
  | .and as, ρ, M => evAnd as ρ M
  | .or as, ρ, M => evOr as ρ M
  | .cmp o a b, ρ, M => (ev a ρ M).bind fun x M1 => (ev b ρ M1).bind fun y M2 => match cmpD o x y M2 with
    | some k => .ok (.bl k) M2
    | none => .bad
  | .chain o o' a b c, ρ, M => (ev a ρ M).bind fun x M1 => (ev b ρ M1).bind fun y M2 => match cmpD o x y M2 with
    | some true => (ev c ρ M2).bind fun z M3 => (match cmpD o' y z M3 with
      | some k => .ok (.bl k) M3
      | none => .bad)
    | some false => .ok (.bl false) M2
    | none => .bad
  | .ife c a b, ρ, M => (evT c ρ M).bind fun k M1 => if k = true then ev a ρ M1 else ev b ρ M1
  | .tup es, ρ, M => (evs es ρ M).bind fun ds M1 => if ds.length ≤ sizeLine then .ok (.tup ds) M1 else .bad
  | .lst m es, ρ, M => (evs es ρ M).bind fun ds M1 => if ds.length ≤ sizeLine then newL m ds M1 else .bad
  | .dict ks vs, ρ, M => (evs vs ρ M).bind fun ds M1 => if ks.length = ds.length ∧ ks.length ≤ 15 then .ok (.ref M1.length) (M1 ++ [.dict ((ks.zip ds).foldl (fun acc kv => putD acc (.inr kv.1) kv.2) [])]) else .bad
  | .idx a i, ρ, M => (ev a ρ M).bind fun x M1 => (ev i ρ M1).bind fun y M2 => resO M2 (idxD x y M2)
  | .slice m a lo hi, ρ, M => (ev a ρ M).bind fun x M1 => (evo lo ρ M1).bind fun l M2 => (evo hi ρ M2).bind fun h M3 => match optI l, optI h with
    | some l, some h => sliceD m x l h M3
    | _, _ => .bad
  | .revT a, ρ, M => (ev a ρ M).bind fun x M1 => match x with
    | .tup xs => .ok (.tup xs.reverse) M1
    | _ => .bad
  | .stepL m a lo n, ρ, M => (ev a ρ M).bind fun x M1 => (ev lo ρ M1).bind fun l M2 => match getL M2 x, l with
    | some xs, .int i => if n ≠ 0 then newL m (pickD xs (some i) none (some (n : Int))) M2 else .bad
    | _, _ => .bad
  | .call k as, ρ, M => (evs as ρ M).bind fun ds M1 => cl k ds M1
  | .callV i as, ρ, M => match ρ[i]? with
    | some (some (.fn k)) => (evs as ρ M).bind fun ds M1 => cl k ds M1
    | _ => .bad
  | .callK k _ a, ρ, M => (ev a ρ M).bind fun x M1 => cl k [x] M1
  | .bi m f as, ρ, M => (evs as ρ M).bind fun ds M1 => biD m f ds M1
  | .meth f o as, ρ, M => (ev o ρ M).bind fun x M1 => if mtKind f x M1 = true then (evs as ρ M1).bind fun ds M2 => mtD f x ds M2 else .bad
  | .comp m elt tg it ifs, ρ, M => (evI it ρ M).bind fun src M1 =>
      (compLoop src (fun d => bindT tg d (wipeR ρ tg.own)) (evIf ifs) (ev elt) (srcLen src) 0 [] M1).bind fun ds M2 => newL m ds M2
def evT : C → Rho → MH → Res Bool
  | .not a, ρ, M => (evT a ρ M).bind fun b M1 => .ok (!b) M1
  | .and as, ρ, M => evAndT as ρ M
  | .or as, ρ, M => evOrT as ρ M
  | .cmp o a b, ρ, M => (ev a ρ M).bind fun x M1 => (ev b ρ M1).bind fun y M2 => match cmpD o x y M2 with
    | some k => .ok k M2
    | none => .bad
  | .chain o o' a b c, ρ, M => (ev a ρ M).bind fun x M1 => (ev b ρ M1).bind fun y M2 => match cmpD o x y M2 with
    | some true => (ev c ρ M2).bind fun z M3 => (match cmpD o' y z M3 with
      | some k => .ok k M3
      | none => .bad)
    | some false => .ok false M2
    | none => .bad
  | .var i, ρ, M => match ρ[i]? with
    | some (some d) => (match truD M d with
      | some k => .ok k M
      | none => .bad)
    | _ => .bad
  | .call k as, ρ, M => (evs as ρ M).bind fun ds M1 => (cl k ds M1).bind fun d M2 => match truD M2 d with
    | some k => .ok k M2
    | none => .bad
  | .callV i as, ρ, M => match ρ[i]? with
    | some (some (.fn k)) => (evs as ρ M).bind fun ds M1 => (cl k ds M1).bind fun d M2 => (match truD M2 d with
      | some k => .ok k M2
      | none => .bad)
    | _ => .bad
  | .bi m f as, ρ, M => (evs as ρ M).bind fun ds M1 => (biD m f ds M1).bind fun d M2 => match truD M2 d with
    | some k => .ok k M2
    | none => .bad
  | .idx a i, ρ, M => (ev a ρ M).bind fun x M1 => (ev i ρ M1).bind fun y M2 => (resO M2 (idxD x y M2)).bind fun d M3 => match truD M3 d with
    | some k => .ok k M3
    | none => .bad
  | _, _, _ => .bad
def evAnd : Cs → Rho → MH → Res D
  | .nil, _, _ => .bad
  | .cons a .nil, ρ, M => ev a ρ M
  | .cons a (.cons b r), ρ, M => (ev a ρ M).bind fun x M1 => match truD M1 x with
    | some true => evAnd (.cons b r) ρ M1
    | some false => .ok x M1
    | none => .bad
def evOr : Cs → Rho → MH → Res D
  | .nil, _, _ => .bad
  | .cons a .nil, ρ, M => ev a ρ M
  | .cons a (.cons b r), ρ, M => (ev a ρ M).bind fun x M1 => match truD M1 x with
    | some true => .ok x M1
    | some false => evOr (.cons b r) ρ M1
    | none => .bad
def evAndT : Cs → Rho → MH → Res Bool
  | .nil, _, _ => .bad
  | .cons a .nil, ρ, M => evT a ρ M
  | .cons a (.cons b r), ρ, M => (evT a ρ M).bind fun x M1 => if x = true then evAndT (.cons b r) ρ M1 else .ok false M1
def evOrT : Cs → Rho → MH → Res Bool
  | .nil, _, _ => .bad
  | .cons a .nil, ρ, M => evT a ρ M
  | .cons a (.cons b r), ρ, M => (evT a ρ M).bind fun x M1 => if x = true then .ok true M1 else evOrT (.cons b r) ρ M1
def evs : Cs → Rho → MH → Res (List D)
  | .nil, _, M => .ok [] M
  | .cons c r, ρ, M => (ev c ρ M).bind fun d M1 => (evs r ρ M1).bind fun ds M2 => .ok (d :: ds) M2
def evo : Co → Rho → MH → Res (Option D)
  | .none, _, M => .ok none M
  | .some c, ρ, M => (ev c ρ M).bind fun d M1 => .ok (some d) M1
def evIf : Co → Rho → MH → Res Bool
  | .none, _, M => .ok true M
  | .some c, ρ, M => evT c ρ M
def evI : It → Rho → MH → Res Src
  | .seq c, ρ, M => (ev c ρ M).bind fun d M1 => match srcOf M1 d with
    | some s => .ok s M1
    | none => .bad
  | .rng1 a, ρ, M => (ev a ρ M).bind fun d M1 => match d with
    | .int j => if -(2 ^ 62) ≤ j ∧ j ≤ 10000 then .ok (.vals ((List.range j.toNat).map fun (k : Nat) => D.int (0 + (k : Int)))) M1 else .bad
    | _ => .bad
  | .rng2 a b, ρ, M => (ev a ρ M).bind fun x M1 => (ev b ρ M1).bind fun y M2 => match x, y with
    | .int i, .int j => if (-10000 ≤ i ∧ i ≤ 10000) ∧ (-10000 ≤ j ∧ j ≤ 10000) then .ok (.vals ((List.range (j - i).toNat).map fun (k : Nat) => D.int (i + (k : Int)))) M2 else .bad
    | _, _ => .bad
  | .zip a b, ρ, M => (ev a ρ M).bind fun x M1 => (ev b ρ M1).bind fun y M2 => match x, y with
    | .lst xs, .lst ys => .ok (.zipL xs ys) M2
    | _, _ => .bad
end
mutual
def exS : S → Rho → MH → Res Fl
  | .set i e, ρ, M => (ev cl e ρ M).bind fun d M1 => .ok (.nx (ρ.set i (some d))) M1
  | .par i j a b, ρ, M => (ev cl a ρ M).bind fun x M1 => (ev cl b ρ M1).bind fun y M2 => .ok (.nx ((ρ.set i (some x)).set j (some y))) M2
  | .setIx o k e, ρ, M => (ev cl e ρ M).bind fun v M1 => (ev cl o ρ M1).bind fun x M2 => match x with
    | .ref n => (match M2[n]? with
      | some (.dict kvs) => if kvs.length < 1000 then .ok (.nx ρ) (M2.set n (.dict (putD kvs (.inr k) v))) else .bad
      | _ => .bad)
    | _ => .bad
  | .expr e, ρ, M => (ev cl e ρ M).bind fun _ M1 => .ok (.nx ρ) M1
  | .ret e, ρ, M => (ev cl e ρ M).bind fun d M1 => .ok (.rt d) M1
  | .ifs c a b, ρ, M => (evT cl c ρ M).bind fun k M1 => if k = true then exSs a ρ M1 else exSs b ρ M1
  | .for_ tg it body, ρ, M => (evI cl it ρ M).bind fun src M1 => forLoop src (bindT tg) (exSs body) (srcLen src) 0 ρ M1
def exSs : Ss → Rho → MH → Res Fl
  | .nil, ρ, M => .ok (.nx ρ) M
  | .cons s r, ρ, M => (exS s ρ M).bind fun f M1 => match f with
    | .nx ρ1 => exSs r ρ1 M1
    | .rt d => .ok (.rt d) M1
end
end
/-- a def: how many parameters, how many slots, its body -/
structure Fn where
  np : Nat
  ns : Nat
  body : Ss
def runFn (cl : Calls) (f : Fn) (as : List D) (M : MH) : Res D :=
  if as.length = f.np then (exSs cl f.body (as.map some ++ List.replicate (f.ns - as.length) none) M).bind fun o M1 => match o with
    | .nx _ => .ok .non M1
    | .rt d => .ok d M1
  else .bad
def callN (T : Nat → Option Fn) : Nat → Calls
  | 0 => fun _ _ _ => .bad
  | n + 1 => fun k as M => match T k with
    | some f => runFn (callN T n) f as M
    | none => .bad
end Mi
/-! Mi3: the operations on data are those of the model. -/
namespace Mi
open PySem PySem.Spec PyProof.Rows L2

section
variable (fa : FA)
def Post (res β : List Addr) (H : Hp) (d : D) (M' : MH) (Q : VK) : Prop := ∀ v H' β', Step [] β H β' H' → Sim fa β' res M' H' → Rep fa β' res H' d v → Q v H'
def rS2 (g : D → D → MH → Res D) : R2 := fun x y H Q => ∃ res β M dx dy d M', Sim fa β res M H ∧ Rep fa β res H dx x ∧ Rep fa β res H dy y ∧ g dx dy M = .ok d M' ∧ Post fa res β H d M' Q
def rSc (g : D → D → MH → Option Bool) : R2 := fun x y H Q => ∃ res β M dx dy k, Sim fa β res M H ∧ Rep fa β res H dx x ∧ Rep fa β res H dy y ∧ g dx dy M = some k ∧ Q (.bl k) H
def rSl (g : List D → MH → Res D) : List V → Hp → VK → Prop := fun xs H Q => ∃ res β M ds d M', Sim fa β res M H ∧ Reps fa β res H ds xs ∧ g ds M = .ok d M' ∧ Post fa res β H d M' Q
end
section
variable {fa : FA} {X : Cx} {res β : List Addr} {M M' : MH} {H : Hp} {d : D} {v : V} {Q : VK}
theorem Post.same (P : Post fa res β H d M Q) (s : Sim fa β res M H) (r : Rep fa β res H d v) : Q v H := P v H β Step.refl s r
theorem Post.newL {m : Bool} {ds : List D} {vs : List V} (P : Post fa res β H d M' Q) (s : Sim fa β res M H) (r : Reps fa β res H ds vs) (h : newL m ds M = .ok d M') : ∀ p, H p = none → Q (.ref p) (upd H p (.lst vs)) := by
  intro p hp
  unfold Mi.newL at h
  cases m with
  | true =>
    rw [if_pos rfl] at h
    cases h
    refine P (.ref p) _ (β ++ [p]) (step_newM hp) (s.newM hp (.lst r)) (.ref ?_)
    rw [← s.len, List.getElem?_append_right (Nat.le_refl _)]
    simp
  | false =>
    rw [if_neg Bool.false_ne_true] at h
    cases h
    exact P (.ref p) _ β (step_new hp) (s.new hp) (.lst upd_same (s.fresh hp) (fun q => s.rt p q hp) (r.step (mv := []) (step_new hp) (by simp)))
theorem Post.tup {ds : List D} {vs : List V} (P : Post fa res β H (.tup ds) M Q) (s : Sim fa β res M H) (r : Reps fa β res H ds vs) : ∀ p, H p = none → Q (.ref p) (upd H p (.tup vs)) := by
  intro p hp
  exact P (.ref p) _ β (step_new hp) (s.new hp) (.tup upd_same (s.fresh hp) (fun q => s.rt p q hp) (r.step (mv := []) (step_new hp) (by simp)))
theorem getL_rep {ds : List D} (s : Sim fa β res M H) (r : Rep fa β res H d v) (h : getL M d = some ds) : ∃ a vs, v = .ref a ∧ H a = some (.lst vs) ∧ Reps fa β res H ds vs := by
  cases r with
  | lst e nb nr r => cases h; exact ⟨_, _, rfl, e, r⟩
  | @ref n a e =>
    simp only [getL] at h
    cases q : M[n]? with
    | none => rw [q] at h; cases h
    | some o =>
      rw [q] at h
      cases o with
      | dict _ => cases h
      | lst xs =>
        cases h
        obtain ⟨ho, e1, e2⟩ := s.at_ n a _ e q
        cases e2 with
        | lst r => exact ⟨_, _, rfl, e1, r⟩
  | _ => cases h
theorem getDict_rep {kvs : List (Key × D)} (s : Sim fa β res M H) (r : Rep fa β res H d v) (h : getDict M d = some kvs) : ∃ a vs, v = .ref a ∧ H a = some (.dK vs) ∧ RepKV fa β res H kvs vs := by
  cases r with
  | @ref n a e =>
    simp only [getDict] at h
    cases q : M[n]? with
    | none => rw [q] at h; cases h
    | some o =>
      rw [q] at h
      cases o with
      | lst _ => cases h
      | dict xs =>
        cases h
        obtain ⟨ho, e1, e2⟩ := s.at_ n a _ e q
        cases e2 with
        | dict r => exact ⟨_, _, rfl, e1, r⟩
  | _ => cases h
mutual
theorem Rep.dp {K : PySem.W.Frag} {d : D} {v : V} {p : PyData} : Rep fa β res H d v → py0 d = some p → Dp K H v p
  | .non, h => by simp [py0] at h; subst h; exact .non
  | .bl b, h => by simp [py0] at h; subst h; exact .bl b
  | .int b, h => by simp [py0] at h; subst h; exact .int b
  | .str b, h => by simp [py0] at h; subst h; exact .str b
  | .ty _, h => by simp [py0] at h
  | .fn _, h => by simp [py0] at h
  | .ref _, h => by simp [py0] at h
  | .scr _ _ _, h => by simp [py0] at h
  | .scrK _, h => by simp [py0] at h
  | .tup (ds := ds) e nb nr r, h => by
    simp only [py0] at h
    cases q : py0s ds with
    | none => rw [q] at h; cases h
    | some ps => rw [q] at h; cases h; exact .tup (SqT.of e) (Reps.dp r q)
  | .lst (ds := ds) e nb nr r, h => by
    simp only [py0] at h
    cases q : py0s ds with
    | none => rw [q] at h; cases h
    | some ps => rw [q] at h; cases h; exact .lst (SqL.of e) (Reps.dp r q)
theorem Reps.dp {K : PySem.W.Frag} {ds : List D} {vs : List V} {ps : List PyData} : Reps fa β res H ds vs → py0s ds = some ps → DpAll K H vs ps
  | .nil, h => by simp [py0s] at h; subst h; exact .nil
  | .cons (d := d) (ds := ds) r q, h => by
    simp only [py0s] at h
    cases e1 : py0 d with
    | none => rw [e1] at h; cases h
    | some p =>
      cases e2 : py0s ds with
      | none => rw [e1, e2] at h; cases h
      | some ps => rw [e1, e2] at h; cases h; exact .cons (Rep.dp r e1) (Reps.dp q e2)
end
theorem pyM_dp {K : PySem.W.Frag} {p : PyData} (s : Sim fa β res M H) (r : Rep fa β res H d v) (h : pyM M d = some p) : Dp K H v p := by
  cases r with
  | @ref n a e =>
    unfold pyM at h
    simp only at h
    cases q : M[n]? with
    | none => rw [q] at h; cases h
    | some o =>
      rw [q] at h
      cases o with
      | dict _ => cases h
      | lst xs =>
        simp only at h
        cases q2 : py0s xs with
        | none => rw [q2] at h; cases h
        | some ps =>
          rw [q2] at h
          cases h
          obtain ⟨ho, e1, e2⟩ := s.at_ n a _ e q
          cases e2 with
          | lst r => exact .lst (SqL.of e1) (r.dp q2)
  | tup e nb nr r => exact (Rep.tup e nb nr r).dp h
  | lst e nb nr r => exact (Rep.lst e nb nr r).dp h
  | non => exact Rep.dp (fa := fa) (β := β) (res := res) .non h
  | bl b => exact Rep.dp (fa := fa) (β := β) (res := res) (.bl b) h
  | int b => exact Rep.dp (fa := fa) (β := β) (res := res) (.int b) h
  | str b => exact Rep.dp (fa := fa) (β := β) (res := res) (.str b) h
  | _ => cases h
theorem OpR.weak {f : Value → Value → Sem Value} {r r' : R2} (h : OpR X f r) (w : ∀ x y H Q, r' x y H Q → r x y H Q) : OpR X f r' := fun pins s σ H x y v u Q I rx ry q => h pins s σ H x y v u Q I rx ry (w x y H Q q)

/-! ### + - * // % ** -/
theorem num_rep {i : Int} (r : Rep fa β res H d v) (h : numD d = some i) : v = .int i ∨ ∃ b, v = .bl b ∧ i = if b = true then 1 else 0 := by
  cases r with
  | int j => cases h; exact .inl rfl
  | bl b => cases h; exact .inr ⟨b, rfl, rfl⟩
  | _ => cases h
theorem op_addN : OpR X (binaryOp .Add) (fun x y H Q => ∃ i j, (x = .int i ∨ ∃ b, x = .bl b ∧ i = if b = true then 1 else 0) ∧ (y = .int j ∨ ∃ b, y = .bl b ∧ j = if b = true then 1 else 0) ∧ Q (.int (i + j)) H) := by
  intro pins s σ H x y v u Q I rx ry h
  obtain ⟨i, j, hx, hy, q⟩ := h
  have fin : ∀ k, k = i + j → EP X pins σ Q (.int k s.toks) { s with toks := s.toks + 1 } := fun k e => ⟨.int k, H, I.tok _, ⟨_, rfl⟩, e ▸ q⟩
  rcases hx with rfl | ⟨b, rfl, rfl⟩
  · obtain ⟨t, rfl⟩ := rx
    rcases hy with rfl | ⟨c, rfl, rfl⟩
    · obtain ⟨t', rfl⟩ := ry
      exact add_int (fin _ rfl)
    · cases ry
      exact PySem.add_int_bool (fin _ rfl)
  · cases rx
    rcases hy with rfl | ⟨c, rfl, rfl⟩
    · obtain ⟨t', rfl⟩ := ry
      exact PySem.IntBool.add_bool_int (fin _ rfl)
    · cases ry
      exact add_bool (fin _ (by cases b <;> cases c <;> rfl))
theorem op_subN : OpR X (binaryOp .Sub) (fun x y H Q => ∃ i j, (x = .int i ∨ ∃ b, x = .bl b ∧ i = if b = true then 1 else 0) ∧ (y = .int j ∨ ∃ b, y = .bl b ∧ j = if b = true then 1 else 0) ∧ Q (.int (i - j)) H) := by
  intro pins s σ H x y v u Q I rx ry h
  obtain ⟨i, j, hx, hy, q⟩ := h
  have fin : ∀ k, k = i - j → EP X pins σ Q (.int k s.toks) { s with toks := s.toks + 1 } := fun k e => ⟨.int k, H, I.tok _, ⟨_, rfl⟩, e ▸ q⟩
  rcases hx with rfl | ⟨b, rfl, rfl⟩
  · obtain ⟨t, rfl⟩ := rx
    rcases hy with rfl | ⟨c, rfl, rfl⟩
    · obtain ⟨t', rfl⟩ := ry
      exact sub_int (fin _ rfl)
    · cases ry
      exact PySem.IntBool.sub_int_bool (fin _ rfl)
  · cases rx
    rcases hy with rfl | ⟨c, rfl, rfl⟩
    · obtain ⟨t', rfl⟩ := ry
      exact PySem.IntBool.sub_bool_int (fin _ rfl)
    · cases ry
      exact sub_bool (fin _ (by cases b <;> cases c <;> rfl))
theorem sim_add {m : Bool} : OpR X (binaryOp .Add) (rS2 fa (binD m .Add)) := by
  intro pins s σ H x y v u Q I rx ry h
  obtain ⟨res, β, M, dx, dy, d, M', S, r1, r2, e, P⟩ := h
  have num : ∀ i j, numD dx = some i → numD dy = some j → Res.ok (D.int (i + j)) M = .ok d M' → wpAny (model X.prog X.w) X.A (binaryOp .Add v u) (EP X pins σ Q) X.xe s := fun i j h1 h2 h3 => by
    cases h3
    exact op_addN pins s σ H x y v u Q I rx ry ⟨i, j, num_rep r1 h1, num_rep r2 h2, P.same S (.int _)⟩
  have lists : ∀ xs ys, getL M dx = some xs → getL M dy = some ys → (if xs.length + ys.length ≤ sizeLine then newL m (xs ++ ys) M else .bad) = .ok d M' → wpAny (model X.prog X.w) X.A (binaryOp .Add v u) (EP X pins σ Q) X.xe s := fun xs ys h1 h2 h3 => by
    obtain ⟨a, vs, e1, e2, e3⟩ := getL_rep S r1 h1
    obtain ⟨b, ws, f1, f2, f3⟩ := getL_rep S r2 h2
    split at h3
    · rename_i hz
      exact op_cat pins s σ H x y v u Q I rx ry ⟨a, b, vs, ws, e1, f1, e2, f2, by rw [← e3.length, ← f3.length]; exact hz, P.newL S (e3.append f3) h3⟩
    · cases h3
  have gen : (match numD dx, numD dy with
      | some i, some j => Res.ok (D.int (i + j)) M
      | _, _ => match getL M dx, getL M dy with
        | some xs, some ys => if xs.length + ys.length ≤ sizeLine then newL m (xs ++ ys) M else .bad
        | _, _ => .bad) = .ok d M' → wpAny (model X.prog X.w) X.A (binaryOp .Add v u) (EP X pins σ Q) X.xe s := fun h => by
    split at h
    · rename_i i j h1 h2
      exact num i j h1 h2 h
    · split at h
      · rename_i xs ys h1 h2
        exact lists xs ys h1 h2 h
      · cases h
  unfold binD at e
  simp only at e
  split at e
  · rename_i x' y'
    cases r1; cases r2
    split at e
    · rename_i hz
      cases e
      exact op_add_str pins s σ H _ _ v u Q I rx ry ⟨_, _, rfl, rfl, hz, P.same S (.str _)⟩
    · cases e
  · rename_i xs ys
    split at e
    · rename_i hz
      cases e
      cases r1 with
      | tup e1 nb1 nr1 q1 =>
        cases r2 with
        | tup e2 nb2 nr2 q2 =>
          refine op_catA pins s σ H _ _ v u Q I rx ry ⟨_, _, _, _, rfl, rfl, SqT.of e1, SqT.of e2, by rw [← q1.length, ← q2.length]; exact hz, fun z => ?_, fun _ z => ?_, fun _ _ => P.tup S (q1.append q2)⟩
          · subst z
            cases q1
            exact P.same S (.tup e2 nb2 nr2 q2)
          · subst z
            cases q2
            rw [List.append_nil] at P
            exact P.same S (.tup e1 nb1 nr1 q1)
    · cases e
  · exact gen e
theorem sim_sub {m : Bool} : OpR X (binaryOp .Sub) (rS2 fa (binD m .Sub)) := by
  intro pins s σ H x y v u Q I rx ry h
  obtain ⟨res, β, M, dx, dy, d, M', S, r1, r2, e, P⟩ := h
  unfold binD at e
  simp only at e
  split at e
  · rename_i i j h1 h2
    cases e
    exact op_subN pins s σ H x y v u Q I rx ry ⟨i, j, num_rep r1 h1, num_rep r2 h2, P.same S (.int _)⟩
  · cases e
theorem sim_fdiv {m : Bool} : OpR X (binaryOp .FloorDiv) (rS2 fa (binD m .FloorDiv)) := by
  intro pins s σ H x y v u Q I rx ry h
  obtain ⟨res, β, M, dx, dy, d, M', S, r1, r2, e, P⟩ := h
  unfold binD at e
  simp only at e
  split at e
  · rename_i i j
    cases r1; cases r2
    split at e
    · rename_i hz
      cases e
      exact op_fdiv pins s σ H _ _ v u Q I rx ry ⟨i, j, rfl, rfl, hz, P.same S (.int _)⟩
    · cases e
  · cases e
theorem sim_mod {m : Bool} : OpR X (binaryOp .Mod) (rS2 fa (binD m .Mod)) := by
  intro pins s σ H x y v u Q I rx ry h
  obtain ⟨res, β, M, dx, dy, d, M', S, r1, r2, e, P⟩ := h
  unfold binD at e
  simp only at e
  split at e
  · rename_i i j
    cases r1; cases r2
    split at e
    · rename_i hz
      cases e
      exact op_mod pins s σ H _ _ v u Q I rx ry ⟨i, j, rfl, rfl, hz, P.same S (.int _)⟩
    · cases e
  · cases e
theorem sim_pow {m : Bool} : OpR X (binaryOp .Pow) (rS2 fa (binD m .Pow)) := by
  intro pins s σ H x y v u Q I rx ry h
  obtain ⟨res, β, M, dx, dy, d, M', S, r1, r2, e, P⟩ := h
  unfold binD at e
  simp only at e
  split at e
  · rename_i i j
    cases r1; cases r2
    split at e
    · rename_i hz
      cases e
      exact op_pow pins s σ H _ _ v u Q I rx ry ⟨i, j, rfl, rfl, ⟨hz.1.1, hz.1.2, hz.2⟩, P.same S (.int _)⟩
    · cases e
  · cases e

/-! ### comparisons -/
theorem eqS_cases {M : MH} {dx dy : D} {k : Bool} (e : eqS M dx dy = some k) : (∃ x y, dx = .str x ∧ dy = .str y ∧ k = decide (x = y)) ∨ eqD M dx dy = some k := by
  unfold eqS at e
  split at e
  · cases e
    exact .inl ⟨_, _, rfl, rfl, rfl⟩
  · exact .inr e
theorem sim_eq (hu : X.A.units + 65 < cLine) : OpR X (compareOp .Eq) (rSc fa (cmpD .Eq)) := by
  refine OpR.weak (OpR.or op_eq (op_eqD (by omega))) fun x y H Q h => ?_
  obtain ⟨res, β, M, dx, dy, k, S, r1, r2, e, P⟩ := h
  rcases eqS_cases (show eqS M dx dy = some k from e) with ⟨x, y, rfl, rfl, rfl⟩ | e'
  · cases r1; cases r2
    refine .inl ⟨rfl, ?_⟩
    rw [show decide (V.str x = V.str y) = decide (x = y) by simp]
    exact P
  unfold eqD at e'
  split at e'
  · rename_i p q h1 h2
    split at e'
    · rename_i hz
      cases e'
      obtain ⟨z1, z2⟩ := Bool.and_eq_true_iff.mp hz
      exact .inr ⟨p, q, pyM_dp S r1 h1, pyM_dp S r2 h2, z1, z2, P⟩
    · cases e'
  · cases e'
theorem sim_ne (hu : X.A.units + 65 < cLine) : OpR X (compareOp .NotEq) (rSc fa (cmpD .NotEq)) := by
  refine OpR.weak (OpR.or op_ne (op_neD (by omega))) fun x y H Q h => ?_
  obtain ⟨res, β, M, dx, dy, k, S, r1, r2, e, P⟩ := h
  have e1 : (eqS M dx dy).map (!·) = some k := e
  obtain ⟨k', e2, rfl⟩ := Option.map_eq_some_iff.mp e1
  rcases eqS_cases e2 with ⟨x, y, rfl, rfl, rfl⟩ | e'
  · cases r1; cases r2
    refine .inl ⟨rfl, ?_⟩
    rw [show decide (V.str x = V.str y) = decide (x = y) by simp]
    exact P
  unfold eqD at e'
  split at e'
  · rename_i p q h1 h2
    split at e'
    · rename_i hz
      cases e'
      obtain ⟨z1, z2⟩ := Bool.and_eq_true_iff.mp hz
      exact .inr ⟨p, q, pyM_dp S r1 h1, pyM_dp S r2 h2, z1, z2, P⟩
    · cases e'
  · cases e'
theorem sim_lt : OpR X (compareOp .Lt) (rSc fa (cmpD .Lt)) := by
  refine OpR.weak (OpR.or op_lt op_lt_str) fun x y H Q h => ?_
  obtain ⟨res, β, M, dx, dy, k, S, r1, r2, e, P⟩ := h
  unfold cmpD at e
  simp only at e
  split at e
  · cases r1; cases r2; cases e; exact .inl ⟨_, _, rfl, rfl, P⟩
  · cases r1; cases r2; cases e; exact .inr ⟨_, _, rfl, rfl, P⟩
  · cases e
theorem sim_le : OpR X (compareOp .LtE) (rSc fa (cmpD .LtE)) := by
  refine OpR.weak (OpR.or op_le op_le_str) fun x y H Q h => ?_
  obtain ⟨res, β, M, dx, dy, k, S, r1, r2, e, P⟩ := h
  unfold cmpD at e
  simp only at e
  split at e
  · cases r1; cases r2; cases e; exact .inl ⟨_, _, rfl, rfl, P⟩
  · cases r1; cases r2; cases e; exact .inr ⟨_, _, rfl, rfl, P⟩
  · cases e
theorem sim_gt : OpR X (compareOp .Gt) (rSc fa (cmpD .Gt)) := by
  refine OpR.weak (OpR.or op_gt op_gt_str) fun x y H Q h => ?_
  obtain ⟨res, β, M, dx, dy, k, S, r1, r2, e, P⟩ := h
  unfold cmpD at e
  simp only at e
  split at e
  · cases r1; cases r2; cases e; exact .inl ⟨_, _, rfl, rfl, P⟩
  · cases r1; cases r2; cases e; exact .inr ⟨_, _, rfl, rfl, P⟩
  · cases e
theorem sim_ge : OpR X (compareOp .GtE) (rSc fa (cmpD .GtE)) := by
  refine OpR.weak (OpR.or op_ge op_ge_str) fun x y H Q h => ?_
  obtain ⟨res, β, M, dx, dy, k, S, r1, r2, e, P⟩ := h
  unfold cmpD at e
  simp only at e
  split at e
  · cases r1; cases r2; cases e; exact .inl ⟨_, _, rfl, rfl, P⟩
  · cases r1; cases r2; cases e; exact .inr ⟨_, _, rfl, rfl, P⟩
  · cases e
theorem inD_of {K : PySem.W.Frag} {dx dy : D} {x y : V} {k : Bool} (S : Sim fa β res M H) (r1 : Rep fa β res H dx x) (r2 : Rep fa β res H dy y) (e : inD M dx dy = some k) :
    (∃ i j, x = .str i ∧ y = .str j ∧ k = !(Builtin.Str.occurrences j i 0 j.length 1).isEmpty) ∨
    ∃ p qs, Dp K H x p ∧ Dp K H y (.list qs) ∧ SeqAt.shaped p = true ∧ SeqAt.shaped (.list qs) = true ∧ k = qs.any fun z => PyData.eqv z p := by
  unfold inD at e
  split at e
  · cases r1; cases r2; cases e; exact .inl ⟨_, _, rfl, rfl, rfl⟩
  · split at e
    · rename_i p qs h1 h2
      split at e
      · rename_i hz
        cases e
        obtain ⟨z1, z2⟩ := Bool.and_eq_true_iff.mp hz
        exact .inr ⟨p, qs, r1.dp h1, pyM_dp S r2 h2, z1, z2, rfl⟩
      · cases e
    · cases e
theorem sim_in (hu : X.A.units + 65 < cLine) : OpR X (compareOp .In) (rSc fa (cmpD .In)) := by
  refine OpR.weak (OpR.or op_in_str (op_inD hu)) fun x y H Q h => ?_
  obtain ⟨res, β, M, dx, dy, k, S, r1, r2, e, P⟩ := h
  rcases inD_of (K := X.K) S r1 r2 e with ⟨i, j, e1, e2, e3⟩ | ⟨p, qs, e1, e2, e3, e4, e5⟩
  · exact .inl ⟨i, j, e1, e2, e3 ▸ P⟩
  · exact .inr ⟨p, qs, e1, e2, e3, e4, e5 ▸ P⟩
theorem sim_notin (hu : X.A.units + 65 < cLine) : OpR X (compareOp .NotIn) (rSc fa (cmpD .NotIn)) := by
  refine OpR.weak (OpR.or op_notin_str (op_notInD hu)) fun x y H Q h => ?_
  obtain ⟨res, β, M, dx, dy, k, S, r1, r2, e, P⟩ := h
  have e' : (inD M dx dy).map (!·) = some k := e
  cases q : inD M dx dy with
  | none => rw [q] at e'; cases e'
  | some b =>
    rw [q] at e'
    cases e'
    rcases inD_of (K := X.K) S r1 r2 q with ⟨i, j, e1, e2, e3⟩ | ⟨p, qs, e1, e2, e3, e4, e5⟩
    · exact .inl ⟨i, j, e1, e2, e3 ▸ P⟩
    · exact .inr ⟨p, qs, e1, e2, e3, e4, e5 ▸ P⟩
theorem rep_non (r : Rep fa β res H d v) : decide (v = .non) = match d with | .non => true | _ => false := by
  cases r <;> simp
theorem sim_is : OpR X (compareOp .Is) (rSc fa (cmpD .Is)) := by
  refine OpR.weak op_isN fun x y H Q h => ?_
  obtain ⟨res, β, M, dx, dy, k, S, r1, r2, e, P⟩ := h
  unfold cmpD at e
  simp only at e
  split at e
  · cases r2
    refine ⟨rfl, ?_⟩
    rw [rep_non r1]
    cases r1 <;> (cases e; exact P)
  · cases e
theorem sim_isnot : OpR X (compareOp .IsNot) (rSc fa (cmpD .IsNot)) := by
  refine OpR.weak op_notN fun x y H Q h => ?_
  obtain ⟨res, β, M, dx, dy, k, S, r1, r2, e, P⟩ := h
  unfold cmpD at e
  simp only at e
  split at e
  · cases r2
    refine ⟨rfl, ?_⟩
    rw [rep_non r1]
    cases r1 <;> (cases e; exact P)
  · cases e
theorem sim_cmp (hu : X.A.units + 65 < cLine) (o : CmpOp) : OpR X (compareOp o) (rSc fa (cmpD o)) := by
  cases o with
  | Eq => exact sim_eq hu
  | NotEq => exact sim_ne hu
  | Lt => exact sim_lt
  | LtE => exact sim_le
  | Gt => exact sim_gt
  | GtE => exact sim_ge
  | Is => exact sim_is
  | IsNot => exact sim_isnot
  | In => exact sim_in hu
  | NotIn => exact sim_notin hu

/-! ### truth -/
theorem truD_of {K : PySem.W.Frag} {k : Bool} (S : Sim fa β res M H) (r : Rep fa β res H d v) (e : truD M d = some k) : TruV K v H k := by
  cases r with
  | non => cases e; rfl
  | bl b => cases e; rfl
  | int i => cases e; rfl
  | str x =>
    simp only [truD] at e
    split at e
    · rename_i hz; cases e; exact ⟨hz, rfl⟩
    · cases e
  | tup e1 nb nr q =>
    cases e
    refine .inr (.inl ⟨_, SqT.of e1, ?_⟩)
    cases q <;> rfl
  | lst e1 nb nr q =>
    cases e
    refine .inl ⟨_, SqL.of e1, ?_⟩
    cases q <;> rfl
  | @ref n a e1 =>
    simp only [truD] at e
    cases q : M[n]? with
    | none => rw [q] at e; cases e
    | some o =>
      obtain ⟨ho, h1, h2⟩ := S.at_ n a o e1 q
      rw [q] at e
      cases h2 with
      | lst r =>
        cases e
        refine .inl ⟨_, SqL.of h1, ?_⟩
        cases r <;> rfl
      | dict r =>
        cases e
        refine .inr (.inr ⟨_, h1, ?_⟩)
        cases r <;> rfl
  | _ => cases e
end
end Mi
/-! Mi4: products, subscripts, slices, built-in functions and methods. -/
namespace Mi
open PySem PySem.Spec PyProof.Rows L2

section
variable {fa : FA} {X : Cx} {res β : List Addr} {M M' : MH} {H : Hp} {d : D} {v : V} {Q : VK}
theorem Reps.rep {ds : List D} {vs : List V} (r : Reps fa β res H ds vs) : ∀ k : Nat, Reps fa β res H (List.replicate k ds).flatten (List.replicate k vs).flatten
  | 0 => .nil
  | k + 1 => by
    rw [List.replicate_succ, List.replicate_succ, List.flatten_cons, List.flatten_cons]
    exact r.append (r.rep k)
theorem mulok {x : Str} {j : Int} (h : 0 ≤ j ∧ j < 100000 ∧ x.length < 100) : MulOk x j := by
  obtain ⟨h0, h1, h2⟩ := h
  refine ⟨?_, fun h3 _ => ?_, fun h3 _ => ?_⟩
  · have a : ¬ j < -(2 ^ 63 : Int) := by omega
    have b : ¬ j ≥ 2 ^ 63 := by omega
    rw [decide_eq_false a, decide_eq_false b]; rfl
  · intro h4
    have h5 : (2 ^ 63 - 1 : Int) / j ≥ 100 := by
      apply (Int.le_ediv_iff_mul_le (by omega)).mpr
      omega
    omega
  · have : x.length * j.toNat ≤ 100 * 100000 := Nat.mul_le_mul (by omega) (by omega)
    simp only [Builtin.Str.tooLong, decide_eq_false_iff_not]
    show ¬ (x.length * j.toNat > 2 ^ 24)
    omega
theorem sim_mul {m : Bool} : OpR X (binaryOp .Mult) (rS2 fa (binD m .Mult)) := by
  intro pins s σ H x y v u Q I rx ry h
  obtain ⟨res, β, M, dx, dy, d, M', S, r1, r2, e, P⟩ := h
  simp only [binD] at e
  split at e
  · rename_i i j
    cases r1; cases r2
    split at e
    · rename_i hz
      cases e
      refine op_mul pins s σ H _ _ v u Q I rx ry ⟨i, j, rfl, rfl, ?_, P.same S (.int _)⟩
      unfold mulOk at hz
      rcases Bool.or_eq_true_iff.mp hz with hz | hz
      · obtain ⟨a, b⟩ := Bool.and_eq_true_iff.mp hz
        exact .inl ⟨of_decide_eq_true a, of_decide_eq_true b⟩
      · obtain ⟨a, b⟩ := Bool.and_eq_true_iff.mp hz
        exact .inr ⟨of_decide_eq_true a, of_decide_eq_true b⟩
    · cases e
  · rename_i z j
    cases r1; cases r2
    split at e
    · rename_i hz
      cases e
      obtain ⟨t, rfl⟩ := rx
      obtain ⟨t', rfl⟩ := ry
      exact PySem.SB.mul (mulok hz) fun t' k => ⟨.str _, H, I.tok _, ⟨_, rfl⟩, P.same S (.str _)⟩
    · cases e
  · rename_i j _ _
    cases r2
    split at e
    · rename_i xs hx
      obtain ⟨a, vs, e1, e2, e3⟩ := getL_rep S r1 hx
      split at e
      · rename_i hz
        refine op_rep pins s σ H _ _ v u Q I rx ry ⟨a, j, vs, e1, rfl, e2, by omega, by omega, by rw [← e3.length]; exact hz.2, P.newL S (e3.rep _) e⟩
      · cases e
    · cases e
  · cases e
theorem sim_bin (m : Bool) (o : Operator) : OpR X (binaryOp o) (rS2 fa (binD m o)) := by
  cases o with
  | Add => exact sim_add
  | Sub => exact sim_sub
  | Mult => exact sim_mul
  | FloorDiv => exact sim_fdiv
  | Mod => exact sim_mod
  | Pow => exact sim_pow
  | _ =>
    intro pins s σ H x y v u Q I rx ry h
    obtain ⟨res, β, M, dx, dy, d, M', S, r1, r2, e, P⟩ := h
    simp only [binD] at e
    cases e

/-! ### subscripts -/
theorem atI_rep {ds : List D} {vs : List V} {i : Int} (r : Reps fa β res H ds vs) (h : atI ds i = some d) : ∃ v, atI vs i = some v ∧ Rep fa β res H d v := by
  unfold atI at h ⊢
  rw [← r.length]
  cases q : ixN ds.length i with
  | none => rw [q] at h; cases h
  | some j =>
    rw [q] at h
    exact r.get h
theorem lookK_rep {k : Key} {d : D} : ∀ {kvs : List (Key × D)} {vs : List (Key × V)}, RepKV fa β res H kvs vs → lookK kvs k = some d → ∃ v, valV vs k = some v ∧ Rep fa β res H d v
  | _, _, .nil, h => by simp [lookK] at h
  | _, _, .cons (k := k') (d := d') (v := v') r q, h => by
    unfold lookK at h
    rw [List.find?_cons] at h
    by_cases e : k' = k
    · simp only [e, decide_true] at h
      cases h
      exact ⟨v', valV_pos e, r⟩
    · simp only [e, decide_false] at h
      obtain ⟨v, h1, h2⟩ := lookK_rep q h
      refine ⟨v, ?_, h2⟩
      unfold valV at h1 ⊢
      rw [List.find?_cons]
      simp only [e, decide_false]
      exact h1
theorem putD_rep {k : Key} {kvs : List (Key × D)} {vs : List (Key × V)} (r : RepKV fa β res H kvs vs) (q : Rep fa β res H d v) : RepKV fa β res H (putD kvs k d) (putK vs k v) := by
  have any : ∀ {kvs : List (Key × D)} {vs : List (Key × V)}, RepKV fa β res H kvs vs → (kvs.any fun kv => decide (kv.1 = k)) = (vs.any fun kv => decide (kv.1 = k)) := by
    intro kvs vs r
    induction r with
    | nil => rfl
    | cons _ _ ih => simp only [List.any_cons, ih]
  have mp : ∀ {kvs : List (Key × D)} {vs : List (Key × V)}, RepKV fa β res H kvs vs → RepKV fa β res H (kvs.map (fun kv => if kv.1 = k then (kv.1, d) else kv)) (vs.map (fun kv => if kv.1 = k then (kv.1, v) else kv)) := by
    intro kvs vs r
    induction r with
    | nil => exact .nil
    | @cons k' d' v' ds vs r1 _ ih =>
      rw [List.map_cons, List.map_cons]
      by_cases e : k' = k
      · simp only [e, if_true]
        exact .cons q ih
      · simp only [e, if_false]
        exact .cons r1 ih
  have ap : ∀ {kvs : List (Key × D)} {vs : List (Key × V)}, RepKV fa β res H kvs vs → RepKV fa β res H (kvs ++ [(k, d)]) (vs ++ [(k, v)]) := by
    intro kvs vs r
    induction r with
    | nil => exact .cons q .nil
    | cons r1 _ ih => exact .cons r1 ih
  unfold putD putK
  rw [any r]
  split
  · exact mp r
  · exact ap r
theorem RepKV.length : ∀ {kvs : List (Key × D)} {vs : List (Key × V)}, RepKV fa β res H kvs vs → kvs.length = vs.length
  | _, _, .nil => rfl
  | _, _, .cons _ q => by simp [q.length]
theorem keyOf_rep {k : Key} (r : Rep fa β res H d v) (h : keyOf d = some k) : v = kV k := by
  cases r <;> first | (cases h; rfl) | cases h
theorem idx_dict {dx dy : D} {x y : V} {M : MH} {kvs : List (Key × D)} (S : Sim fa β res M H) (r1 : Rep fa β res H dx x) (r2 : Rep fa β res H dy y) (hd : getDict M dx = some kvs) (h : idxD dx dy M = some d) : ∃ (a : Addr) (w : V), x = .ref a ∧ DGet H a y (some w) ∧ Rep fa β res H d w := by
  obtain ⟨a, vs, e1, e2, e3⟩ := getDict_rep S r1 hd
  have hl : getL M dx = none := by
    unfold getDict at hd
    split at hd
    · split at hd
      · rename_i hq; simp only [getL, hq]
      · cases hd
    · cases hd
  unfold idxD at h
  split at h
  · cases hd
  · cases hd
  · split at h
    · simp_all
    · split at h
      · rename_i kvs' k hx hk
        rw [hd] at hx
        cases hx
        obtain ⟨w, h1, h2⟩ := lookK_rep e3 h
        refine ⟨a, w, e1, ?_, h2⟩
        rw [keyOf_rep r2 hk, ← h1]
        exact DGet.k e2
      · cases h
theorem idx_seq {dx dy : D} {x y : V} {M : MH} (S : Sim fa β res M H) (r1 : Rep fa β res H dx x) (r2 : Rep fa β res H dy y) (hd : getDict M dx = none) (h : idxD dx dy M = some d) (P : ∀ w, Rep fa β res H d w → Q w H) : rIx X.K x y H Q := by
  unfold idxD at h
  split at h
  · cases r1; cases r2
    split at h
    · rename_i z k hz
      cases q : atI z.cps.toList k with
      | none => rw [q] at h; cases h
      | some c =>
        rw [q] at h
        cases h
        exact .inr (.inr ⟨z, k, c, rfl, rfl, hz, q, P _ (.str _)⟩)
    · cases h
  · cases r2
    cases r1 with
    | tup e nb nr q =>
      obtain ⟨w, h1, h2⟩ := atI_rep q h
      exact .inr (.inl ⟨_, _, _, w, rfl, rfl, SqT.of e, h1, P _ h2⟩)
  · split at h
    · obtain ⟨a, vs, e1, e2, e3⟩ := getL_rep S r1 (by assumption)
      cases r2
      obtain ⟨w, h1, h2⟩ := atI_rep e3 h
      exact .inl ⟨a, vs, _, w, e1, rfl, SqL.of e2, h1, P _ h2⟩
    · split at h
      · simp_all
      · cases h

/-! ### slices -/
theorem cutD_rep {ds : List D} {vs : List V} {lo hi : Option Int} (r : Reps fa β res H ds vs) : Reps fa β res H (cutD ds lo hi) (cutV vs lo hi) := by
  unfold cutD cutV
  rw [r.length]
  exact (r.drop _).take _
theorem ints_rep : ∀ ns : List Int, Reps fa β res H (ns.map D.int) (ns.map V.int)
  | [] => .nil
  | n :: r => .cons (.int n) (ints_rep r)
theorem SqL.ofK {K : PySem.W.Frag} {H : Hp} {a : Addr} {xs : List V} (h : SqL K (fun _ => none) a xs) : SqL K H a xs := by
  rcases h with (h | ⟨o, h⟩) | h
  · cases h
  · cases h
  · exact .inr h
theorem sim_slice (hK : X.K = fa.K) (m : Bool) : SlR X (fun x lo hi H Q => ∃ res β M dx d M', Sim fa β res M H ∧ Rep fa β res H dx x ∧ sliceD m dx lo hi M = .ok d M' ∧ Post fa res β H d M' Q) := by
  have W : ∀ {r r' : V → Option Int → Option Int → Hp → VK → Prop}, SlR X r → (∀ x lo hi H Q, r' x lo hi H Q → r x lo hi H Q) → SlR X r' := fun h w pins s σ H x v vl vu lo hi sl Q I rx hs pl pu q => h pins s σ H x v vl vu lo hi sl Q I rx hs pl pu (w _ _ _ _ _ q)
  refine W (SlR.or (SlR.or sl_list sl_tupA) sl_str) fun x lo hi H Q h => ?_
  obtain ⟨res, β, M, dx, d, M', S, r, e, P⟩ := h
  unfold sliceD at e
  split at e
  · cases r
    split at e
    · rename_i hz; cases e; exact .inr ⟨_, rfl, hz, P.same S (.str _)⟩
    · cases e
  · rename_i ds
    cases e
    cases r with
    | @tup a _ vs e nb nr q =>
      refine .inl (.inr ⟨a, vs, rfl, SqT.of e, fun hw => ?_, fun _ => P.tup S (cutD_rep q)⟩)
      have : cutD ds lo hi = ds := by
        unfold cutD
        rw [q.length, hw.1, hw.2, List.drop_zero, Nat.sub_zero, ← q.length, List.take_length]
      rw [this] at P
      exact P.same S (.tup e nb nr q)
  · cases r with
    | scr e1 nb nr =>
      refine .inl (.inl ⟨_, _, rfl, .inl (.inr ⟨_, e1⟩), ?_⟩)
      exact P.newL S (cutD_rep (ints_rep _)) e
    | scrK h =>
      refine .inl (.inl ⟨_, _, rfl, by rw [hK]; exact SqL.ofK h, ?_⟩)
      exact P.newL S (cutD_rep (ints_rep _)) e
  · split at e
    · rename_i xs hx
      obtain ⟨a, vs, e1, e2, e3⟩ := getL_rep S r hx
      exact .inl (.inl ⟨a, vs, e1, SqL.of e2, P.newL S (cutD_rep e3) e⟩)
    · cases e
theorem Reps.pick {ds : List D} {vs : List V} (r : Reps fa β res H ds vs) : ∀ is : List Nat, Reps fa β res H (is.filterMap (ds[·]?)) (is.filterMap (vs[·]?))
  | [] => .nil
  | i :: is => by
    rw [List.filterMap_cons, List.filterMap_cons]
    cases q : ds[i]? with
    | none =>
      have : vs[i]? = none := by
        rw [List.getElem?_eq_none_iff] at q ⊢
        rw [← r.length]; exact q
      rw [this]
      exact r.pick is
    | some d =>
      obtain ⟨w, h1, h2⟩ := r.get q
      rw [h1]
      exact .cons h2 (r.pick is)
theorem vals_pick {vs : List V} {us : List Value} (r : Vals vs us) : ∀ is : List Nat, Vals (is.filterMap (vs[·]?)) (is.filterMap (us[·]?))
  | [] => .nil
  | i :: is => by
    rw [List.filterMap_cons, List.filterMap_cons]
    cases q : vs[i]? with
    | none =>
      rw [r.none_of q]
      exact vals_pick r is
    | some d =>
      obtain ⟨w, h1, h2⟩ := r.get q
      rw [h1]
      exact .cons h2 (vals_pick r is)
end
end Mi
/-! Mi5: built-in functions and methods. -/
namespace Mi
open PySem PySem.Spec PyProof.Rows L2

/-! ### sorted texts -/
theorem ltCps_lt : ∀ a b : List Nat, ltCps a b = decide (a < b)
  | [], [] => by simp [ltCps]
  | [], _ :: _ => by simp [ltCps]
  | _ :: _, [] => by simp [ltCps]
  | a :: r, b :: t => by
    rw [ltCps, ltCps_lt r t, Bool.eq_iff_iff]
    simp [List.cons_lt_cons_iff]
def leS (x y : Str) : Prop := ltS y x = false
theorem leS_iff {x y : Str} : leS x y ↔ x.cps.toList ≤ y.cps.toList := by
  unfold leS ltS
  rw [decide_eq_false_iff_not, List.not_lt]
theorem leS_trans {x y z : Str} (a : leS x y) (b : leS y z) : leS x z := leS_iff.mpr (List.le_trans (leS_iff.mp a) (leS_iff.mp b))
theorem leS_antisymm {x y : Str} (a : leS x y) (b : leS y x) : x = y := by
  have := List.le_antisymm (leS_iff.mp a) (leS_iff.mp b)
  obtain ⟨⟨x⟩⟩ := x
  obtain ⟨⟨y⟩⟩ := y
  simp only at this
  rw [this]
theorem rising_pw : ∀ (l : List Str) (x : Str), risingS x l = true → (x :: l).Pairwise leS
  | [], x, _ => by simp
  | y :: r, x, h => by
    unfold risingS at h
    obtain ⟨h1, h2⟩ := Bool.and_eq_true_iff.mp h
    have ih := rising_pw r y h2
    have xy : leS x y := by
      unfold leS ltS
      rw [← ltCps_lt]
      simpa using h1
    refine List.Pairwise.cons (fun z hz => ?_) ih
    rcases List.mem_cons.mp hz with rfl | hz
    · exact xy
    · exact leS_trans xy (List.rel_of_pairwise_cons ih hz)
theorem sorted_pw {l : List Str} (h : sortedS l = true) : l.Pairwise leS := by
  cases l with
  | nil => simp
  | cons x r => exact rising_pw r x h
theorem insS_perm (x : Str) : ∀ l : List Str, (insS x l).Perm (x :: l)
  | [] => .refl _
  | y :: r => by
    unfold insS
    split
    · exact ((insS_perm x r).cons y).trans (.swap _ _ _)
    · exact .refl _
theorem sortS_perm : ∀ l : List Str, (sortS l).Perm l
  | [] => .refl _
  | x :: r => (insS_perm x _).trans ((sortS_perm r).cons x)
theorem insS_pw (x : Str) : ∀ l : List Str, l.Pairwise leS → (insS x l).Pairwise leS
  | [], _ => by simp [insS]
  | y :: r, h => by
    unfold insS
    by_cases q : ltS y x = true
    · rw [if_pos q]
      refine List.Pairwise.cons (fun z hz => ?_) (insS_pw x r h.of_cons)
      rcases List.mem_cons.mp ((insS_perm x r).mem_iff.mp hz) with rfl | hz
      · show ltS z y = false
        unfold ltS at q ⊢
        have q' := of_decide_eq_true q
        exact decide_eq_false (List.lt_asymm q')
      · exact List.rel_of_pairwise_cons h hz
    · rw [if_neg q]
      have xy : leS x y := Bool.eq_false_iff.mpr q
      refine List.Pairwise.cons (fun z hz => ?_) h
      rcases List.mem_cons.mp hz with rfl | hz
      · exact xy
      · exact leS_trans xy (List.rel_of_pairwise_cons h hz)
theorem sortS_pw : ∀ l : List Str, (sortS l).Pairwise leS
  | [] => by simp [sortS]
  | x :: r => insS_pw x _ (sortS_pw r)
theorem pw_unique : ∀ {a b : List Str}, a.Perm b → a.Pairwise leS → b.Pairwise leS → a = b
  | [], b, p, _, _ => (List.nil_perm.mp p).symm
  | x :: a, [], p, _, _ => absurd p.length_eq (by simp)
  | x :: a, y :: b, p, ha, hb => by
    have e : x = y := by
      have hx : x ∈ y :: b := p.mem_iff.mp (by simp)
      have hy : y ∈ x :: a := p.mem_iff.mpr (by simp)
      rcases List.mem_cons.mp hx with e | hx
      · exact e
      · rcases List.mem_cons.mp hy with e | hy
        · exact e.symm
        · exact leS_antisymm (List.rel_of_pairwise_cons ha hy) (List.rel_of_pairwise_cons hb hx)
    subst e
    rw [pw_unique (List.Perm.cons_inv p) ha.of_cons hb.of_cons]
theorem sortS_eq {xs ys : List Str} (p : ys.Perm xs) (h : sortedS ys = true) : ys = sortS xs :=
  pw_unique (p.trans (sortS_perm xs).symm) (sorted_pw h) (sortS_pw xs)

section
variable {fa : FA} {X : Cx} {res β : List Addr} {M M' : MH} {H : Hp} {d : D} {v : V} {Q : VK}
theorem Post.newM {o : MO} {ho : HO} (P : Post fa res β H (.ref M.length) (M ++ [o]) Q) (s : Sim fa β res M H) (r : RepO fa β res H o ho) : ∀ p, H p = none → Q (.ref p) (upd H p ho) := by
  intro p hp
  refine P (.ref p) _ (β ++ [p]) (step_newM hp) (s.newM hp r) (.ref ?_)
  rw [← s.len, List.getElem?_append_right (Nat.le_refl _)]
  simp
theorem Post.write {n : Nat} {a : Addr} {o : MO} {ho : HO} (P : Post fa res β H d (M.set n o) Q) (s : Sim fa β res M H) (e : β[n]? = some a) (r : RepO fa β res H o ho) (q : Rep fa β res H d v) : Q v (upd H a ho) := by
  have hm : a ∈ β := List.mem_of_getElem? e
  exact P v _ β (step_write hm) (s.write e r) (q.step (mv := []) (step_write hm) (by simp))
theorem bools_rep : ∀ {ds : List D} {vs : List V} {bs : List Bool}, Reps fa β res H ds vs → boolsOf ds = some bs → vs = bs.map V.bl
  | _, _, _, .nil, h => by simp [boolsOf] at h; subst h; rfl
  | _, _, _, .cons (d := d) (ds := ds) r q, h => by
    cases r with
    | bl b =>
      simp only [boolsOf] at h
      cases e : boolsOf ds with
      | none => rw [e] at h; cases h
      | some bs => rw [e] at h; cases h; rw [bools_rep q e]; rfl
    | _ => simp [boolsOf] at h
theorem strs_rep : ∀ {ds : List D} {vs : List V} {bs : List Str}, Reps fa β res H ds vs → strsOf ds = some bs → vs = bs.map V.str
  | _, _, _, .nil, h => by simp [strsOf] at h; subst h; rfl
  | _, _, _, .cons (d := d) (ds := ds) r q, h => by
    cases r with
    | str b =>
      simp only [strsOf] at h
      cases e : strsOf ds with
      | none => rw [e] at h; cases h
      | some bs => rw [e] at h; cases h; rw [strs_rep q e]; rfl
    | _ => simp [strsOf] at h
theorem reps_strs : ∀ xs : List Str, Reps fa β res H (xs.map D.str) (xs.map V.str)
  | [] => .nil
  | x :: r => .cons (.str x) (reps_strs r)
theorem keys_rep : ∀ {kvs : List (Key × D)} {vs : List (Key × V)} {ks : List Str}, RepKV fa β res H kvs vs → keysS kvs = some ks → vs.map (·.1) = ks.map Sum.inr
  | _, _, _, .nil, h => by simp [keysS] at h; subst h; rfl
  | _, _, _, .cons (k := k) (ds := ds) r q, h => by
    cases k with
    | inl i => simp [keysS] at h
    | inr x =>
      simp only [keysS] at h
      cases e : keysS ds with
      | none => rw [e] at h; cases h
      | some bs => rw [e] at h; cases h; rw [List.map_cons, keys_rep q e]; rfl
theorem pairs_rep {K : PySem.W.Frag} : ∀ {ds : List D} {vs : List V} {kvs : List (Key × D)}, Reps fa β res H ds vs → pairsOf ds = some kvs → ∃ (ps : List Addr) (ws : List (Key × V)), vs = ps.map V.ref ∧ Paired (fun p kv => SqT K H p [kV kv.1, kv.2]) ps ws ∧ RepKV fa β res H kvs ws
  | _, _, _, .nil, h => by simp [pairsOf] at h; subst h; exact ⟨[], [], rfl, .nil, .nil⟩
  | _, _, _, .cons (d := d) (ds := ds) r q, h => by
    unfold pairsOf at h
    split at h
    · rename_i e; cases e
    · rename_i k w rest e
      cases e
      split at h
      · rename_i k' rest' h1 h2
        cases h
        obtain ⟨ps, ws, e1, e2, e3⟩ := pairs_rep (K := K) q h2
        cases r with
        | @tup a _ vs e nb nr rr =>
          cases rr with
          | cons r1 r2 =>
            cases r2 with
            | cons r3 r4 =>
              cases r4
              refine ⟨a :: ps, (k', _) :: ws, by rw [e1]; rfl, .cons ?_ e2, .cons r3 e3⟩
              rw [keyOf_rep r1 h1] at e
              exact SqT.of e
      · cases h
    · cases h
theorem merge_rep {more : List (Key × D)} {ms : List (Key × V)} (q : RepKV fa β res H more ms) : ∀ {kvs : List (Key × D)} {vs : List (Key × V)}, RepKV fa β res H kvs vs → RepKV fa β res H (more.foldl (fun acc kv => putD acc kv.1 kv.2) kvs) (mergeK vs ms) := by
  induction q with
  | nil => intro kvs vs r; exact r
  | cons q t ih => intro kvs vs r; exact ih (putD_rep r q)
theorem Dp.noDict {K : PySem.W.Frag} : ∀ (p : PyData) (v : V), Dp K H v p → p.hasDict = false ∧ True := by
  intro p
  exact PyData.rec (motive_1 := fun p => ∀ v, Dp K H v p → p.hasDict = false ∧ True) (motive_2 := fun ps => ∀ vs, DpAll K H vs ps → PyData.hasDictAll ps = false) (motive_3 := fun _ => True) (motive_4 := fun _ => True)
    (fun _ _ => ⟨rfl, trivial⟩) (fun _ _ _ => ⟨rfl, trivial⟩) (fun _ _ _ => ⟨rfl, trivial⟩) (fun _ _ _ => ⟨rfl, trivial⟩)
    (fun xs ih v h => by cases h with | lst _ ha => exact ⟨by simp only [PyData.hasDict]; exact ih _ ha, trivial⟩)
    (fun xs ih v h => by cases h with | tup _ ha => exact ⟨by simp only [PyData.hasDict]; exact ih _ ha, trivial⟩)
    (fun kvs _ v h => by cases h)
    (fun _ _ => by simp only [PyData.hasDictAll]) (fun d ds h1 h2 vs h => by cases h with | cons a b => simp only [PyData.hasDictAll, (h1 _ a).1, h2 _ b]; rfl)
    trivial (fun _ _ _ _ => trivial) (fun _ _ _ _ => trivial) p
theorem reps1 {ds : List D} {x : V} (r : Reps fa β res H ds [x]) : ∃ d, ds = [d] ∧ Rep fa β res H d x := by
  cases r with
  | cons a b => cases b; exact ⟨_, rfl, a⟩
theorem reps1' {a : D} {vs : List V} (r : Reps fa β res H [a] vs) : ∃ x, vs = [x] ∧ Rep fa β res H a x := by
  cases r with
  | cons a b => cases b; exact ⟨_, rfl, a⟩
theorem reps2' {a b : D} {vs : List V} (r : Reps fa β res H [a, b] vs) : ∃ x y, vs = [x, y] ∧ Rep fa β res H a x ∧ Rep fa β res H b y := by
  cases r with
  | cons a r => cases r with
    | cons b r => cases r; exact ⟨_, _, rfl, a, b⟩
theorem bi_len {m : Bool} : CallR X (.builtin "len") (rSl fa (biD m "len")) := by
  intro pins s σ H xs us Q I rx h
  obtain ⟨res, β, M, ds, d, M', S, r, e, P⟩ := h
  replace e : biLen ds M = .ok d M' := e
  unfold biLen at e
  refine call_len pins s σ H xs us Q I rx ?_
  split at e
  · obtain ⟨x, rfl, q⟩ := reps1' r
    cases q
    split at e
    · rename_i hz; cases e; exact ⟨_, _, rfl, ⟨hz, rfl⟩, P.same S (.int _)⟩
    · cases e
  · obtain ⟨x, rfl, q⟩ := reps1' r
    cases e
    cases q with
    | tup e1 nb nr q => exact ⟨_, _, rfl, .inr ⟨_, SqT.of e1, q.length⟩, P.same S (.int _)⟩
  · obtain ⟨x, rfl, q⟩ := reps1' r
    split at e
    · cases e
      obtain ⟨a, vs, e1, e2, e3⟩ := getL_rep S q (by assumption)
      subst e1
      exact ⟨_, _, rfl, .inl ⟨_, SqL.of e2, e3.length⟩, P.same S (.int _)⟩
    · cases e
  · cases e
theorem bi_isi {m : Bool} : CallR X (.builtin "isinstance") (rSl fa (biD m "isinstance")) := by
  intro pins s σ H xs us Q I rx h
  obtain ⟨res, β, M, ds, d, M', S, r, e, P⟩ := h
  replace e : biIsi ds M = .ok d M' := e
  unfold biIsi at e
  split at e
  · rename_i a t
    obtain ⟨x, y, rfl, q1, q2⟩ := reps2' r
    cases q2
    refine call_isi pins s σ H _ us Q I rx ?_
    cases q : isiD a t with
    | none => rw [q] at e; cases e
    | some b =>
      rw [q] at e
      cases e
      have Pb : Q (.bl b) H := P.same S (.bl _)
      unfold isiD at q
      have fin : ∀ (T : String), TyX X.K H x (.type T) → kitB T t = some b → rIsi X.K [x, .ty t] H Q := fun T h1 h2 => ⟨x, .ty t, .type T, .type t, b, rfl, .ty t, h1, kit_ty h2, Pb⟩
      split at q
      · rename_i ht; subst ht
        cases q1 with
        | non => cases q; exact fin "NoneType" (.base .non) (by decide +kernel)
        | bl b => cases q; exact fin "bool" (.base (.bl b)) (by decide +kernel)
        | int i => cases q; exact fin "int" (.base (.int i)) (by decide +kernel)
        | str i => cases q; exact fin "str" (.base (.str i)) (by decide +kernel)
        | tup e1 => cases q; exact fin "tuple" (.base (.tup e1)) (by decide +kernel)
        | lst e1 => cases q; exact fin "list" (.base (.lst e1)) (by decide +kernel)
        | _ => cases q
      · split at q
        · rename_i ht; subst ht
          cases q1 with
          | non => cases q; exact fin "NoneType" (.base .non) (by decide +kernel)
          | bl b => cases q; exact fin "bool" (.base (.bl b)) (by decide +kernel)
          | int i => cases q; exact fin "int" (.base (.int i)) (by decide +kernel)
          | str i => cases q; exact fin "str" (.base (.str i)) (by decide +kernel)
          | tup e1 => cases q; exact fin "tuple" (.base (.tup e1)) (by decide +kernel)
          | lst e1 => cases q; exact fin "list" (.base (.lst e1)) (by decide +kernel)
          | _ => cases q
        · split at q
          · rename_i ht; subst ht
            cases q1 with
            | non => cases q; exact fin "NoneType" (.base .non) (by decide +kernel)
            | bl b => cases q; exact fin "bool" (.base (.bl b)) (by decide +kernel)
            | int i => cases q; exact fin "int" (.base (.int i)) (by decide +kernel)
            | str i => cases q; exact fin "str" (.base (.str i)) (by decide +kernel)
            | tup e1 => cases q; exact fin "tuple" (.base (.tup e1)) (by decide +kernel)
            | lst e1 => cases q; exact fin "list" (.base (.lst e1)) (by decide +kernel)
            | _ => cases q
          · split at q
            · rename_i ht; subst ht
              cases q1 with
              | non => cases q; exact fin "NoneType" (.base .non) (by decide +kernel)
              | bl b => cases q; exact fin "bool" (.base (.bl b)) (by decide +kernel)
              | int i => cases q; exact fin "int" (.base (.int i)) (by decide +kernel)
              | str i => cases q; exact fin "str" (.base (.str i)) (by decide +kernel)
              | tup e1 => cases q; exact fin "tuple" (.base (.tup e1)) (by decide +kernel)
              | lst e1 => cases q; exact fin "list" (.base (.lst e1)) (by decide +kernel)
              | _ => cases q
            · split at q
              · rename_i ht; subst ht
                cases q1 with
                | non => cases q; exact fin "NoneType" (.base .non) (by decide +kernel)
                | bl b => cases q; exact fin "bool" (.base (.bl b)) (by decide +kernel)
                | int i => cases q; exact fin "int" (.base (.int i)) (by decide +kernel)
                | str i => cases q; exact fin "str" (.base (.str i)) (by decide +kernel)
                | tup e1 => cases q; exact fin "tuple" (.base (.tup e1)) (by decide +kernel)
                | lst e1 => cases q; exact fin "list" (.base (.lst e1)) (by decide +kernel)
                | _ => cases q
              · cases q
  · cases e
theorem bi_int {m : Bool} : CallR X (.type "int") (rSl fa (biD m "int")) := by
  intro pins s σ H xs us Q I rx h
  obtain ⟨res, β, M, ds, d, M', S, r, e, P⟩ := h
  replace e : biInt ds M = .ok d M' := e
  unfold biInt at e
  split at e
  · obtain ⟨x, rfl, q⟩ := reps1' r
    refine call_int1 pins s σ H _ us Q I rx ?_
    cases q with
    | int i => cases e; exact .inl ⟨i, rfl, P.same S (.int _)⟩
    | bl b => cases e; exact .inr ⟨b, rfl, P.same S (.int _)⟩
    | _ => cases e
  · cases e
theorem bi_str {m : Bool} : CallR X (.type "str") (rSl fa (biD m "str")) := by
  intro pins s σ H xs us Q I rx h
  obtain ⟨res, β, M, ds, d, M', S, r, e, P⟩ := h
  replace e : biStr ds M = .ok d M' := e
  unfold biStr at e
  split at e
  · obtain ⟨x, rfl, q⟩ := reps1' r
    cases q
    split at e
    · rename_i hz; cases e; exact call_str_int pins s σ H _ us Q I rx ⟨_, rfl, hz, P.same S (.str _)⟩
    · cases e
  · obtain ⟨x, rfl, q⟩ := reps1' r
    cases q
    cases e
    obtain ⟨u, rfl, ru⟩ := vals1 rx
    cases ru
    exact PySem.P.str_of_bool ⟨.str _, H, I.tok _, ⟨_, rfl⟩, P.same S (.str _)⟩
  · obtain ⟨x, rfl, q⟩ := reps1' r
    cases q
    cases e
    exact SkE.call_str_str pins s σ H _ us Q I rx ⟨_, rfl, P.same S (.str _)⟩
  · cases e
theorem bi_ord {m : Bool} : CallR X (.builtin "ord") (rSl fa (biD m "ord")) := by
  intro pins s σ H xs us Q I rx h
  obtain ⟨res, β, M, ds, d, M', S, r, e, P⟩ := h
  replace e : biOrd ds M = .ok d M' := e
  unfold biOrd at e
  split at e
  · obtain ⟨x, rfl, q⟩ := reps1' r
    cases q
    split at e
    · rename_i hz; cases e; exact call_ord pins s σ H _ us Q I rx ⟨_, rfl, hz, P.same S (.int _)⟩
    · cases e
  · cases e
theorem bi_all {m : Bool} (hc : X.calm = true) : CallR X (.builtin "all") (rSl fa (biD m "all")) := by
  intro pins s σ H xs us Q I rx h
  obtain ⟨res, β, M, ds, d, M', S, r, e, P⟩ := h
  replace e : biAll ds M = .ok d M' := e
  unfold biAll at e
  split at e
  · rename_i a
    obtain ⟨x, rfl, q⟩ := reps1' r
    cases h1 : getL M a with
    | none => rw [h1] at e; cases e
    | some ys =>
      rw [h1] at e
      obtain ⟨b, vs, e1, e2, e3⟩ := getL_rep S q h1
      cases h2 : boolsOf ys with
      | none => simp only [Option.bind_some, h2] at e; cases e
      | some bs =>
        simp only [Option.bind_some, h2] at e
        cases e
        subst e1
        have := bools_rep e3 h2
        subst this
        exact cr_all hc pins s σ H _ us Q I rx ⟨b, bs, rfl, SqL.of e2, P.same S (.bl _)⟩
  · cases e
theorem bi_list {m : Bool} : CallR X (.type "list") (rSl fa (biD m "list")) := by
  intro pins s σ H xs us Q I rx h
  obtain ⟨res, β, M, ds, d, M', S, r, e, P⟩ := h
  replace e : biList m ds M = .ok d M' := e
  unfold biList at e
  split at e
  · obtain ⟨x, rfl, q⟩ := reps1' r
    cases q with
    | tup e1 nb nr q => exact call_list_of pins s σ H _ us Q I rx ⟨_, _, rfl, .inr (SqT.of e1), P.newL S q e⟩
  · obtain ⟨x, rfl, q⟩ := reps1' r
    split at e
    · obtain ⟨a, vs, e1, e2, e3⟩ := getL_rep S q (by assumption)
      subst e1
      exact call_list_of pins s σ H _ us Q I rx ⟨_, _, rfl, .inl (SqL.of e2), P.newL S e3 e⟩
    · cases e
  · cases e
theorem bi_tuple {m : Bool} : CallR X (.type "tuple") (rSl fa (biD m "tuple")) := by
  intro pins s σ H xs us Q I rx h
  obtain ⟨res, β, M, ds, d, M', S, r, e, P⟩ := h
  replace e : biTuple ds M = .ok d M' := e
  unfold biTuple at e
  split at e
  · obtain ⟨x, rfl, q⟩ := reps1' r
    cases e
    cases q with
    | tup e1 nb nr q => exact call_tuple_of pins s σ H _ us Q I rx ⟨_, _, rfl, .inr ⟨SqT.of e1, P.same S (.tup e1 nb nr q)⟩⟩
  · obtain ⟨x, rfl, q⟩ := reps1' r
    split at e
    · cases e
      obtain ⟨a, vs, e1, e2, e3⟩ := getL_rep S q (by assumption)
      subst e1
      exact call_tuple_of pins s σ H _ us Q I rx ⟨_, _, rfl, .inl ⟨SqL.of e2, P.tup S e3⟩⟩
    · cases e
  · cases e
theorem bi_dict {m : Bool} (hc : X.calm = true) : CallR X (.type "dict") (rSl fa (biD m "dict")) := by
  intro pins s σ H xs us Q I rx h
  obtain ⟨res, β, M, ds, d, M', S, r, e, P⟩ := h
  replace e : biDict ds M = .ok d M' := e
  unfold biDict at e
  split at e
  · rename_i a
    obtain ⟨x, rfl, q⟩ := reps1' r
    cases h1 : getL M a with
    | none => rw [h1] at e; cases e
    | some ys =>
      rw [h1] at e
      obtain ⟨b, vs, e1, e2, e3⟩ := getL_rep S q h1
      cases h2 : pairsOf ys with
      | none => simp only [Option.bind_some, h2] at e; cases e
      | some kvs =>
        simp only [Option.bind_some, h2] at e
        cases e
        subst e1
        obtain ⟨ps, ws, f1, f2, f3⟩ := pairs_rep (K := X.K) e3 h2
        subst f1
        exact call_dictP hc pins s σ H _ us Q I rx ⟨b, ps, ws, rfl, SqL.of e2, f2, P.newM S (.dict (merge_rep f3 .nil))⟩
  · cases e
theorem bi_sorted {m : Bool} (hc : X.calm = true) : CallR X (.builtin "sorted") (rSl fa (biD m "sorted")) := by
  intro pins s σ H xs us Q I rx h
  obtain ⟨res, β, M, ds, d, M', S, r, e, P⟩ := h
  replace e : biSorted m ds M = .ok d M' := e
  unfold biSorted at e
  split at e
  · rename_i a
    obtain ⟨x, rfl, q⟩ := reps1' r
    split at e
    · rename_i ss h1
      obtain ⟨ys, h1, h2⟩ := Option.bind_eq_some_iff.mp h1
      obtain ⟨b, vs, e1, e2, e3⟩ := getL_rep S q h1
      subst e1
      have := strs_rep e3 h2
      subst this
      split at e
      · rename_i hz
        refine cr_sortedS pins s σ H _ us Q I rx ⟨b, ss, rfl, SqL.of e2, hz, fun zs p pm so hp => ?_⟩
        rw [sortS_eq pm so]
        exact P.newL S (reps_strs _) e p hp
      · cases e
    · split at e
      · rename_i ss h1
        obtain ⟨ys, h1, h2⟩ := Option.bind_eq_some_iff.mp h1
        obtain ⟨b, vs, e1, e2, e3⟩ := getDict_rep S q h1
        subst e1
        split at e
        · rename_i hz
          refine call_sortedD hc pins s σ H _ us Q I rx ⟨b, vs, ss, rfl, .inl e2, keys_rep e3 h2, hz, fun zs p pm so hp => ?_⟩
          rw [sortS_eq pm so]
          exact P.newL S (reps_strs _) e p hp
        · cases e
      · cases e
  · cases e
theorem repr_ref {p : PyData} {x : V} {xs : List V} {us : List Value} {pins : List (Addr × Obj)} {s : Shared} {σ : L2.St} (hg : X.A.guards = some []) (hu : X.A.units + 65 < cLine) (I : Inv X pins σ H s) (rx : Vals [x] us) (hx : ∃ a, x = .ref a) (h : Dp X.K H x p)
    (hs : (p.showable && decide (p.depth ≤ 60) && decide (p.shown.length ≤ sizeLine)) = true) (q : Q (.str p.shown) H) : wpAny (model X.prog X.w) X.A (call (.builtin "repr") us) (EP X pins σ Q) X.xe s := by
  obtain ⟨u, rfl, ru⟩ := vals1 rx
  obtain ⟨a, rfl⟩ := hx
  obtain ⟨as, hr⟩ := Dp.reads I p _ u h ru
  cases ru
  obtain ⟨h12, h3⟩ := Bool.and_eq_true_iff.mp hs
  obtain ⟨h1, h2⟩ := Bool.and_eq_true_iff.mp h12
  have hd : p.depth ≤ 60 := of_decide_eq_true h2
  exact repr_of_reads' hr h1 (fun z => by rw [(Dp.noDict p _ h).1] at z; cases z) hg (by omega) (fun _ _ e => e) (fun h' t k hk => ⟨.str _, H, I.kept hk, ⟨_, rfl⟩, q⟩) (of_decide_eq_true h3)
theorem bi_repr {m : Bool} (hg : X.A.guards = some []) (hu : X.A.units + 65 < cLine) : CallR X (.builtin "repr") (rSl fa (biD m "repr")) := by
  intro pins s σ H xs us Q I rx h
  obtain ⟨res, β, M, ds, d, M', S, r, e, P⟩ := h
  replace e : biRepr ds M = .ok d M' := e
  unfold biRepr at e
  split at e
  · rename_i a
    obtain ⟨x, rfl, q⟩ := reps1' r
    cases h1 : reprD a M with
    | none => rw [h1] at e; cases e
    | some z =>
      rw [h1] at e
      cases e
      unfold reprD at h1
      split at h1
      · rename_i ht
        split at h1
        · rename_i p hp
          split at h1
          · rename_i hz
            cases h1
            refine repr_ref (xs := []) hg hu I rx ?_ (pyM_dp S q hp) hz (P.same S (.str _))
            cases q <;> first | exact ⟨_, rfl⟩ | cases ht
          · cases h1
        · cases h1
      · cases h1
  · cases e
end
end Mi
/-! Mi6: readings by evaluation; calls of defs where no repr is under way. -/
namespace Mi
open PySem PySem.Spec PyProof.Rows L2

section
variable (fa : FA)
def tE (f : Rho → MH → Res D) : TE := fun σ H Q => ∃ res β ρ M d M', Sim fa β res M H ∧ RepS fa β res H ρ σ ∧ f ρ M = .ok d M' ∧ Post fa res β H d M' Q
def tB (f : Rho → MH → Res Bool) : TT := fun σ H Q => ∃ res β ρ M b M', Sim fa β res M H ∧ RepS fa β res H ρ σ ∧ f ρ M = .ok b M' ∧ ∀ H' β', Step [] β H β' H' → Sim fa β' res M' H' → Q b H'
def tL (f : Rho → MH → Res (List D)) : TA := fun σ H Q => ∃ res β ρ M ds M', Sim fa β res M H ∧ RepS fa β res H ρ σ ∧ f ρ M = .ok ds M' ∧ ∀ vs H' β', Step [] β H β' H' → Sim fa β' res M' H' → Reps fa β' res H' ds vs → Q vs H'
def tO (f : Rho → MH → Res (Option D)) : TO := fun σ H Q => ∃ res β ρ M o i M', Sim fa β res M H ∧ RepS fa β res H ρ σ ∧ f ρ M = .ok o M' ∧ optI o = some i ∧ ∀ H' β', Step [] β H β' H' → Sim fa β' res M' H' → Q i H'
def PostF (res β : List Addr) (H : Hp) (o : Fl) (M' : MH) (En : Ends) : Prop := match o with
  | .nx ρ => ∀ σ' H' β', Step [] β H β' H' → Sim fa β' res M' H' → RepS fa β' res H' ρ σ' → En.nx σ' H'
  | .rt d => Post fa res β H d M' En.rt
def tF (f : Rho → MH → Res Fl) : TS := fun En σ H => ∃ res β ρ M o M', Sim fa β res M H ∧ RepS fa β res H ρ σ ∧ f ρ M = .ok o M' ∧ PostF fa res β H o M' En
/-- a def's promise: the value of f -/
def spD (f : List D → MH → Res D) (n : Nat) : Sp := fun vs H Q _ => ∃ res β M ds d M', Sim fa β res M H ∧ Reps fa β res H ds vs ∧ ds.length = n ∧ f ds M = .ok d M' ∧ Post fa res β H d M' Q
end
section
variable {fa : FA} {X : Cx} {res β β1 : List Addr} {M M' : MH} {H H1 : Hp} {d : D} {v : V} {Q : VK} {ρ : Rho} {σ : L2.St}
theorem Post.after (P : Post fa res β H d M' Q) (s : Step [] β H β1 H1) : Post fa res β1 H1 d M' Q := fun v H' β' st sm r => P v H' β' (s.trans st) sm r
theorem PostF.after {o : Fl} {En : Ends} (P : PostF fa res β H o M' En) (s : Step [] β H β1 H1) : PostF fa res β1 H1 o M' En := by
  cases o with
  | nx ρ => exact fun σ' H' β' st sm r => P σ' H' β' (s.trans st) sm r
  | rt d => exact Post.after P s
theorem tE.use {f : Rho → MH → Res D} (S : Sim fa β res M H) (R : RepS fa β res H ρ σ) (e : f ρ M = .ok d M') (h : ∀ v H' β', Step [] β H β' H' → Sim fa β' res M' H' → RepS fa β' res H' ρ σ → Rep fa β' res H' d v → Q v H') : tE fa f σ H Q :=
  ⟨res, β, ρ, M, d, M', S, R, e, fun v H' β' st s r => h v H' β' st s (R.step st (by simp)) r⟩
theorem tB.use {f : Rho → MH → Res Bool} {b : Bool} {Q : Bool → Hp → Prop} (S : Sim fa β res M H) (R : RepS fa β res H ρ σ) (e : f ρ M = .ok b M') (h : ∀ H' β', Step [] β H β' H' → Sim fa β' res M' H' → RepS fa β' res H' ρ σ → Q b H') : tB fa f σ H Q :=
  ⟨res, β, ρ, M, b, M', S, R, e, fun H' β' st s => h H' β' st s (R.step st (by simp))⟩
theorem tL.use {f : Rho → MH → Res (List D)} {ds : List D} {Q : List V → Hp → Prop} (S : Sim fa β res M H) (R : RepS fa β res H ρ σ) (e : f ρ M = .ok ds M') (h : ∀ vs H' β', Step [] β H β' H' → Sim fa β' res M' H' → RepS fa β' res H' ρ σ → Reps fa β' res H' ds vs → Q vs H') : tL fa f σ H Q :=
  ⟨res, β, ρ, M, ds, M', S, R, e, fun vs H' β' st s r => h vs H' β' st s (R.step st (by simp)) r⟩
theorem tO.use {f : Rho → MH → Res (Option D)} {o : Option D} {i : Option Int} {Q : Option Int → Hp → Prop} (S : Sim fa β res M H) (R : RepS fa β res H ρ σ) (e : f ρ M = .ok o M') (hi : optI o = some i) (h : ∀ H' β', Step [] β H β' H' → Sim fa β' res M' H' → RepS fa β' res H' ρ σ → Q i H') : tO fa f σ H Q :=
  ⟨res, β, ρ, M, o, i, M', S, R, e, hi, fun H' β' st s => h H' β' st s (R.step st (by simp))⟩
theorem PE.weak {e : Expr} {t t' : TE} (h : PE X e t) (w : ∀ σ H Q, t' σ H Q → t σ H Q) : PE X e t' := ⟨fun pins s σ H Q I q => h.run pins s σ H Q I (w σ H Q q)⟩
theorem PT.weak {e : Expr} {t t' : TT} (h : PT X e t) (w : ∀ σ H Q, t' σ H Q → t σ H Q) : PT X e t' := ⟨fun pins s σ H Q I q => h.run pins s σ H Q I (w σ H Q q)⟩
theorem PW.weak {e : Expr} {t t' : TT} (h : PW X e t) (w : ∀ σ H Q, t' σ H Q → t σ H Q) : PW X e t' := ⟨fun wh pins s σ H Q I q => h.run wh pins s σ H Q I (w σ H Q q)⟩
theorem PA.weak {es : List Expr} {t t' : TA} (h : PA X es t) (w : ∀ σ H Q, t' σ H Q → t σ H Q) : PA X es t' := ⟨fun pos pins s σ H Q I q => h.run pos pins s σ H Q I (w σ H Q q)⟩
theorem PO.weak {e : Option Expr} {t t' : TO} (h : PO X e t) (w : ∀ σ H Q, t' σ H Q → t σ H Q) : PO X e t' := ⟨fun pins s σ H Q I q => h.run pins s σ H Q I (w σ H Q q)⟩
theorem PS.weak {st : Stmt} {t t' : TS} (h : PS X st t) (w : ∀ En σ H, t' En σ H → t En σ H) : PS X st t' := ⟨fun pins s σ H En I q => h.run pins s σ H En I (w En σ H q)⟩
theorem PSs.weak {st : List Stmt} {t t' : TS} (h : PSs X st t) (w : ∀ En σ H, t' En σ H → t En σ H) : PSs X st t' := ⟨fun pins s σ H En I q => h.run pins s σ H En I (w En σ H q)⟩
/-- two roads for one expression -/
theorem PE.both {e : Expr} {t t' : TE} (h : PE X e t) (h' : PE X e t') : PE X e (fun σ H Q => t σ H Q ∨ t' σ H Q) := ⟨fun pins s σ H Q I q => q.elim (h.run pins s σ H Q I) (h'.run pins s σ H Q I)⟩
theorem PE.all {e : Expr} {ι : Type} {t : ι → TE} (h : ∀ i, PE X e (t i)) : PE X e (fun σ H Q => ∃ i, t i σ H Q) := ⟨fun pins s σ H Q I ⟨i, q⟩ => (h i).run pins s σ H Q I q⟩
end

/-! ### calls -/
structure FnG (P : Program) (w : World) (K : PySem.W.Frag) (mg : Str → Option Value) (base : Heap) (k : Nat) (f : Addr) (fd : FuncData) (ps : List Str) (sp : Sp) : Prop where
  len : ∀ vs H Q E, sp vs H Q E → vs.length = ps.length
  run : ∀ (A : Around) (outer : List Env) (s : Shared) (H : Hp) (args : Args) (us : List Value) (vs : List V) (Q : VK), Room k A → A.guards = some [] → Env0 P w K mg base A outer s H → BindsTo s fd args (ps.zip us) → Vals vs us → sp vs H Q E0 →
    codeAny (model P w) A (.call (.ref f) args) (CR CX0 outer P w H s Q E0) s
theorem deeper_guards {A : Around} {env : Env} (h : A.guards = some []) : (A.deeper env).guards = some [] := h
section
variable {P : Program} {w : World} {K : PySem.W.Frag} {mg : Str → Option Value} {base : Heap}
theorem fnG_mk {x qual : Str} {st : Stmt} {f : Addr} {fd : FuncData} {N ps : List Str} {k : Nat} {sp : Sp} (F : Fun K x qual st f fd) (S : FnScope N ps (defScope st)) (len : ∀ vs H Q E, sp vs H Q E → vs.length = ps.length)
    (body : ∀ (cdv : Value) (A : Around) (outer : List Env) (s : Shared) (H : Hp) (vs : List V) (Q : VK), Room k (A.deeper (envOfC qual (defScope st) s.heap.objs.size f cdv)) → A.guards = some [] → sp vs H Q E0 →
      ∃ t, PSs (cxOf CX0 P w K mg base N qual (defScope st) f cdv A outer s H E0).nox (defBody st) t ∧ t { nx := fun _ H' => Q .non H', rt := Q } (start N vs) H) : FnG P w K mg base (k + 1) f fd ps sp := by
  obtain ⟨oc, od, kV, doc, pm, an, cdv, ct, osl, rfl, lk, hcd⟩ := F.ex
  refine ⟨len, fun A outer s H args us vs Q hr hgd env hbd rel hsp => ?_⟩
  have inK : K.In s.heap := env.mod.kin.keeps fun b o q => (env.bs b o q).1
  have nolim : s.heap.NoLimit := env.mod.nolimit.keeps fun b o q => (env.bs b o q).1
  have kinds : ∀ y ∈ ps.zip us, (defScope st).names.lookup y.1 = some .local ∨ ((defScope st).names.lookup y.1 = some .cell ∧ ((cellsFrom (s.heap.objs.size + 1) (defScope st).names []).lookup y.1).isSome = true) := by
    rintro ⟨n, z⟩ hy
    rcases S.par n (List.of_mem_zip hy).1 with q | q
    · exact .inl q
    · exact .inr ⟨q, PySem.W.cellsFrom_some _ _ _ (.inl q)⟩
  refine codeAny_call_function hr.depth (inK _ _ lk) rfl S.co S.gen rfl (PySem.W.codeRec_of inK hcd) (hbd _ _ _ _ ?_)
  refine wpAny_newFunctionEnv_cells S.kind kinds fun ev hev s1 inside => ?_
  subst hev
  refine ⟨nolim.keeps inside.toInCall.keep, codeAny_func ?_⟩
  obtain ⟨t, ht, hq⟩ := body cdv A outer s H vs Q (hr.deeper _) hgd hsp
  have I0 : Inv (cxOf CX0 P w K mg base N qual (defScope st) f cdv A outer s H E0) [] (start N vs) H s1 := inv_start S hr.hd env (len _ _ _ _ hsp) rel inside
  refine wpAny_mono (ht.nox.run [] s1 (start N vs) H _ I0 hq) (fun fl s' hs => ?_) fun e s' hs => hs
  cases fl with
  | ret u =>
    obtain ⟨z, σ', H', J, rz, q⟩ := hs
    exact ⟨z, H', J.os, J.bare, J.base, J.hok, rz, q⟩
  | next =>
    obtain ⟨σ', H', J, q⟩ := hs
    exact ⟨.non, H', J.os, J.bare, J.base, J.hok, rfl, q⟩
  | brk => obtain ⟨_, _, _, q⟩ := hs; exact q.elim
  | cont => obtain ⟨_, _, _, q⟩ := hs; exact q.elim
end
section
variable {X : Cx} {k : Nat} {f : Addr} {fd : FuncData} {ps : List Str} {sp : Sp} {x : Str} {p pos : Pos} {e : Expr} {es : List Expr} {t : TA}
theorem run_G {pins : List (Addr × Obj)} {σ : L2.St} {H : Hp} {s : Shared} {Q : VK} {us : List Value} {vs : List V} (F : FnG X.prog X.w X.K X.mg X.base k f fd ps sp) (hr : Room k X.A) (hg : X.A.guards = some []) (hb : Binds X.K fd ps [])
    (I : Inv X pins σ H s) (r : Vals vs us) (h : sp vs H Q E0) : wpAny (model X.prog X.w) X.A (call (.ref f) us) (EP X pins σ Q) X.xe s := by
  have hl : us.length = ps.length := by rw [← r.length]; exact F.len _ _ _ _ h
  have hb' := hb s us I.kIn (by simpa using hl)
  rw [List.append_nil] at hb'
  refine wpAny_call (codeAny_mono (F.run X.A X.stack s H ⟨us, []⟩ us vs Q hr hg I.env0 hb' r h) fun rr s' hq => ?_)
  cases rr with
  | error _ => exact False.elim hq
  | ok fl =>
    cases fl with
    | ret u => exact I.after hq
    | next => exact False.elim hq
    | brk => exact False.elim hq
    | cont => exact False.elim hq
/-- the arguments, then the callee -/
def tG (sp : Sp) (t : TA) : TE := fun σ H Q => t σ H fun vs H1 => sp vs H1 Q E0
theorem pe_callG (F : FnG X.prog X.w X.K X.mg X.base k f fd ps sp) (hr : Room k X.A) (hgd : X.A.guards = some []) (hg : Gl X x) (hm : X.mg x = some (.ref f)) (hk : PySem.W.keepIn X.K (.ref f) = true) (hb : Binds X.K fd ps [])
    (ha : PA X (e :: es) t) (hdb : (x == ("__debug__" : Str)) = false) (he : starEach (e :: es) X.env = (false, eval e X.env) :: starEach es X.env) (hpl : (backTo pos (starEach es X.env)).any (·.1) = false) :
    PE X (.Call (.Name x p) (e :: es) [] pos) (tG sp t) := by
  refine ⟨fun pins s σ H Q I h => wpAny_Call_Name_kw (ld_glob I hg hm ?_ hdb)⟩
  exact PySem.W.callWith_K (h₀ := X.base) I.ok.mod.kin hk (thn (ha.run pos pins s σ H _ I h) fun us s1 ⟨vs, H1, I1, r, q⟩ => ⟨I1.kIn, run_G F hr hgd hb I1 r q⟩) he hpl
theorem pe_callG0 (F : FnG X.prog X.w X.K X.mg X.base k f fd ps sp) (hr : Room k X.A) (hgd : X.A.guards = some []) (hg : Gl X x) (hm : X.mg x = some (.ref f)) (hk : PySem.W.keepIn X.K (.ref f) = true) (hb : Binds X.K fd ps [])
    (hdb : (x == ("__debug__" : Str)) = false) : PE X (.Call (.Name x p) [] [] pos) (fun _ H Q => sp [] H Q E0) := by
  refine ⟨fun pins s σ H Q I h => wpAny_Call_Name_kw (ld_glob I hg hm ?_ hdb)⟩
  exact PySem.W.callWith_K0 I.kIn hk (run_G (us := []) F hr hgd hb I .nil h)
/-- a def that a local name holds -/
theorem pe_callGV {i : Nat} (hN : X.N[i]? = some x) (hv : Vis X.env.scope x) (hdb : (x == ("__debug__" : Str)) = false) (hcd : (x == ("__classdict__" : Str)) = false) (hr : Room k X.A) (hgd : X.A.guards = some [])
    (ha : PA X (e :: es) t) (he : starEach (e :: es) X.env = (false, eval e X.env) :: starEach es X.env) (hpl : (backTo pos (starEach es X.env)).any (·.1) = false) :
    PE X (.Call (.Name x p) (e :: es) [] pos) (fun σ H Q => ∃ (f : Addr) (fd : FuncData) (ps : List Str) (sp : Sp), σ[i]? = some (some (.ref f)) ∧ FnG X.prog X.w X.K X.mg X.base k f fd ps sp ∧ PySem.W.keepIn X.K (.ref f) = true ∧ Binds X.K fd ps [] ∧ tG sp t σ H Q) := by
  refine ⟨fun pins s σ H Q I h => ?_⟩
  obtain ⟨f, fd, ps, sp, e1, F, hk, hb, q⟩ := h
  refine wpAny_Call_Name_kw (thn ((pe_var (pos := p) hN hv hdb hcd).run pins s σ H (fun v H' => v = .ref f ∧ H' = H) I ⟨_, e1, rfl, rfl⟩) fun u s1 ⟨w', H1, I1, r1, e2, e3⟩ => ?_)
  subst e2 e3
  cases r1
  exact PySem.W.callWith_K (h₀ := X.base) I1.ok.mod.kin hk (thn (ha.run pos pins s1 σ H1 _ I1 q) fun us s2 ⟨vs, H2, I2, r, q⟩ => ⟨I2.kIn, run_G F hr hgd hb I2 r q⟩) he hpl
/-- f(y = e), f's one parameter -/
theorem pe_callGK {y : Str} {te : TE} {kp : Pos} (F : FnG X.prog X.w X.K X.mg X.base k f fd [y] sp) (hr : Room k X.A) (hgd : X.A.guards = some []) (hg : Gl X x) (hm : X.mg x = some (.ref f)) (hk : PySem.W.keepIn X.K (.ref f) = true)
    (hb : ∀ (s : Shared) (u : Value), BindsTo s fd ⟨[], [(y, u)]⟩ [(y, u)]) (he : PE X e te) (hdb : (x == ("__debug__" : Str)) = false) :
    PE X (.Call (.Name x p) [] [⟨some y, e, kp⟩] pos) (fun σ H Q => te σ H fun z H1 => ∃ z', [z] = [z'] ∧ sp [z'] H1 Q E0) := by
  refine ⟨fun pins s σ H Q I h => wpAny_Call_Name_kw (ld_glob I hg hm ?_ hdb)⟩
  refine PySem.W.callWith_KW0 (h₀ := X.base) I.ok.mod.kin hk rfl (thn ((pk_cons (kpos := kp) (nm := some y) he pk_nil).run pos pins s σ H (fun vs H1 => ∃ z, vs = [z] ∧ sp [z] H1 Q E0) I h) fun ws s2 ⟨vs, H2, I2, r2, z, e2, q2⟩ => ⟨I2.kIn, ?_⟩) rfl
  · subst e2
    obtain ⟨u, rfl, ru⟩ := vals1 r2
    refine wpAny_call (codeAny_mono (F.run X.A X.stack s2 H2 ⟨[], [(y, u)]⟩ [u] [z] Q hr hgd I2.env0 (hb s2 u) r2 q2) fun rr s' hq => ?_)
    cases rr with
    | error _ => exact False.elim hq
    | ok fl =>
      cases fl with
      | ret u => exact I2.after hq
      | next => exact False.elim hq
      | brk => exact False.elim hq
      | cont => exact False.elim hq
end
end Mi
/-! Mi7: a rule for each form of expression. -/
namespace Mi
open PySem PySem.Spec PyProof.Rows L2

section
variable {fa : FA} {X : Cx} {a b c e : Expr} {es : List Expr} {pos p : Pos} {f f1 f2 f3 : Rho → MH → Res D}
theorem r_var {i : Nat} {x : Str} (hN : X.N[i]? = some x) (hv : Vis X.env.scope x) (hd : (x == ("__debug__" : Str)) = false) (hcd : (x == ("__classdict__" : Str)) = false) :
    PE X (.Name x pos) (tE fa fun ρ M => match ρ[i]? with | some (some d) => .ok d M | _ => .bad) := by
  refine PE.weak (pe_var hN hv hd hcd) fun σ H Q h => ?_
  obtain ⟨res, β, ρ, M, d, M', S, R, e, P⟩ := h
  simp only at e
  split at e
  · rename_i q
    cases e
    obtain ⟨v, h1, h2⟩ := R.at_ i _ q
    exact ⟨v, h1, P.same S h2⟩
  · cases e
theorem r_C {d : D} {v : V} (h : PE X e (tC v)) (hr : ∀ β res H, Rep fa β res H d v) : PE X e (tE fa fun _ M => .ok d M) := by
  refine PE.weak h fun σ H Q h => ?_
  obtain ⟨res, β, ρ, M, d', M', S, R, e, P⟩ := h
  cases e
  exact P.same S (hr _ _ _)
theorem r_bin {o : Operator} {m : Bool} (ha : PE X a (tE fa f1)) (hb : PE X b (tE fa f2)) : PE X (.BinOp a o b pos) (tE fa fun ρ M => (f1 ρ M).bind fun x M1 => (f2 ρ M1).bind fun y M2 => binD m o x y M2) := by
  refine PE.weak (pe_op (sim_bin (fa := fa) m o) ha hb) fun σ H Q h => ?_
  obtain ⟨res, β, ρ, M, d, M', S, R, e, P⟩ := h
  obtain ⟨x, M1, e1, e⟩ := Res.bind_ok e
  obtain ⟨y, M2, e2, e⟩ := Res.bind_ok e
  refine tE.use S R e1 fun v H1 β1 s1 S1 R1 r1 => tE.use S1 R1 e2 fun w H2 β2 s2 S2 R2 r2 => ?_
  exact ⟨res, β2, M2, x, y, d, M', S2, r1.step s2 (by simp), r2, e, P.after (s1.trans s2)⟩
theorem r_neg (ha : PE X a (tE fa f1)) : PE X (.UnaryOp .USub a pos) (tE fa fun ρ M => (f1 ρ M).bind fun x M1 => match x with | .int i => .ok (.int (-i)) M1 | _ => .bad) := by
  refine PE.weak (pe_un un_neg ha) fun σ H Q h => ?_
  obtain ⟨res, β, ρ, M, d, M', S, R, e, P⟩ := h
  obtain ⟨x, M1, e1, e⟩ := Res.bind_ok e
  refine tE.use S R e1 fun v H1 β1 s1 S1 R1 r1 => ?_
  split at e
  · cases e; cases r1; exact ⟨_, rfl, (P.after s1).same S1 (.int _)⟩
  · cases e
theorem r_not (ha : PE X a (tE fa f1)) : PE X (.UnaryOp .Not a pos) (tE fa fun ρ M => (f1 ρ M).bind fun x M1 => match truD M1 x with | some k => .ok (.bl (!k)) M1 | none => .bad) := by
  refine PE.weak (pe_notT ha) fun σ H Q h => ?_
  obtain ⟨res, β, ρ, M, d, M', S, R, e, P⟩ := h
  obtain ⟨x, M1, e1, e⟩ := Res.bind_ok e
  refine tE.use S R e1 fun v H1 β1 s1 S1 R1 r1 => ?_
  split at e
  · rename_i k hk; cases e; exact ⟨k, truD_of S1 r1 hk, (P.after s1).same S1 (.bl _)⟩
  · cases e
theorem r_and {rest : List Expr} (ha : PE X a (tE fa f1)) (hb : PE X (.BoolOp .And (b :: rest) pos) (tE fa f2)) : PE X (.BoolOp .And (a :: b :: rest) pos) (tE fa fun ρ M => (f1 ρ M).bind fun x M1 => match truD M1 x with | some true => f2 ρ M1 | some false => .ok x M1 | none => .bad) := by
  refine PE.weak (pe_andT ha hb) fun σ H Q h => ?_
  obtain ⟨res, β, ρ, M, d, M', S, R, e, P⟩ := h
  obtain ⟨x, M1, e1, e⟩ := Res.bind_ok e
  refine tE.use S R e1 fun v H1 β1 s1 S1 R1 r1 => ?_
  split at e
  · rename_i hk
    exact ⟨true, truD_of S1 r1 hk, by rw [if_pos rfl]; exact ⟨res, β1, ρ, M1, d, M', S1, R1, e, P.after s1⟩⟩
  · rename_i hk
    cases e
    exact ⟨false, truD_of S1 r1 hk, by rw [if_neg Bool.false_ne_true]; exact (P.after s1).same S1 r1⟩
  · cases e
theorem r_or {rest : List Expr} (ha : PE X a (tE fa f1)) (hb : PE X (.BoolOp .Or (b :: rest) pos) (tE fa f2)) : PE X (.BoolOp .Or (a :: b :: rest) pos) (tE fa fun ρ M => (f1 ρ M).bind fun x M1 => match truD M1 x with | some true => .ok x M1 | some false => f2 ρ M1 | none => .bad) := by
  refine PE.weak (pe_orT ha hb) fun σ H Q h => ?_
  obtain ⟨res, β, ρ, M, d, M', S, R, e, P⟩ := h
  obtain ⟨x, M1, e1, e⟩ := Res.bind_ok e
  refine tE.use S R e1 fun v H1 β1 s1 S1 R1 r1 => ?_
  split at e
  · rename_i hk
    cases e
    exact ⟨true, truD_of S1 r1 hk, by rw [if_pos rfl]; exact (P.after s1).same S1 r1⟩
  · rename_i hk
    exact ⟨false, truD_of S1 r1 hk, by rw [if_neg Bool.false_ne_true]; exact ⟨res, β1, ρ, M1, d, M', S1, R1, e, P.after s1⟩⟩
  · cases e
/-- where the values are compared -/
theorem cmp_use {o : CmpOp} {res β : List Addr} {ρ : Rho} {M : MH} {σ : L2.St} {H : Hp} {x y : D} {M1 M2 : MH} {k : Bool} {G : VK} (S : Sim fa β res M H) (R : RepS fa β res H ρ σ) (e1 : f1 ρ M = .ok x M1) (e2 : f2 ρ M1 = .ok y M2) (e : cmpD o x y M2 = some k)
    (h : ∀ w H2 β2, Step [] β H β2 H2 → Sim fa β2 res M2 H2 → RepS fa β2 res H2 ρ σ → Rep fa β2 res H2 y w → G (.bl k) H2) : tOp (rSc fa (cmpD o)) (tE fa f1) (tE fa f2) σ H G := by
  refine tE.use S R e1 fun v H1 β1 s1 S1 R1 r1 => tE.use S1 R1 e2 fun w H2 β2 s2 S2 R2 r2 => ?_
  exact ⟨res, β2, M2, x, y, k, S2, r1.step s2 (by simp), r2, e, h w H2 β2 (s1.trans s2) S2 R2 r2⟩
theorem r_cmp {o : CmpOp} (hu : X.A.units + 65 < cLine) (ha : PE X a (tE fa f1)) (hb : PE X b (tE fa f2)) (hm : behindInMarks o b = false) : PE X (.Compare a [o] [b] pos) (tE fa fun ρ M => (f1 ρ M).bind fun x M1 => (f2 ρ M1).bind fun y M2 => match cmpD o x y M2 with | some k => .ok (.bl k) M2 | none => .bad) := by
  refine PE.weak (pe_cmpR (sim_cmp (fa := fa) hu o) ha hb hm) fun σ H Q h => ?_
  obtain ⟨res, β, ρ, M, d, M', S, R, e, P⟩ := h
  obtain ⟨x, M1, e1, e⟩ := Res.bind_ok e
  obtain ⟨y, M2, e2, e⟩ := Res.bind_ok e
  split at e
  · rename_i k hk
    cases e
    exact cmp_use S R e1 e2 hk fun w H2 β2 s2 S2 _ _ => (P.after s2).same S2 (.bl _)
  · cases e
theorem t_cmp {o : CmpOp} (hu : X.A.units + 65 < cLine) (ha : PE X a (tE fa f1)) (hb : PE X b (tE fa f2)) (hm : behindInMarks o b = false) : PT X (.Compare a [o] [b] pos) (tB fa fun ρ M => (f1 ρ M).bind fun x M1 => (f2 ρ M1).bind fun y M2 => match cmpD o x y M2 with | some k => .ok k M2 | none => .bad) := by
  refine PT.weak (pt_cmpR (sim_cmp (fa := fa) hu o) ha hb hm) fun σ H Q h => ?_
  obtain ⟨res, β, ρ, M, d, M', S, R, e, P⟩ := h
  obtain ⟨x, M1, e1, e⟩ := Res.bind_ok e
  obtain ⟨y, M2, e2, e⟩ := Res.bind_ok e
  split at e
  · rename_i k hk
    cases e
    exact cmp_use S R e1 e2 hk fun w H2 β2 s2 S2 _ _ => ⟨_, rfl, P H2 β2 s2 S2⟩
  · cases e
theorem chain_use {o o' : CmpOp} {res β : List Addr} {ρ : Rho} {M : MH} {σ : L2.St} {H : Hp} {x y : D} {M1 M2 M' : MH} {k : Bool} {G : VK} (S : Sim fa β res M H) (R : RepS fa β res H ρ σ) (e1 : f1 ρ M = .ok x M1) (e2 : f2 ρ M1 = .ok y M2)
    (e : (match cmpD o x y M2 with
      | some true => (f3 ρ M2).bind fun z M3 => (match cmpD o' y z M3 with | some k => Res.ok k M3 | none => .bad)
      | some false => .ok false M2
      | none => .bad) = .ok k M')
    (h : ∀ H2 β2, Step [] β H β2 H2 → Sim fa β2 res M' H2 → G (.bl k) H2) : tChain (rSc fa (cmpD o)) (rSc fa (cmpD o')) (tE fa f1) (tE fa f2) (tE fa f3) σ H G := by
  refine tE.use S R e1 fun v H1 β1 s1 S1 R1 r1 => tE.use S1 R1 e2 fun w H2 β2 s2 S2 R2 r2 => ?_
  split at e
  · rename_i hk
    obtain ⟨z, M3, e3, e⟩ := Res.bind_ok e
    split at e
    · rename_i k' hk'
      cases e
      refine ⟨res, β2, M2, x, y, true, S2, r1.step s2 (by simp), r2, hk, true, rfl, ?_⟩
      rw [if_pos rfl]
      refine tE.use S2 R2 e3 fun u H3 β3 s3 S3 R3 r3 => ?_
      exact ⟨res, β3, _, y, z, k, S3, r2.step s3 (by simp), r3, hk', h H3 β3 ((s1.trans s2).trans s3) S3⟩
    · cases e
  · rename_i hk
    cases e
    refine ⟨res, β2, _, x, y, false, S2, r1.step s2 (by simp), r2, hk, false, rfl, ?_⟩
    rw [if_neg Bool.false_ne_true]
    exact h H2 β2 (s1.trans s2) S2
  · cases e
theorem r_chain {o o' : CmpOp} (hu : X.A.units + 65 < cLine) (ha : PE X a (tE fa f1)) (hb : PE X b (tE fa f2)) (hc : PE X c (tE fa f3)) (hm : lastMarks [o, o'] [b, c] = false) :
    PE X (.Compare a [o, o'] [b, c] pos) (tE fa fun ρ M => (f1 ρ M).bind fun x M1 => (f2 ρ M1).bind fun y M2 => match cmpD o x y M2 with
      | some true => (f3 ρ M2).bind fun z M3 => (match cmpD o' y z M3 with | some k => .ok (.bl k) M3 | none => .bad)
      | some false => .ok (.bl false) M2
      | none => .bad) := by
  refine PE.weak (pe_chain (sim_cmp (fa := fa) hu o) (sim_cmp (fa := fa) hu o') ha hb hc hm) fun σ H Q h => ?_
  obtain ⟨res, β, ρ, M, d, M', S, R, e, P⟩ := h
  obtain ⟨x, M1, e1, e⟩ := Res.bind_ok e
  obtain ⟨y, M2, e2, e⟩ := Res.bind_ok e
  have key : ∃ k, d = .bl k ∧ (match cmpD o x y M2 with
      | some true => (f3 ρ M2).bind fun z M3 => (match cmpD o' y z M3 with | some k => Res.ok k M3 | none => .bad)
      | some false => .ok false M2
      | none => .bad) = .ok k M' := by
    split at e
    · rename_i hk
      obtain ⟨z, M3, e3, e⟩ := Res.bind_ok e
      rw [e3]
      split at e
      · rename_i k' hk'; cases e; exact ⟨k', rfl, by simp only [Res.bind, hk']⟩
      · cases e
    · cases e; exact ⟨false, rfl, rfl⟩
    · cases e
  obtain ⟨k, rfl, e'⟩ := key
  exact chain_use S R e1 e2 e' fun H2 β2 s2 S2 => (P.after s2).same S2 (.bl _)
theorem t_chain {o o' : CmpOp} (hu : X.A.units + 65 < cLine) (ha : PE X a (tE fa f1)) (hb : PE X b (tE fa f2)) (hc : PE X c (tE fa f3)) (hm : lastMarks [o, o'] [b, c] = false) :
    PT X (.Compare a [o, o'] [b, c] pos) (tB fa fun ρ M => (f1 ρ M).bind fun x M1 => (f2 ρ M1).bind fun y M2 => match cmpD o x y M2 with
      | some true => (f3 ρ M2).bind fun z M3 => (match cmpD o' y z M3 with | some k => .ok k M3 | none => .bad)
      | some false => .ok false M2
      | none => .bad) := by
  refine PT.weak (pt_chain (sim_cmp (fa := fa) hu o) (sim_cmp (fa := fa) hu o') ha hb hc hm) fun σ H Q h => ?_
  obtain ⟨res, β, ρ, M, d, M', S, R, e, P⟩ := h
  obtain ⟨x, M1, e1, e⟩ := Res.bind_ok e
  obtain ⟨y, M2, e2, e⟩ := Res.bind_ok e
  exact chain_use S R e1 e2 e fun H2 β2 s2 S2 => ⟨_, rfl, P H2 β2 s2 S2⟩
theorem r_ife {g : Rho → MH → Res Bool} (hc : PT X c (tB fa g)) (ha : PE X a (tE fa f1)) (hb : PE X b (tE fa f2)) : PE X (.IfExp c a b pos) (tE fa fun ρ M => (g ρ M).bind fun k M1 => if k = true then f1 ρ M1 else f2 ρ M1) := by
  refine PE.weak (pe_ifExp hc ha hb) fun σ H Q h => ?_
  obtain ⟨res, β, ρ, M, d, M', S, R, e, P⟩ := h
  obtain ⟨k, M1, e1, e⟩ := Res.bind_ok e
  refine tB.use S R e1 fun H1 β1 s1 S1 R1 => ?_
  cases k with
  | true => rw [if_pos rfl] at e ⊢; exact ⟨res, β1, ρ, M1, d, M', S1, R1, e, P.after s1⟩
  | false => rw [if_neg Bool.false_ne_true] at e ⊢; exact ⟨res, β1, ρ, M1, d, M', S1, R1, e, P.after s1⟩
theorem l_nil : PA X [] (tL fa fun _ M => .ok [] M) := by
  refine PA.weak pa_nil fun σ H Q h => ?_
  obtain ⟨res, β, ρ, M, d, M', S, R, e, P⟩ := h
  cases e
  exact P [] H β Step.refl S .nil
theorem l_cons {g : Rho → MH → Res (List D)} (ha : PE X a (tE fa f1)) (hr : PA X es (tL fa g)) (hs : starEach (a :: es) X.env = (false, eval a X.env) :: starEach es X.env) : PA X (a :: es) (tL fa fun ρ M => (f1 ρ M).bind fun d M1 => (g ρ M1).bind fun ds M2 => .ok (d :: ds) M2) := by
  refine PA.weak (pa_cons ha hr hs) fun σ H Q h => ?_
  obtain ⟨res, β, ρ, M, d, M', S, R, e, P⟩ := h
  obtain ⟨x, M1, e1, e⟩ := Res.bind_ok e
  obtain ⟨y, M2, e2, e⟩ := Res.bind_ok e
  cases e
  exact tE.use S R e1 fun v H1 β1 s1 S1 R1 r1 => tL.use S1 R1 e2 fun w H2 β2 s2 S2 R2 r2 => P _ H2 β2 (s1.trans s2) S2 (.cons (r1.step s2 (by simp)) r2)
theorem r_tup {g : Rho → MH → Res (List D)} {n : Nat} (h : PA X es (tL fa g)) : PE X (.Tuple es n pos) (tE fa fun ρ M => (g ρ M).bind fun ds M1 => if ds.length ≤ sizeLine then .ok (.tup ds) M1 else .bad) := by
  refine PE.weak (pe_tup h) fun σ H Q h => ?_
  obtain ⟨res, β, ρ, M, d, M', S, R, e, P⟩ := h
  obtain ⟨ds, M1, e1, e⟩ := Res.bind_ok e
  refine tL.use S R e1 fun vs H1 β1 s1 S1 R1 r1 => ?_
  split at e
  · rename_i hz; cases e; exact ⟨by rw [← r1.length]; exact hz, (P.after s1).tup S1 r1⟩
  · cases e
theorem r_lst {g : Rho → MH → Res (List D)} {m : Bool} (h : PA X es (tL fa g)) : PE X (.List es pos) (tE fa fun ρ M => (g ρ M).bind fun ds M1 => if ds.length ≤ sizeLine then newL m ds M1 else .bad) := by
  refine PE.weak (pe_lst h) fun σ H Q h => ?_
  obtain ⟨res, β, ρ, M, d, M', S, R, e, P⟩ := h
  obtain ⟨ds, M1, e1, e⟩ := Res.bind_ok e
  refine tL.use S R e1 fun vs H1 β1 s1 S1 R1 r1 => ?_
  split at e
  · rename_i hz; exact ⟨by rw [← r1.length]; exact hz, (P.after s1).newL S1 r1 e⟩
  · cases e
theorem r_idx (hu : X.A.units + 65 < cLine) (ha : PE X a (tE fa f1)) (hb : PE X b (tE fa f2)) (hp : PlainIx b) : PE X (.Subscript a b pos) (tE fa fun ρ M => (f1 ρ M).bind fun x M1 => (f2 ρ M1).bind fun y M2 => resO M2 (idxD x y M2)) := by
  refine ⟨fun pins s σ H Q I h => ?_⟩
  obtain ⟨res, β, ρ, M, d, M', S, R, e, P⟩ := h
  obtain ⟨x, M1, e1, e⟩ := Res.bind_ok e
  obtain ⟨y, M2, e2, e⟩ := Res.bind_ok e
  cases q : idxD x y M2 with
  | none => rw [q] at e; cases e
  | some z =>
    rw [q] at e
    cases e
    cases hd : getDict M' x with
    | some kvs =>
      refine (pe_dget (by omega) ha hb hp).run pins s σ H Q I ?_
      refine tE.use S R e1 fun v H1 β1 s1 S1 R1 r1 => tE.use S1 R1 e2 fun w H2 β2 s2 S2 R2 r2 => ?_
      obtain ⟨a', w', h1, h2, h3⟩ := idx_dict S2 (r1.step s2 (by simp)) r2 hd q
      exact ⟨a', w', h1, h2, (P.after (s1.trans s2)).same S2 h3⟩
    | none =>
      refine (pe_ix ix_seq ha hb hp).run pins s σ H Q I ?_
      refine tE.use S R e1 fun v H1 β1 s1 S1 R1 r1 => tE.use S1 R1 e2 fun w H2 β2 s2 S2 R2 r2 => ?_
      exact idx_seq S2 (r1.step s2 (by simp)) r2 hd q fun w' h3 => (P.after (s1.trans s2)).same S2 h3
end
end Mi
/-! Mi8: slices with a step. -/
namespace Mi
open PySem PySem.Spec PyProof.Rows L2
theorem applied_rev {prog : Program} {w : World} {A : Around} {E : Value → Shared → Prop} {s : Shared} {sl : Addr} {u : Tok} {n : Nat} {Q : Int × Int × Nat → Shared → Prop} (hs : s.heap.IsSliceOf sl .none .none (.int (-1) u)) (h : Q ((n : Int) - 1, -1, n) s) :
    wpAny (model prog w) A (Builtin.Slice.sliceApplied (.ref sl) (pure (n : Int))) Q E s := by
  obtain ⟨os, hos, hcs, hds⟩ := id hs
  unfold Builtin.Slice.sliceApplied Builtin.Slice.sliceFields
  refine wpAny_bind (wpAny_bind (wpAny_field hos hds (x := .none) rfl (wpAny_bind (wpAny_field hos hds (x := .none) rfl (wpAny_bind (wpAny_field hos hds (x := .int (-1) u) rfl (wpAny_pure ?_)))))))
  refine wpAny_bind (PyProof.Rows.slicePart_int ?_)
  show wpAny _ _ (if ((-1 : Int) == 0) = true then _ else _) _ _ s
  rw [if_neg (by decide)]
  refine wpAny_bind (PyProof.Rows.slicePart_none (wpAny_bind (PyProof.Rows.slicePart_none (wpAny_bind (wpAny_pure ?_)))))
  have e1 : Builtin.Slice.sliceAdjust none none (-1) (n : Int) = ((n : Int) - 1, -1) := rfl
  show wpAny _ _ (match Builtin.Slice.sliceAdjust none none (-1) (n : Int) with | (lo, hi) => pure (lo, (-1 : Int), Builtin.Slice.slicePlaces lo hi (-1))) _ _ s
  rw [e1]
  have e2 : Builtin.Slice.slicePlaces ((n : Int) - 1) (-1) (-1) = n := by
    unfold Builtin.Slice.slicePlaces
    have h1 : ¬ ((-1 : Int) > 0) := by omega
    have h2 : (- -1 : Int) = 1 := rfl
    simp only [h1, if_false, h2, Int.ediv_one]
    split <;> omega
  show wpAny _ _ (pure (((n : Int) - 1), (-1 : Int), Builtin.Slice.slicePlaces ((n : Int) - 1) (-1) (-1))) _ _ s
  rw [e2]
  exact wpAny_pure h
theorem fm_congr {α β : Type} {f g : α → Option β} : ∀ {l : List α}, (∀ k ∈ l, f k = g k) → l.filterMap f = l.filterMap g
  | [], _ => rfl
  | a :: r, h => by
    rw [List.filterMap_cons, List.filterMap_cons, h a (by simp), fm_congr (l := r) fun k hk => h k (List.mem_cons_of_mem _ hk)]
theorem pick_rev (xs : Array Value) : ((List.range xs.size).filterMap fun (k : Nat) => xs[(((xs.size : Nat) : Int) - 1 + (k : Int) * (-1)).toNat]?).toArray = xs.toList.reverse.toArray := by
  congr 1
  have e : ∀ k ∈ List.range xs.size, xs[(((xs.size : Nat) : Int) - 1 + (k : Int) * (-1)).toNat]? = xs.toList.reverse[k]? := by
    intro k hk
    have hk := List.mem_range.mp hk
    have : (((xs.size : Nat) : Int) - 1 + (k : Int) * (-1)).toNat = xs.size - 1 - k := by omega
    rw [this, List.getElem?_reverse (by simpa using hk)]
    simp
  rw [fm_congr e]
  have : xs.size = xs.toList.reverse.length := by simp
  rw [this]
  generalize xs.toList.reverse = l
  induction l with
  | nil => rfl
  | cons a r ih =>
    rw [List.length_cons, List.range_succ_eq_map, List.filterMap_cons]
    simp only [List.getElem?_cons_zero]
    rw [List.filterMap_map]
    congr 1
theorem getItem_tuple_rev {prog : Program} {w : World} {A : Around} {E : Value → Shared → Prop} {s : Shared} {t sl : Addr} {items : Array Value} {u : Tok} {Q : Value → Shared → Prop} (ht : IsTup s.heap t items) (hs : s.heap.IsSliceOf sl .none .none (.int (-1) u))
    (h : Q (.ref s.heap.objs.size) { s with heap := s.heap.push { cls := .type "tuple", data := .seq items.toList.reverse.toArray } }) (hsz : items.size ≤ sizeLine) : wpAny (model prog w) A (getItem (.ref t) (.ref sl)) Q E s := by
  have room : sizeOk (.seq items.toList.reverse.toArray) := by
    show items.toList.reverse.toArray.size ≤ sizeLine
    simpa using hsz
  obtain ⟨os, hos, hcs, hds⟩ := id hs
  have hTs : s.TypeIs (.ref sl) "slice" := ⟨os, hos, hcs⟩
  unfold getItem
  try with_reducible refine wpAny_holding ?_
  first | refine wpAny_bind (wpAny_pure ?_) | skip
  refine wpAny_bind (wpAny_sequenceKey ht.typeIs (by decide) ?_)
  refine wpAny_bind (wpAny_callSpecial?_slot (name := Str.ofString "__getitem__") ht.typeIs PyProof.Rows.slot_tuple_getitem
    (wpAny_call_entry PyProof.Rows.slot_tuple_getitem ht.typeIs entry_tuple_getitem ?_ (args_tuple_getitem _ _)))
  show wpAny _ _ (Builtin.Tuple.tupleItemsOf (.ref t) >>= _) _ _ s
  refine wpAny_bind (tupleItemsOf_ ht ?_)
  refine wpAny_bind (wpAny_typeOf hTs ?_)
  rw [if_pos (by decide)]
  refine wpAny_bind (applied_rev hs ?_)
  show wpAny _ _ (if ((((items.size : Nat) : Int) - 1) == 0 && (-1 : Int) == 1 && items.size == items.size) = true then _ else _) _ _ s
  rw [if_neg (by simp), pick_rev]
  first
    | exact wpAny_bind (m := Builtin.Tuple.tupleExact _) (wpAny_newObj_type (wpAny_pure ⟨_, rfl, wpAny_pure h⟩) room)
    | exact wpAny_bind (m := Builtin.Tuple.tupleExact _) (wpAny_newObj_type (wpAny_bind (wpAny_pure (wpAny_pure ⟨_, rfl, wpAny_pure h⟩))) room)
    | exact wpAny_bind (wpAny_bind (m := Builtin.Tuple.tupleExact _) (wpAny_newObj_type (wpAny_pure (wpAny_pure ⟨_, rfl, wpAny_pure h⟩)) room))
    | exact wpAny_bind (wpAny_bind (m := Builtin.Tuple.tupleExact _) (wpAny_newObj_type (wpAny_pure ⟨_, rfl, wpAny_pure h⟩) room))
theorem pick_eq (its : List Value) (lo hi st : Option Int) : slicePick its.toArray lo hi st = (pickD its lo hi st).toArray := by
  unfold slicePick pickD
  simp
section
variable {X : Cx} {e lo : Expr} {te tl : TE} {pos : Pos}
/-- t[::-1] -/
theorem pe_revT {k : Nat} {p1 p2 p3 : Pos} (he : PE X e te) : PE X (.Subscript e (.Slice none none (some (.UnaryOp .USub (.Constant (.int 1) k p1) p2)) p3) pos) (fun σ H Q => te σ H fun x H1 => ∃ a xs, x = .ref a ∧ SqT X.K H1 a xs ∧ ∀ p, H1 p = none → Q (.ref p) (upd H1 p (.tup xs.reverse))) := by
  refine ⟨fun pins s σ H Q I h => ?_⟩
  refine Subscript_ (thn (he.run pins s σ H _ I h) fun v s1 ⟨x, H1, I1, r1, a, xs, ex, hx, q⟩ => ?_)
  subst ex
  cases r1
  have hst : PO X (some (.UnaryOp .USub (.Constant (.int 1) k p1) p2)) (tPart (tUn (rU fun i => .int (-i)) (tC (.int 1)))) := po_some (pe_un un_neg pe_int)
  refine wpAny_Slice (thn (po_none.run pins s1 σ H1 (fun o H2 => o = none ∧ H2 = H1) I1 ⟨rfl, rfl⟩) fun vl s2 ⟨l, H2, I2, pl, el, e2⟩ => ?_)
  subst el e2
  refine thn (po_none.run pins s2 σ H2 (fun o H3 => o = none ∧ H3 = H2) I2 ⟨rfl, rfl⟩) fun vu s3 ⟨u, H3, I3, pu, eu, e3⟩ => ?_
  subst eu e3
  refine thn (hst.run pins s3 σ H3 (fun o H4 => o = some (-1) ∧ H4 = H3) I3 ⟨1, rfl, -1, rfl, rfl, rfl⟩) fun vs s4 ⟨o, H4, I4, ps, eo, e4⟩ => ?_
  subst eo e4
  cases pl; cases pu
  cases ps with
  | int i tk =>
    have I5 : Inv X pins σ H4 { s4 with heap := s4.heap.push { cls := .type "slice", data := .fields #[.none, .none, .int (-1) tk] } } := I4.kept (t' := s4.toks) fun b ob q => Heap.get?_push_of_some _ q
    obtain ⟨its, r, ht, hz⟩ := I5.tuple hx
    show wpAny (model X.prog X.w) X.A (subscriptTail e (.Slice none none (some (.UnaryOp .USub (.Constant (.int 1) k p1) p2)) p3) (.ref a) (.ref s4.heap.objs.size)) (EP X pins σ Q) X.xe { s4 with heap := s4.heap.push { cls := .type "slice", data := .fields #[.none, .none, .int (-1) tk] } }
    refine tail_any (ops := [.ref a, .ref s4.heap.objs.size]) ht.typeIs (PyProof.Rows.slot_tuple_getitem.lookup) ?_ (by with_unfolding_all rfl)
    refine getItem_tuple_rev (u := tk) ht (Heap.IsSliceOf.new _ _ _ _) ?_ (by rw [List.size_toArray, ← r.length]; exact hz)
    refine ⟨.ref _, _, I5.laid (t' := s4.toks) (o := .tup xs.reverse) (fun b ob q => Heap.get?_push_of_some _ q) (Nat.le_refl _) ?_, rfl, q _ (I5.hok.fresh (Nat.le_refl _))⟩
    exact ⟨by rw [List.length_reverse]; exact hz, _, r.reverse, IsTup.new _ _⟩
/-- xs[lo::n] of a list -/
theorem pe_stepL {k n : Nat} {p1 p3 : Pos} (hn : n ≠ 0) (he : PE X e te) (hl : PE X lo tl) : PE X (.Subscript e (.Slice (some lo) none (some (.Constant (.int n) k p1)) p3) pos)
    (fun σ H Q => te σ H fun x H1 => tl σ H1 fun y H2 => ∃ j, y = .int j ∧ ∃ i, some j = some i ∧ ∃ a xs, x = .ref a ∧ SqL X.K H2 a xs ∧ ∀ p, H2 p = none → Q (.ref p) (upd H2 p (.lst (pickD xs (some i) none (some (n : Int)))))) := by
  refine ⟨fun pins s σ H Q I h => ?_⟩
  refine Subscript_ (thn (he.run pins s σ H _ I h) fun v s1 ⟨x, H1, I1, r1, q1⟩ => ?_)
  refine wpAny_Slice (thn ((po_some hl).run pins s1 σ H1 (fun o H2 => ∃ i, o = some i ∧ ∃ a xs, x = .ref a ∧ SqL X.K H2 a xs ∧ ∀ p, H2 p = none → Q (.ref p) (upd H2 p (.lst (pickD xs (some i) none (some (n : Int)))))) I1 q1) fun vl s2 ⟨l, H2, I2, pl, i, el, a, xs, ex, hx, q⟩ => ?_)
  subst el ex
  cases r1
  refine thn (po_none.run pins s2 σ H2 (fun o H3 => o = none ∧ H3 = H2) I2 ⟨rfl, rfl⟩) fun vu s3 ⟨u, H3, I3, pu, eu, e3⟩ => ?_
  subst eu e3
  refine thn ((po_some (pe_int (i := (n : Int)) (j := k) (pos := p1))).run pins s3 σ H3 (fun o H4 => o = some (n : Int) ∧ H4 = H3) I3 ⟨_, rfl, rfl, rfl⟩) fun vs s4 ⟨o, H4, I4, ps, eo, e4⟩ => ?_
  subst eo e4
  have I5 : Inv X pins σ H4 { s4 with heap := s4.heap.push { cls := .type "slice", data := .fields #[vl, vu, vs] } } := I4.kept (t' := s4.toks) fun b ob q => Heap.get?_push_of_some _ q
  obtain ⟨its, r, ht, hz⟩ := I5.list hx
  show wpAny (model X.prog X.w) X.A (subscriptTail e (.Slice (some lo) none (some (.Constant (.int n) k p1)) p3) (.ref a) (.ref s4.heap.objs.size)) (EP X pins σ Q) X.xe { s4 with heap := s4.heap.push { cls := .type "slice", data := .fields #[vl, vu, vs] } }
  refine tail_any (ops := [.ref a, .ref s4.heap.objs.size]) ht.isList.typeIs (PySem.slot_list_getitem.lookup) ?_ (by with_unfolding_all rfl)
  refine wpAny_getItem_list_slice ht.isList (Heap.IsSliceOf.new _ vl vu vs) pl pu ps (by intro z; cases z; exact hn rfl) ?_ (by rw [List.size_toArray, ← r.length]; exact hz)
  have hp : Vals (pickD xs (some i) none (some (n : Int))) (pickD its (some i) none (some (n : Int))) := by
    unfold pickD
    rw [r.length]
    exact vals_pick r _
  have hle := slicePick_size_le its.toArray (some i) none (some (n : Int))
  rw [pick_eq] at hle ⊢
  rw [List.size_toArray, List.size_toArray, ← hp.length, ← r.length] at hle
  refine ⟨.ref _, _, I5.laid (t' := s4.toks) (o := .lst (pickD xs (some i) none (some (n : Int)))) (fun b ob q => Heap.get?_push_of_some _ q) (Nat.le_refl _) ?_, rfl, q _ (I5.hok.fresh (Nat.le_refl _))⟩
  exact ⟨Nat.le_trans hle hz, _, 0, hp, Heap.get?_push_size _ rfl⟩
end
end Mi
/-! Mi9: slices, calls, built-ins, methods, dict displays, tests. -/
namespace Mi
open PySem PySem.Spec PyProof.Rows L2

section
variable {fa : FA} {X : Cx} {a b c e : Expr} {es : List Expr} {pos p : Pos} {f f1 f2 f3 : Rho → MH → Res D}
theorem o_none : PO X none (tO fa fun _ M => .ok none M) := by
  refine PO.weak po_none fun σ H Q h => ?_
  obtain ⟨res, β, ρ, M, o, i, M', S, R, e, hi, P⟩ := h
  cases e; cases hi
  exact P H β Step.refl S
theorem o_some (h : PE X e (tE fa f)) : PO X (some e) (tO fa fun ρ M => (f ρ M).bind fun d M1 => .ok (some d) M1) := by
  refine PO.weak (po_some h) fun σ H Q h => ?_
  obtain ⟨res, β, ρ, M, o, i, M', S, R, e, hi, P⟩ := h
  obtain ⟨d, M1, e1, e⟩ := Res.bind_ok e
  cases e
  refine tE.use S R e1 fun v H1 β1 s1 S1 R1 r1 => ?_
  cases r1 with
  | int j => cases hi; exact ⟨j, rfl, P H1 β1 s1 S1⟩
  | _ => cases hi
theorem r_slice {m : Bool} {lo hi : Option Expr} {gl gh : Rho → MH → Res (Option D)} {p2 : Pos} (hK : X.K = fa.K) (ha : PE X a (tE fa f1)) (hl : PO X lo (tO fa gl)) (hh : PO X hi (tO fa gh)) :
    PE X (.Subscript a (.Slice lo hi none p2) pos) (tE fa fun ρ M => (f1 ρ M).bind fun x M1 => (gl ρ M1).bind fun l M2 => (gh ρ M2).bind fun h M3 => match optI l, optI h with
      | some l, some h => sliceD m x l h M3
      | _, _ => .bad) := by
  refine PE.weak (pe_slice (sim_slice (fa := fa) hK m) ha hl hh) fun σ H Q h => ?_
  obtain ⟨res, β, ρ, M, d, M', S, R, e, P⟩ := h
  obtain ⟨x, M1, e1, e⟩ := Res.bind_ok e
  obtain ⟨l, M2, e2, e⟩ := Res.bind_ok e
  obtain ⟨h, M3, e3, e⟩ := Res.bind_ok e
  split at e
  · rename_i l' h' hl' hh'
    refine tE.use S R e1 fun v H1 β1 s1 S1 R1 r1 => tO.use S1 R1 e2 hl' fun H2 β2 s2 S2 R2 => tO.use S2 R2 e3 hh' fun H3 β3 s3 S3 R3 => ?_
    exact ⟨res, β3, M3, x, d, M', S3, r1.step (s2.trans s3) (by simp), e, P.after (s1.trans (s2.trans s3))⟩
  · cases e
theorem r_revT {k : Nat} {p1 p2 p3 : Pos} (ha : PE X a (tE fa f1)) : PE X (.Subscript a (.Slice none none (some (.UnaryOp .USub (.Constant (.int 1) k p1) p2)) p3) pos) (tE fa fun ρ M => (f1 ρ M).bind fun x M1 => match x with
    | .tup xs => .ok (.tup xs.reverse) M1
    | _ => .bad) := by
  refine PE.weak (pe_revT ha) fun σ H Q h => ?_
  obtain ⟨res, β, ρ, M, d, M', S, R, e, P⟩ := h
  obtain ⟨x, M1, e1, e⟩ := Res.bind_ok e
  refine tE.use S R e1 fun v H1 β1 s1 S1 R1 r1 => ?_
  split at e
  · cases e
    cases r1 with
    | tup e1 nb nr q => exact ⟨_, _, rfl, SqT.of e1, (P.after s1).tup S1 q.reverse⟩
  · cases e
theorem r_stepL {m : Bool} {k n : Nat} {p1 p3 : Pos} (ha : PE X a (tE fa f1)) (hb : PE X b (tE fa f2)) (hn : n ≠ 0) : PE X (.Subscript a (.Slice (some b) none (some (.Constant (.int n) k p1)) p3) pos) (tE fa fun ρ M => (f1 ρ M).bind fun x M1 => (f2 ρ M1).bind fun l M2 => match getL M2 x, l with
    | some xs, .int i => if n ≠ 0 then newL m (pickD xs (some i) none (some (n : Int))) M2 else .bad
    | _, _ => .bad) := by
  refine PE.weak (pe_stepL hn ha hb) fun σ H Q h => ?_
  obtain ⟨res, β, ρ, M, d, M', S, R, e, P⟩ := h
  obtain ⟨x, M1, e1, e⟩ := Res.bind_ok e
  obtain ⟨y, M2, e2, e⟩ := Res.bind_ok e
  refine tE.use S R e1 fun v H1 β1 s1 S1 R1 r1 => tE.use S1 R1 e2 fun w H2 β2 s2 S2 R2 r2 => ?_
  split at e
  · rename_i hx
    rw [if_pos hn] at e
    obtain ⟨a', vs, g1, g2, g3⟩ := getL_rep S2 (r1.step s2 (by simp)) hx
    cases r2
    refine ⟨_, rfl, _, rfl, a', vs, g1, SqL.of g2, (P.after (s1.trans s2)).newL S2 ?_ e⟩
    unfold pickD
    rw [g3.length]
    exact g3.pick _
  · cases e
/-! ### calls -/
theorem r_call {k n : Nat} {g : Rho → MH → Res (List D)} {cl : List D → MH → Res D} {x : Str} {fad : Addr} {fd : FuncData} {ps : List Str} (F : FnG X.prog X.w X.K X.mg X.base k fad fd ps (spD fa cl n)) (hlen : ∀ ds M d M', cl ds M = .ok d M' → ds.length = n) (hr : Room k X.A) (hgd : X.A.guards = some []) (hg : Gl X x)
    (hm : X.mg x = some (.ref fad)) (hk : PySem.W.keepIn X.K (.ref fad) = true) (hb : Binds X.K fd ps []) (ha : PA X (a :: es) (tL fa g)) (hdb : (x == ("__debug__" : Str)) = false)
    (he : starEach (a :: es) X.env = (false, eval a X.env) :: starEach es X.env) (hpl : (backTo pos (starEach es X.env)).any (·.1) = false) : PE X (.Call (.Name x p) (a :: es) [] pos) (tE fa fun ρ M => (g ρ M).bind fun ds M1 => cl ds M1) := by
  refine PE.weak (pe_callG F hr hgd hg hm hk hb ha hdb he hpl) fun σ H Q h => ?_
  obtain ⟨res, β, ρ, M, d, M', S, R, e, P⟩ := h
  obtain ⟨ds, M1, e1, e⟩ := Res.bind_ok e
  refine tL.use S R e1 fun vs H1 β1 s1 S1 R1 r1 => ?_
  exact ⟨res, β1, M1, ds, d, M', S1, r1, hlen _ _ _ _ e, e, P.after s1⟩
theorem r_call0 {k n : Nat} {cl : List D → MH → Res D} {x : Str} {fad : Addr} {fd : FuncData} {ps : List Str} (F : FnG X.prog X.w X.K X.mg X.base k fad fd ps (spD fa cl n)) (hlen : ∀ ds M d M', cl ds M = .ok d M' → ds.length = n) (hr : Room k X.A) (hgd : X.A.guards = some []) (hg : Gl X x)
    (hm : X.mg x = some (.ref fad)) (hk : PySem.W.keepIn X.K (.ref fad) = true) (hb : Binds X.K fd ps []) (hdb : (x == ("__debug__" : Str)) = false) : PE X (.Call (.Name x p) [] [] pos) (tE fa fun ρ M => (Res.ok [] M).bind fun ds M1 => cl ds M1) := by
  refine PE.weak (pe_callG0 F hr hgd hg hm hk hb hdb) fun σ H Q h => ?_
  obtain ⟨res, β, ρ, M, d, M', S, R, e, P⟩ := h
  exact ⟨res, β, M, [], d, M', S, .nil, hlen _ _ _ _ e, e, P⟩
theorem r_callV {k i : Nat} {n : Nat → Nat} {g : Rho → MH → Res (List D)} {cl : Calls} {x : Str} (hN : X.N[i]? = some x) (hv : Vis X.env.scope x) (hdb : (x == ("__debug__" : Str)) = false) (hcd : (x == ("__classdict__" : Str)) = false) (hr : Room k X.A) (hgd : X.A.guards = some [])
    (F : ∀ j ds M d M', cl j ds M = .ok d M' → ds.length = n j ∧ ∃ fd ps, FnG X.prog X.w X.K X.mg X.base k (fa j) fd ps (spD fa (cl j) (n j)) ∧ PySem.W.keepIn X.K (.ref (fa j)) = true ∧ Binds X.K fd ps [])
    (ha : PA X (a :: es) (tL fa g)) (he : starEach (a :: es) X.env = (false, eval a X.env) :: starEach es X.env) (hpl : (backTo pos (starEach es X.env)).any (·.1) = false) : PE X (.Call (.Name x p) (a :: es) [] pos) (tE fa fun ρ M => match ρ[i]? with
      | some (some (.fn k)) => (g ρ M).bind fun ds M1 => cl k ds M1
      | _ => .bad) := by
  refine PE.weak (pe_callGV hN hv hdb hcd hr hgd ha he hpl) fun σ H Q h => ?_
  obtain ⟨res, β, ρ, M, d, M', S, R, e, P⟩ := h
  simp only at e
  split at e
  · rename_i j hj
    obtain ⟨ds, M1, e1, e⟩ := Res.bind_ok e
    obtain ⟨hl, fd, ps, G, hk, hb⟩ := F j ds M1 d M' e
    obtain ⟨v, h1, h2⟩ := R.at_ i _ hj
    cases h2
    refine ⟨fa j, fd, ps, _, h1, G, hk, hb, ?_⟩
    refine tL.use S R e1 fun vs H1 β1 s1 S1 R1 r1 => ?_
    exact ⟨res, β1, M1, ds, d, M', S1, r1, hl, e, P.after s1⟩
  · cases e
theorem r_callK {k : Nat} {cl : List D → MH → Res D} {x y : Str} {fad : Addr} {fd : FuncData} {kp : Pos} (F : FnG X.prog X.w X.K X.mg X.base k fad fd [y] (spD fa cl 1)) (hr : Room k X.A) (hgd : X.A.guards = some []) (hg : Gl X x)
    (hm : X.mg x = some (.ref fad)) (hk : PySem.W.keepIn X.K (.ref fad) = true) (hb : ∀ (s : Shared) (u : Value), BindsTo s fd ⟨[], [(y, u)]⟩ [(y, u)]) (ha : PE X a (tE fa f1)) (hdb : (x == ("__debug__" : Str)) = false) :
    PE X (.Call (.Name x p) [] [⟨some y, a, kp⟩] pos) (tE fa fun ρ M => (f1 ρ M).bind fun x M1 => cl [x] M1) := by
  refine PE.weak (pe_callGK F hr hgd hg hm hk hb ha hdb) fun σ H Q h => ?_
  obtain ⟨res, β, ρ, M, d, M', S, R, e, P⟩ := h
  obtain ⟨z, M1, e1, e⟩ := Res.bind_ok e
  refine tE.use S R e1 fun v H1 β1 s1 S1 R1 r1 => ⟨v, rfl, ?_⟩
  exact ⟨res, β1, M1, [z], d, M', S1, .cons r1 .nil, rfl, e, P.after s1⟩
theorem r_CB {g : Rho → MH → Res (List D)} {h : List D → MH → Res D} (ht : PE X e (tCB (rSl fa h) (tL fa g))) : PE X e (tE fa fun ρ M => (g ρ M).bind fun ds M1 => h ds M1) := by
  refine PE.weak ht fun σ H Q h => ?_
  obtain ⟨res, β, ρ, M, d, M', S, R, e, P⟩ := h
  obtain ⟨ds, M1, e1, e⟩ := Res.bind_ok e
  refine tL.use S R e1 fun vs H1 β1 s1 S1 R1 r1 => ?_
  exact ⟨res, β1, M1, ds, d, M', S1, r1, e, P.after s1⟩
def biNames : List String := ["len", "isinstance", "int", "str", "ord", "all", "list", "tuple", "dict", "sorted", "repr"]
theorem r_bi {m : Bool} {n : String} {x : Str} {g : Rho → MH → Res (List D)} (hn : n ∈ biNames) (hx : x = Str.ofString n) (hc : X.calm = true) (hgd : X.A.guards = some []) (hu : X.A.units + 65 < cLine) (hg : Gl X x) (hm : X.mg x = none) (ha : PA X (a :: es) (tL fa g))
    (he : starEach (a :: es) X.env = (false, eval a X.env) :: starEach es X.env) (hpl : (backTo pos (starEach es X.env)).any (·.1) = false) : PE X (.Call (.Name x p) (a :: es) [] pos) (tE fa fun ρ M => (g ρ M).bind fun ds M1 => biD m n ds M1) := by
  subst hx
  simp only [biNames, List.mem_cons, List.not_mem_nil, or_false] at hn
  rcases hn with rfl | rfl | rfl | rfl | rfl | rfl | rfl | rfl | rfl | rfl | rfl
  · exact r_CB (pe_callB bi_len hg hm (by decide +kernel) ha (by decide) (by decide) he hpl)
  · exact r_CB (pe_callB bi_isi hg hm (by decide +kernel) ha (by decide) (by decide) he hpl)
  · exact r_CB (pe_callTy bi_int hg hm (by decide +kernel) ha (by decide) (by decide) he hpl)
  · exact r_CB (pe_callTy bi_str hg hm (by decide +kernel) ha (by decide) (by decide) he hpl)
  · exact r_CB (pe_callB bi_ord hg hm (by decide +kernel) ha (by decide) (by decide) he hpl)
  · exact r_CB (pe_callB (bi_all hc) hg hm (by decide +kernel) ha (by decide) (by decide) he hpl)
  · exact r_CB (pe_callTy bi_list hg hm (by decide +kernel) ha (by decide) (by decide) he hpl)
  · exact r_CB (pe_callTy bi_tuple hg hm (by decide +kernel) ha (by decide) (by decide) he hpl)
  · exact r_CB (pe_callTy (bi_dict hc) hg hm (by decide +kernel) ha (by decide) (by decide) he hpl)
  · exact r_CB (pe_callB (bi_sorted hc) hg hm (by decide +kernel) ha (by decide) (by decide) he hpl)
  · exact r_CB (pe_callB (bi_repr hgd hu) hg hm (by decide +kernel) ha (by decide) (by decide) he hpl)
/-! ### methods -/
theorem lst_at {res β : List Addr} {M : MH} {H : Hp} {n : Nat} {xs : List D} {a : Addr} (S : Sim fa β res M H) (e : β[n]? = some a) (h : M[n]? = some (.lst xs)) : ∃ vs, H a = some (.lst vs) ∧ Reps fa β res H xs vs := by
  obtain ⟨ho, h1, h2⟩ := S.at_ n a _ e h
  cases h2 with
  | lst r => exact ⟨_, h1, r⟩
theorem r_meth {n : String} {x : Str} {g : Rho → MH → Res (List D)} {apos cpos : Pos} (hn : n = "append" ∨ n = "extend" ∨ n = "pop") (hx : x = Str.ofString n) (ho : PE X b (tE fa f1)) (ha : PA X (a :: es) (tL fa g)) (hbase : attributeBase b x X.env (eval b X.env) = eval b X.env)
    (hfew : ((backTo cpos (starEach (a :: es) X.env)).all (fun x => !x.1) && (backToKw cpos (keywordEach [] X.env)).all (fun x => x.1.isSome) && decide ((a :: es).length + ([] : List Keyword).length + (if ([] : List Keyword).isEmpty then 0 else 1) < 30)) = true)
    (hline : (apos.endLine == cpos.line) = true) (hs : starEach (a :: es) X.env = (false, eval a X.env) :: starEach es X.env) (hplain : (backTo cpos (starEach es X.env)).any (·.1) = false) :
    PE X (.Call (.Attribute b x apos) (a :: es) [] cpos) (tE fa fun ρ M => (f1 ρ M).bind fun x M1 => if mtKind n x M1 = true then (g ρ M1).bind fun ds M2 => mtD n x ds M2 else .bad) := by
  have gen : ∀ (r : V → List V → Hp → VK → Prop), (∀ x xs H Q, (∃ res β M dx ds d M', Sim fa β res M H ∧ Rep fa β res H dx x ∧ Reps fa β res H ds xs ∧ mtD n dx ds M = .ok d M' ∧ Post fa res β H d M' Q) → r x xs H Q) → ∀ σ H Q, tE fa (fun ρ M => (f1 ρ M).bind fun x M1 => if mtKind n x M1 = true then (g ρ M1).bind fun ds M2 => mtD n x ds M2 else .bad) σ H Q → tBM X.K "list" r (tE fa f1) (tL fa g) σ H Q := by
    intro r hr σ H Q h
    obtain ⟨res, β, ρ, M, d, M', S, R, e, P⟩ := h
    obtain ⟨x, M1, e1, e⟩ := Res.bind_ok e
    split at e
    · rename_i hk
      obtain ⟨ds, M2, e2, e⟩ := Res.bind_ok e
      refine tE.use S R e1 fun v H1 β1 s1 S1 R1 r1 => ⟨?_, tL.use S1 R1 e2 fun vs H2 β2 s2 S2 R2 r2 => ?_⟩
      · have hk' : (getL M1 x).isSome = true := by
          unfold mtKind at hk
          rcases hn with rfl | rfl | rfl <;> exact hk
        obtain ⟨ys, hy⟩ := Option.isSome_iff_exists.mp hk'
        obtain ⟨a', vs, g1, g2, g3⟩ := getL_rep S1 r1 hy
        subst g1
        exact .inl ⟨rfl, _, SqL.of g2⟩
      · exact hr _ _ _ _ ⟨res, β2, M2, x, ds, d, M', S2, r1.step s2 (by simp), r2, e, P.after (s1.trans s2)⟩
    · cases e
  subst hx
  rcases hn with rfl | rfl | rfl
  · refine PE.weak (pe_bm PySem.F.plainAttrs_list PySem.F.slot_list_append PySem.F.type_list_append mt_append ho ha hbase hfew hline hs hplain) (gen _ fun x xs H Q h => ?_)
    obtain ⟨res, β, M, dx, ds, d, M', S, r1, r2, e, P⟩ := h
    replace e : mtAppend dx ds M = .ok d M' := e
    unfold mtAppend at e
    split at e
    · cases r1 with
      | ref e1 =>
        obtain ⟨y, rfl, ry⟩ := reps1' r2
        split at e
        · rename_i ys hq
          split at e
          · rename_i hz
            cases e
            obtain ⟨vs, g1, g2⟩ := lst_at S e1 hq
            exact ⟨_, vs, y, rfl, rfl, g1, by rw [← g2.length]; exact hz, P.write S e1 (.lst (g2.append (.cons ry .nil))) .non⟩
          · cases e
        · cases e
    · cases e
  · refine PE.weak (pe_bm PySem.F.plainAttrs_list PySem.F.slot_list_extend PySem.F.type_list_extend mt_extend ho ha hbase hfew hline hs hplain) (gen _ fun x xs H Q h => ?_)
    obtain ⟨res, β, M, dx, ds, d, M', S, r1, r2, e, P⟩ := h
    replace e : mtExtend dx ds M = .ok d M' := e
    unfold mtExtend at e
    split at e
    · cases r1 with
      | ref e1 =>
        obtain ⟨y, rfl, ry⟩ := reps1' r2
        split at e
        · rename_i ys zs hq hz2
          split at e
          · rename_i hz
            cases e
            obtain ⟨vs, g1, g2⟩ := lst_at S e1 hq
            obtain ⟨a', ws, k1, k2, k3⟩ := getL_rep S ry hz2
            subst k1
            exact ⟨_, a', vs, ws, rfl, rfl, g1, k2, by rw [← g2.length, ← k3.length]; exact hz, P.write S e1 (.lst (g2.append k3)) .non⟩
          · cases e
        · cases e
    · cases e
  · refine PE.weak (pe_bm PySem.F.plainAttrs_list PySem.F.slot_list_pop PySem.F.type_list_pop mt_popAt ho ha hbase hfew hline hs hplain) (gen _ fun x xs H Q h => ?_)
    obtain ⟨res, β, M, dx, ds, d, M', S, r1, r2, e, P⟩ := h
    replace e : mtPop dx ds M = .ok d M' := e
    unfold mtPop at e
    split at e
    · rename_i i
      cases r1 with
      | ref e1 =>
        obtain ⟨y, rfl, ry⟩ := reps1' r2
        cases ry
        split at e
        · rename_i ys hq
          split at e
          · rename_i hz
            split at e
            · rename_i w hw
              cases e
              obtain ⟨vs, g1, g2⟩ := lst_at S e1 hq
              obtain ⟨u, k1, k2⟩ := g2.get hw
              have hsl : ys.length ≤ 2 ^ 24 := hz.2.2
              refine ⟨_, vs, i, i.toNat, u, rfl, rfl, g1, by omega, by omega, ?_, k1, P.write S e1 (.lst (g2.eraseIdx _)) k2⟩
              rw [← g2.length]
              exact seqIndex_of hz.1 hz.2.1
            · cases e
          · cases e
        · cases e
    · cases e
theorem r_upper {x : Str} {apos cpos : Pos} (hx : x = Str.ofString "upper") (ho : PE X b (tE fa f1)) (hbase : attributeBase b x X.env (eval b X.env) = eval b X.env) (hline : (apos.endLine == cpos.line) = true) :
    PE X (.Call (.Attribute b x apos) [] [] cpos) (tE fa fun ρ M => (f1 ρ M).bind fun x M1 => if mtKind "upper" x M1 = true then (Res.ok [] M1).bind fun ds M2 => mtD "upper" x ds M2 else .bad) := by
  subst hx
  refine PE.weak (pe_bm0 PySem.F.plainAttrs_str PySem.F.slot_str_upper PySem.F.type_str_upper mt_upper ho hbase hline) fun σ H Q h => ?_
  obtain ⟨res, β, ρ, M, d, M', S, R, e, P⟩ := h
  obtain ⟨x, M1, e1, e⟩ := Res.bind_ok e
  refine tE.use S R e1 fun v H1 β1 s1 S1 R1 r1 => ?_
  split at e
  · rename_i hk
    replace e : mtUpper x [] M1 = .ok d M' := e
    unfold mtUpper at e
    split at e
    · cases r1
      split at e
      · rename_i hz; cases e; exact ⟨rfl, _, rfl, rfl, hz, (P.after s1).same S1 (.str _)⟩
      · cases e
    · cases e
  · cases e
/-! ### tests -/
theorem t_truth (ha : PE X e (tE fa f)) (he : ∀ whole, isTrue e X.env whole = (do let v ← whole; standAt e.pos; holding [v] (truthy v))) : PT X e (tB fa fun ρ M => (f ρ M).bind fun d M2 => match truD M2 d with | some k => .ok k M2 | none => .bad) := by
  refine PT.weak (pt_truth ha he) fun σ H Q h => ?_
  obtain ⟨res, β, ρ, M, d, M', S, R, e, P⟩ := h
  obtain ⟨x, M1, e1, e⟩ := Res.bind_ok e
  refine tE.use S R e1 fun v H1 β1 s1 S1 R1 r1 => ?_
  split at e
  · rename_i k hk; cases e; exact ⟨_, truD_of S1 r1 hk, P H1 β1 s1 S1⟩
  · cases e
theorem t_not {g : Rho → MH → Res Bool} (ha : PT X a (tB fa g)) : PT X (.UnaryOp .Not a pos) (tB fa fun ρ M => (g ρ M).bind fun b M1 => .ok (!b) M1) := by
  refine PT.weak (pt_not ha) fun σ H Q h => ?_
  obtain ⟨res, β, ρ, M, d, M', S, R, e, P⟩ := h
  obtain ⟨k, M1, e1, e⟩ := Res.bind_ok e
  cases e
  exact tB.use S R e1 fun H1 β1 s1 S1 R1 => P H1 β1 s1 S1
theorem t_and {g g' : Rho → MH → Res Bool} {rest : List Expr} (ha : PT X a (tB fa g)) (hb : PW X (.BoolOp .And (b :: rest) pos) (tB fa g')) : PW X (.BoolOp .And (a :: b :: rest) pos) (tB fa fun ρ M => (g ρ M).bind fun x M1 => if x = true then g' ρ M1 else .ok false M1) := by
  refine PW.weak (pw_and ha hb) fun σ H Q h => ?_
  obtain ⟨res, β, ρ, M, d, M', S, R, e, P⟩ := h
  obtain ⟨k, M1, e1, e⟩ := Res.bind_ok e
  refine tB.use S R e1 fun H1 β1 s1 S1 R1 => ?_
  cases k with
  | true => rw [if_pos rfl] at e ⊢; exact ⟨res, β1, ρ, M1, d, M', S1, R1, e, fun H2 β2 s2 S2 => P H2 β2 (s1.trans s2) S2⟩
  | false => rw [if_neg Bool.false_ne_true] at e ⊢; cases e; exact P H1 β1 s1 S1
theorem t_or {g g' : Rho → MH → Res Bool} {rest : List Expr} (ha : PT X a (tB fa g)) (hb : PW X (.BoolOp .Or (b :: rest) pos) (tB fa g')) : PW X (.BoolOp .Or (a :: b :: rest) pos) (tB fa fun ρ M => (g ρ M).bind fun x M1 => if x = true then .ok true M1 else g' ρ M1) := by
  refine PW.weak (pw_or ha hb) fun σ H Q h => ?_
  obtain ⟨res, β, ρ, M, d, M', S, R, e, P⟩ := h
  obtain ⟨k, M1, e1, e⟩ := Res.bind_ok e
  refine tB.use S R e1 fun H1 β1 s1 S1 R1 => ?_
  cases k with
  | true => rw [if_pos rfl] at e ⊢; cases e; exact P H1 β1 s1 S1
  | false => rw [if_neg Bool.false_ne_true] at e ⊢; exact ⟨res, β1, ρ, M1, d, M', S1, R1, e, fun H2 β2 s2 S2 => P H2 β2 (s1.trans s2) S2⟩
end
end Mi
/-! Mi10: what loops walk; comprehensions; dict displays. -/
namespace Mi
open PySem PySem.Spec PyProof.Rows L2

/-- the sizes that the model keeps -/
def LenOk (H : Hp) : Prop := (∀ a xs, H a = some (.lst xs) → xs.length ≤ sizeLine) ∧ ∀ a xs, H a = some (.tup xs) → xs.length ≤ sizeLine
section
variable {fa : FA} {X : Cx} {res β : List Addr} {M M' : MH} {H : Hp} {d : D} {v : V} {a b e : Expr} {f f1 f2 : Rho → MH → Res D} {tg : Expr} {pos p : Pos}
theorem Inv.lens {pins : List (Addr × Obj)} {s : Shared} {σ : L2.St} (I : Inv X pins σ H s) : LenOk H :=
  ⟨fun a xs h => let ⟨z, _⟩ := I.hok a _ h; z, fun a xs h => let ⟨z, _⟩ := I.hok a _ h; z⟩
theorem PE.heap {t : TE} (h : PE X e t) : PE X e (fun σ H Q => t σ H fun x H1 => LenOk H1 → Q x H1) := ⟨fun pins s σ H Q I q => thn (h.run pins s σ H _ I q) fun u s1 ⟨w, H1, I1, r1, q1⟩ => ⟨w, H1, I1, r1, q1 (Inv.lens I1)⟩⟩
theorem PA.heap {es : List Expr} {t : TA} (h : PA X es t) : PA X es (fun σ H Q => t σ H fun x H1 => LenOk H1 → Q x H1) := ⟨fun pos pins s σ H Q I q => thn (h.run pos pins s σ H _ I q) fun u s1 ⟨w, H1, I1, r1, q1⟩ => ⟨w, H1, I1, r1, q1 (Inv.lens I1)⟩⟩
theorem PI.weak {iter : Expr} {w w' : TI} (h : PI X tg iter w) (hw : ∀ σ H R, w' σ H R → w σ H R) : PI X tg iter w' := ⟨fun pins s σ H R I q => h.run pins s σ H R I (hw σ H R q)⟩

inductive ItOk (fa : FA) (K : PySem.W.Frag) (res β : List Addr) (H : Hp) : L2.It → Src → Prop where
  | lst {a : Addr} {ds : List D} {vs : List V} : H a = some (.lst vs) → a ∉ β → a ∉ res → Reps fa β res H ds vs → ItOk fa K res β H (Itl K a) (.vals ds)
  | tup {a : Addr} {ds : List D} {vs : List V} : H a = some (.tup vs) → a ∉ β → a ∉ res → Reps fa β res H ds vs → ItOk fa K res β H (Itt K a) (.vals ds)
  | live {a : Addr} {n len : Nat} : β[n]? = some a → ItOk fa K res β H (Itl K a) (.live n len)
  | str (x : Str) : ItOk fa K res β H (Its x) (.vals (x.cps.toList.map fun c => .str ⟨#[c]⟩))
  | rng (lo : Int) (n : Nat) : ItOk fa K res β H (Itr lo n) (.vals ((List.range n).map fun (k : Nat) => D.int (lo + (k : Int))))
  | zip {a b : Addr} {ds es : List D} {vs ws : List V} : H a = some (.lst vs) → a ∉ β → a ∉ res → Reps fa β res H ds vs → H b = some (.lst ws) → b ∉ β → b ∉ res → Reps fa β res H es ws → ItOk fa K res β H (Itz K a b) (.zipL ds es)
theorem ItOk.step {K : PySem.W.Frag} {J : L2.It} {src : Src} {mv β' : List Addr} {H' : Hp} (h : ItOk fa K res β H J src) (s : Step mv β H β' H') (hm : ∀ a ∈ mv, a ∈ res) : ItOk fa K res β' H' J src := by
  cases h with
  | lst e nb nr r => exact .lst (s.keep _ _ e nb fun q => nr (hm _ q)) (s.notin (by rw [e]; simp) nb) nr (r.step s hm)
  | tup e nb nr r => exact .tup (s.keep _ _ e nb fun q => nr (hm _ q)) (s.notin (by rw [e]; simp) nb) nr (r.step s hm)
  | live e =>
    obtain ⟨γ, rfl, _⟩ := s.pre
    refine .live ?_
    rw [List.getElem?_append_left (List.getElem?_eq_some_iff.mp e).1]
    exact e
  | str x => exact .str x
  | rng lo n => exact .rng lo n
  | zip e nb nr r e' nb' nr' r' => exact .zip (s.keep _ _ e nb fun q => nr (hm _ q)) (s.notin (by rw [e]; simp) nb) nr (r.step s hm) (s.keep _ _ e' nb' fun q => nr' (hm _ q)) (s.notin (by rw [e']; simp) nb') nr' (r'.step s hm)
theorem ItOk.hold {K : PySem.W.Frag} {J : L2.It} {src : Src} {p : Addr} {o : HO} (h : ItOk fa K res β H J src) (hp : H p = none) : ItOk fa K (p :: res) β (upd H p o) J src := by
  have nr' : ∀ {a : Addr} {u : HO}, H a = some u → a ∉ res → a ∉ p :: res := fun {a u} e nr q => by
    rcases List.mem_cons.mp q with q | q
    · rw [q, hp] at e; cases e
    · exact nr q
  have up : ∀ {a : Addr} {u : HO}, H a = some u → upd H p o a = some u := fun e => by rw [upd_ne (ne_of_none e hp)]; exact e
  cases h with
  | lst e nb nr r => exact .lst (up e) nb (nr' e nr) (r.hold hp)
  | tup e nb nr r => exact .tup (up e) nb (nr' e nr) (r.hold hp)
  | live e => exact .live e
  | str x => exact .str x
  | rng lo n => exact .rng lo n
  | zip e nb nr r e' nb' nr2 r' => exact .zip (up e) nb (nr' e nr) (r.hold hp) (up e') nb' (nr' e' nr2) (r'.hold hp)
theorem ItOk.item {K : PySem.W.Frag} {J : L2.It} {src : Src} {i : Nat} (S : Sim fa β res M H) (h : ItOk fa K res β H J src) (e : srcAt M i src = some d) :
    J.go i H ∧ ∀ x H', J.yld i H x H' → Step [] β H β H' ∧ Sim fa β res M H' ∧ Rep fa β res H' d x := by
  cases h with
  | lst e1 nb nr r =>
    obtain ⟨w, h1, h2⟩ := r.get e
    refine ⟨⟨_, w, SqL.of e1, h1⟩, fun x H' ⟨q1, q2⟩ => ?_⟩
    subst q1
    have := (q2 _ (SqL.of e1)).symm.trans h1
    cases this
    exact ⟨Step.refl, S, h2⟩
  | tup e1 nb nr r =>
    obtain ⟨w, h1, h2⟩ := r.get e
    refine ⟨⟨_, w, SqT.of e1, h1⟩, fun x H' ⟨q1, q2⟩ => ?_⟩
    subst q1
    have := (q2 _ (SqT.of e1)).symm.trans h1
    cases this
    exact ⟨Step.refl, S, h2⟩
  | @live a n len e1 =>
    unfold srcAt at e
    simp only at e
    split at e
    · rename_i ys hq
      split at e
      · obtain ⟨vs, g1, g2⟩ := lst_at S e1 hq
        obtain ⟨w, h1, h2⟩ := g2.get e
        refine ⟨⟨_, w, SqL.of g1, h1⟩, fun x H' ⟨q1, q2⟩ => ?_⟩
        subst q1
        have := (q2 _ (SqL.of g1)).symm.trans h1
        cases this
        exact ⟨Step.refl, S, h2⟩
      · cases e
    · cases e
  | str x =>
    have e' : (x.cps.toList.map fun c => D.str ⟨#[c]⟩)[i]? = some d := e
    rw [List.getElem?_map] at e'
    cases q : x.cps.toList[i]? with
    | none => rw [q] at e'; cases e'
    | some c =>
      rw [q] at e'
      cases e'
      have hq : x.cps[i]? = some c := by simpa using q
      refine ⟨(Array.getElem?_eq_some_iff.mp hq).1, fun y H' ⟨q1, c', h1, h2⟩ => ?_⟩
      subst q1 h2
      rw [hq] at h1
      cases h1
      exact ⟨Step.refl, S, .str _⟩
  | rng lo n =>
    have e' : ((List.range n).map fun (k : Nat) => D.int (lo + (k : Int)))[i]? = some d := e
    rw [List.getElem?_map] at e'
    by_cases hi : i < n
    · rw [List.getElem?_range hi] at e'
      cases e'
      refine ⟨hi, fun y H' ⟨q1, q2⟩ => ?_⟩
      subst q1 q2
      exact ⟨Step.refl, S, .int _⟩
    · rw [List.getElem?_eq_none (by simpa using hi)] at e'
      cases e'
  | @zip a b ds es vs ws e1 nb nr r e2 nb' nr' r' =>
    unfold srcAt at e
    simp only at e
    split at e
    · rename_i x y hx hy
      cases e
      obtain ⟨w1, h1, h2⟩ := r.get hx
      obtain ⟨w2, k1, k2⟩ := r'.get hy
      refine ⟨⟨_, _, w1, w2, SqL.of e1, SqL.of e2, h1, k1⟩, fun z H' ⟨T, x1, x2, q1, q2, q3, q4, q5⟩ => ?_⟩
      subst q1 q3
      have z1 := (q4 _ (SqL.of e1)).symm.trans h1
      have z2 := (q5 _ (SqL.of e2)).symm.trans k1
      cases z1; cases z2
      exact ⟨step_new q2, S.new q2, .tup upd_same (S.fresh q2) (fun q => S.rt T q q2) (.cons (h2.step (mv := []) (step_new q2) (by simp)) (.cons (k2.step (mv := []) (step_new q2) (by simp)) .nil))⟩
    · cases e
theorem ItOk.stop {K : PySem.W.Frag} {J : L2.It} {src : Src} (S : Sim fa β res M H) (h : ItOk fa K res β H J src) (e : srcEnd M src = true) : J.stop (srcLen src) H := by
  cases h with
  | lst e1 nb nr r => exact ⟨_, SqL.of e1, by rw [← r.length]; exact Nat.le_refl _⟩
  | tup e1 nb nr r => exact ⟨_, SqT.of e1, by rw [← r.length]; exact Nat.le_refl _⟩
  | @live a n len e1 =>
    unfold srcEnd at e
    simp only at e
    split at e
    · rename_i ys hq
      obtain ⟨vs, g1, g2⟩ := lst_at S e1 hq
      refine ⟨_, SqL.of g1, ?_⟩
      rw [← g2.length]
      exact Nat.le_of_eq (eq_of_beq e)
    · cases e
  | str x =>
    show x.cps.size ≤ (x.cps.toList.map fun c => D.str ⟨#[c]⟩).length
    simp
  | rng lo n =>
    show n ≤ ((List.range n).map fun (k : Nat) => D.int (lo + (k : Int))).length
    simp
  | @zip a b ds es vs ws e1 nb nr r e2 nb' nr' r' =>
    refine ⟨_, _, SqL.of e1, SqL.of e2, ?_⟩
    show vs.length ≤ min ds.length es.length ∨ ws.length ≤ min ds.length es.length
    rw [r.length, r'.length]
    omega
def iS (fa : FA) (K : PySem.W.Frag) (f : Rho → MH → Res Src) : TI := fun σ H R => ∃ res β ρ M src M', Sim fa β res M H ∧ RepS fa β res H ρ σ ∧ f ρ M = .ok src M' ∧ ∀ J H' β', Step [] β H β' H' → Sim fa β' res M' H' → ItOk fa K res β' H' J src → srcLen src ≤ sizeLine → R J H'
theorem i_seq (he : PE X e (tE fa f)) : PI X tg e (iS fa X.K fun ρ M => (f ρ M).bind fun d M1 => match srcOf M1 d with | some s => .ok s M1 | none => .bad) := by
  refine ⟨fun pins s σ H R I h => ?_⟩
  obtain ⟨res, β, ρ, M, src, M', S, R0, e, P⟩ := h
  obtain ⟨d, M1, e1, e⟩ := Res.bind_ok e
  have lists : (∀ v H1 β1, Step [] β H β1 H1 → Sim fa β1 res M1 H1 → Rep fa β1 res H1 d v → LenOk H1 → ∃ a, v = V.ref a ∧ (∃ xs, SqL X.K H1 a xs) ∧ R (Itl X.K a) H1) → wpAny (model X.prog X.w) X.A (eval _ X.env) (fun v s1 => wpAny (model X.prog X.w) X.A (pyIter v) (PIE X pins σ tg R) X.xe s1) X.xe s := fun g =>
    (pi_list (tg := tg) (PE.heap he)).run pins s σ H R I (tE.use S R0 e1 fun v H1 β1 s1 S1 R1 r1 lo => g v H1 β1 s1 S1 r1 lo)
  split at e
  · rename_i src' hs
    cases e
    cases d with
    | str x =>
      refine (pi_str (tg := tg) he).run pins s σ H R I (tE.use S R0 e1 fun v H1 β1 s1 S1 R1 r1 => ?_)
      cases r1
      unfold srcOf at hs
      simp only at hs
      split at hs
      · rename_i hz
        cases hs
        refine ⟨_, rfl, P _ H1 β1 s1 S1 (.str x) ?_⟩
        show (x.cps.toList.map fun c => D.str ⟨#[c]⟩).length ≤ sizeLine
        rw [List.length_map]
        exact hz
      · cases hs
    | tup xs =>
      cases hs
      refine (pi_tup (tg := tg) (PE.heap he)).run pins s σ H R I (tE.use S R0 e1 fun v H1 β1 s1 S1 R1 r1 lo => ?_)
      cases r1 with
      | tup e1 nb nr q => exact ⟨_, rfl, ⟨_, SqT.of e1⟩, P _ H1 β1 s1 S1 (.tup e1 nb nr q) (by show xs.length ≤ _; rw [q.length]; exact lo.2 _ _ e1)⟩
    | lst xs =>
      cases hs
      refine lists fun v H1 β1 s1 S1 r1 lo => ?_
      cases r1 with
      | lst e1 nb nr q => exact ⟨_, rfl, ⟨_, SqL.of e1⟩, P _ H1 β1 s1 S1 (.lst e1 nb nr q) (by show xs.length ≤ _; rw [q.length]; exact lo.1 _ _ e1)⟩
    | ref n =>
      unfold srcOf at hs
      simp only at hs
      split at hs
      · rename_i ys hq
        cases hs
        refine lists fun v H1 β1 s1 S1 r1 lo => ?_
        cases r1 with
        | ref e1 =>
          obtain ⟨vs, g1, g2⟩ := lst_at S1 e1 hq
          exact ⟨_, rfl, ⟨_, SqL.of g1⟩, P _ H1 β1 s1 S1 (.live e1) (by show ys.length ≤ _; rw [g2.length]; exact lo.1 _ _ g1)⟩
      · cases hs
    | _ => cases hs
  · cases e
theorem i_rng1 (hg : Gl X "range") (hm : X.mg "range" = none) (ha : PE X a (tE fa f)) (hs : starEach [a] X.env = [(false, eval a X.env)]) : PI X tg (.Call (.Name "range" p) [a] [] pos) (iS fa X.K fun ρ M => (f ρ M).bind fun d M1 => match d with
    | .int j => if -(2 ^ 62) ≤ j ∧ j ≤ 10000 then .ok (.vals ((List.range j.toNat).map fun (k : Nat) => D.int (0 + (k : Int)))) M1 else .bad
    | _ => .bad) := by
  refine PI.weak (pi_range1 hg hm (pa_cons ha pa_nil hs) hs) fun σ H R h => ?_
  obtain ⟨res, β, ρ, M, src, M', S, R0, e, P⟩ := h
  obtain ⟨d, M1, e1, e⟩ := Res.bind_ok e
  refine tE.use S R0 e1 fun v H1 β1 s1 S1 R1 r1 => ?_
  split at e
  · rename_i j
    split at e
    · rename_i hz
      cases e
      cases r1
      refine ⟨j, rfl, hz.1, by omega, P _ H1 β1 s1 S1 (.rng 0 _) ?_⟩
      show ((List.range j.toNat).map fun (k : Nat) => D.int (0 + (k : Int))).length ≤ 2 ^ 24
      simp
      omega
    · cases e
  · cases e
theorem i_rng2 (hg : Gl X "range") (hm : X.mg "range" = none) (ha : PE X a (tE fa f1)) (hb : PE X b (tE fa f2)) (hs : starEach [a, b] X.env = [(false, eval a X.env), (false, eval b X.env)]) (hs2 : starEach [b] X.env = [(false, eval b X.env)]) : PI X tg (.Call (.Name "range" p) [a, b] [] pos) (iS fa X.K fun ρ M => (f1 ρ M).bind fun x M1 => (f2 ρ M1).bind fun y M2 => match x, y with
    | .int i, .int j => if (-10000 ≤ i ∧ i ≤ 10000) ∧ (-10000 ≤ j ∧ j ≤ 10000) then .ok (.vals ((List.range (j - i).toNat).map fun (k : Nat) => D.int (i + (k : Int)))) M2 else .bad
    | _, _ => .bad) := by
  refine PI.weak (pi_range2 hg hm (pa_cons ha (pa_cons hb pa_nil hs2) (by rw [hs, hs2])) hs hs2) fun σ H R h => ?_
  obtain ⟨res, β, ρ, M, src, M', S, R0, e, P⟩ := h
  obtain ⟨x, M1, e1, e⟩ := Res.bind_ok e
  obtain ⟨y, M2, e2, e⟩ := Res.bind_ok e
  refine tE.use S R0 e1 fun v H1 β1 s1 S1 R1 r1 => tE.use S1 R1 e2 fun w H2 β2 s2 S2 R2 r2 => ?_
  split at e
  · rename_i i j _
    split at e
    · rename_i hz
      cases e
      cases r1; cases r2
      refine ⟨i, j, rfl, ⟨by omega, by omega, by omega, by omega⟩, P _ H2 β2 (s1.trans s2) S2 (.rng i _) ?_⟩
      show ((List.range (j - i).toNat).map fun (k : Nat) => D.int (i + (k : Int))).length ≤ 2 ^ 24
      simp
      omega
    · cases e
  · cases e
theorem i_zip {elts : List Expr} {kk : Nat} {tpos : Pos} (hg : Gl X "zip") (hm : X.mg "zip" = none) (ha : PE X a (tE fa f1)) (hb : PE X b (tE fa f2)) (hs : starEach [a, b] X.env = (false, eval a X.env) :: starEach [b] X.env) (hs2 : starEach [b] X.env = (false, eval b X.env) :: starEach [] X.env) (hpl : (backTo pos (starEach [b] X.env)).any (·.1) = false) :
    PI X (.Tuple elts kk tpos) (.Call (.Name "zip" p) [a, b] [] pos) (iS fa X.K fun ρ M => (f1 ρ M).bind fun x M1 => (f2 ρ M1).bind fun y M2 => match x, y with
    | .lst xs, .lst ys => .ok (.zipL xs ys) M2
    | _, _ => .bad) := by
  refine PI.weak (pi_zip hg hm (PA.heap (pa_cons ha (pa_cons hb pa_nil hs2) hs)) hs hpl) fun σ H R h => ?_
  obtain ⟨res, β, ρ, M, src, M', S, R0, e, P⟩ := h
  obtain ⟨x, M1, e1, e⟩ := Res.bind_ok e
  obtain ⟨y, M2, e2, e⟩ := Res.bind_ok e
  refine tE.use S R0 e1 fun v H1 β1 s1 S1 R1 r1 => tE.use S1 R1 e2 fun w H2 β2 s2 S2 R2 r2 => ?_
  intro lo
  split at e
  · rename_i xs ys _
    cases e
    have r1' := r1.step s2 (by simp)
    cases r1' with
    | lst e1 nb nr q =>
      cases r2 with
      | lst e2 nb' nr' q' =>
        refine ⟨_, _, _, _, rfl, SqL.of e1, SqL.of e2, P _ H2 β2 (s1.trans s2) S2 (.zip e1 nb nr q e2 nb' nr' q') ?_⟩
        show min xs.length ys.length ≤ sizeLine
        have := lo.1 _ _ e1
        rw [← q.length] at this
        omega
  · cases e
end
end Mi
/-! Mi11: targets, comprehensions, loops, statements, dict displays. -/
namespace Mi
open PySem PySem.Spec PyProof.Rows L2

section
variable {fa : FA} {X : Cx} {res β : List Addr} {M M' : MH} {H : Hp} {d : D} {v : V} {a b c e : Expr} {f f1 f2 : Rho → MH → Res D} {tg : Expr} {pos p : Pos}
/-! ### targets -/
def gNs : List Nat → TGs
  | [] => gNil
  | i :: is => gCons (gName i) (gNs is)
def gT (K : PySem.W.Frag) : Tg → TG
  | .name i => gName i
  | .tup is => gTup K is.length (gNs is)
structure Touch (is : List Nat) (σ σ' : L2.St) : Prop where
  len : σ'.length = σ.length
  out : ∀ j, j ∉ is → σ'[j]? = σ[j]?
theorem gNs_use {Q : L2.St → Hp → Prop} : ∀ (is : List Nat) (ds : List D) (vs : List V) (ρ ρ' : Rho) (σ : L2.St), RepS fa β res H ρ σ → Reps fa β res H ds vs → setAll ρ is ds = some ρ' → (∀ σ', RepS fa β res H ρ' σ' → Touch is σ σ' → Q σ' H) → gNs is vs σ H Q
  | [], [], vs, ρ, ρ', σ, R, r, e, h => by
    cases r; cases e
    exact ⟨rfl, h σ R ⟨rfl, fun _ _ => rfl⟩⟩
  | [], _ :: _, vs, ρ, ρ', σ, R, r, e, h => by simp [setAll] at e
  | _ :: _, [], vs, ρ, ρ', σ, R, r, e, h => by simp [setAll] at e
  | i :: is, d :: ds, vs, ρ, ρ', σ, R, r, e, h => by
    cases r with
    | @cons _ w _ ws r1 r2 =>
      refine ⟨w, ws, rfl, ?_⟩
      refine gNs_use is ds ws (ρ.set i (some d)) ρ' (σ.set i (some w)) (R.set i r1) r2 e fun σ' R' t => h σ' R' ⟨by rw [t.len, List.length_set], fun j hj => ?_⟩
      rw [t.out j (fun q => hj (List.mem_cons_of_mem _ q)), List.getElem?_set_ne (fun q => hj (by rw [q]; simp))]
theorem setAll_len : ∀ (is : List Nat) (ds : List D) (ρ ρ' : Rho), setAll ρ is ds = some ρ' → ds.length = is.length
  | [], [], _, _, _ => rfl
  | [], _ :: _, _, _, e => by simp [setAll] at e
  | _ :: _, [], _, _, e => by simp [setAll] at e
  | i :: is, d :: ds, ρ, ρ', e => by simp [setAll_len is ds _ _ e]
theorem gT_use {Q : L2.St → Hp → Prop} {K : PySem.W.Frag} {t : Tg} {ρ ρ' : Rho} {σ : L2.St} (R : RepS fa β res H ρ σ) (r : Rep fa β res H d v) (e : bindT t d ρ = some ρ') (h : ∀ σ', RepS fa β res H ρ' σ' → Touch t.own σ σ' → Q σ' H) : gT K t v σ H Q := by
  cases t with
  | name i =>
    cases e
    exact h _ (R.set i r) ⟨by simp, fun j hj => by rw [List.getElem?_set_ne (fun q => hj (by rw [q]; simp [Tg.own]))]⟩
  | tup is =>
    unfold bindT at e
    simp only at e
    split at e
    · rename_i ds
      cases r with
      | tup e1 nb nr q => exact ⟨_, _, rfl, SqT.of e1, by rw [← q.length]; exact setAll_len _ _ _ _ e, gNs_use is ds _ ρ ρ' σ R q e h⟩
    · cases e
theorem wipe_in {σ : L2.St} {j : Nat} : ∀ {vs : List Nat}, j ∈ vs → (wipe σ vs)[j]? = if j < σ.length then some none else none
  | v :: vs, h => by
    show ((wipe σ vs).set v none)[j]? = _
    by_cases q : v = j
    · subst q
      by_cases hl : v < σ.length
      · rw [List.getElem?_set_self (by rw [wipe_length]; exact hl), if_pos hl]
      · rw [List.getElem?_eq_none (by rw [List.length_set, wipe_length]; omega), if_neg hl]
    · rw [List.getElem?_set_ne q]
      rcases List.mem_cons.mp h with e | h
      · exact absurd e.symm q
      · exact wipe_in h
theorem wipe_touch {σ σ2 : L2.St} {vs : List Nat} (t : Touch vs (wipe σ vs) σ2) : wipe σ2 vs = wipe σ vs := by
  apply List.ext_getElem?
  intro j
  by_cases h : j ∈ vs
  · rw [wipe_in h, wipe_in h, t.len, wipe_length]
  · rw [wipe_out h, t.out j h]
theorem wipeR_some {ρ : Rho} {i : Nat} {d : D} : ∀ {vs : List Nat}, (wipeR ρ vs)[i]? = some (some d) → ρ[i]? = some (some d) ∧ i ∉ vs
  | [], h => ⟨h, by simp⟩
  | v :: vs, h => by
    have h : ((wipeR ρ vs).set v none)[i]? = some (some d) := h
    by_cases q : v = i
    · subst q
      by_cases hl : v < (wipeR ρ vs).length
      · rw [List.getElem?_set_self hl] at h; cases h
      · rw [List.getElem?_eq_none (by rw [List.length_set]; omega)] at h; cases h
    · rw [List.getElem?_set_ne q] at h
      obtain ⟨h1, h2⟩ := wipeR_some h
      exact ⟨h1, fun z => (List.mem_cons.mp z).elim (fun e => q e.symm) h2⟩
theorem wipeR_length (ρ : Rho) : ∀ vs : List Nat, (wipeR ρ vs).length = ρ.length
  | [] => rfl
  | v :: vs => by
    show ((wipeR ρ vs).set v none).length = _
    rw [List.length_set, wipeR_length ρ vs]
theorem RepS.wipe {ρ : Rho} {σ : L2.St} (R : RepS fa β res H ρ σ) (vs : List Nat) : RepS fa β res H (wipeR ρ vs) (wipe σ vs) := by
  refine ⟨by rw [wipeR_length, wipe_length]; exact R.len, fun i d h => ?_⟩
  obtain ⟨h1, h2⟩ := wipeR_some h
  obtain ⟨w, k1, k2⟩ := R.at_ i d h1
  exact ⟨w, by rw [wipe_out h2]; exact k1, k2⟩
theorem Step.ofHold {β β' : List Addr} {H H' : Hp} {p : Addr} {o : HO} (s : Step [p] β (upd H p o) β' H') (hp : H p = none) : Step [] β H β' H' := by
  refine ⟨?_, fun a u e nb _ => ?_, fun a h => s.dom a (by
    by_cases q : a = p
    · subst q; exact absurd hp h
    · rw [upd_ne q]; exact h)⟩
  · obtain ⟨γ, h1, h2⟩ := s.pre
    refine ⟨γ, h1, fun a ha => ?_⟩
    have := h2 a ha
    by_cases q : a = p
    · subst q; rw [upd_same] at this; cases this
    · rw [upd_ne q] at this; exact this
  · have hne := ne_of_none e hp
    exact s.keep a u (by rw [upd_ne hne]; exact e) nb (by simpa using hne)
theorem Step.adopt {β β' : List Addr} {H H' : Hp} {p : Addr} (s : Step [] β H β' H') (hp : H p = none) : Step [] β H (β' ++ [p]) H' := by
  obtain ⟨⟨γ, rfl, f⟩, k, d⟩ := s
  exact ⟨⟨γ ++ [p], by simp, fun a ha => (List.mem_append.mp ha).elim (f a) fun z => by rw [List.mem_singleton.mp z]; exact hp⟩, k, d⟩
theorem Step.none_of {mv β β' : List Addr} {H H' : Hp} {p : Addr} (s : Step mv β H β' H') (hp : H' p = none) : H p = none := by
  cases q : H p with
  | none => rfl
  | some o => exact absurd hp (s.dom p (by rw [q]; simp))
theorem notin_adopt {a p : Addr} (nb : a ∉ β) (nr : a ∉ p :: res) : a ∉ β ++ [p] ∧ a ∉ res :=
  ⟨fun q => (List.mem_append.mp q).elim nb fun z => nr (by rw [List.mem_singleton.mp z]; simp), fun q => nr (List.mem_cons_of_mem _ q)⟩
mutual
theorem Rep.adopt {p : Addr} {d : D} {v : V} : Rep fa β (p :: res) H d v → Rep fa (β ++ [p]) res H d v
  | .non => .non
  | .bl b => .bl b
  | .int i => .int i
  | .str x => .str x
  | .ty t => .ty t
  | .fn k => .fn k
  | .ref e => .ref (by rw [List.getElem?_append_left (List.getElem?_eq_some_iff.mp e).1]; exact e)
  | .tup e nb nr r => .tup e (notin_adopt nb nr).1 (notin_adopt nb nr).2 (Reps.adopt r)
  | .lst e nb nr r => .lst e (notin_adopt nb nr).1 (notin_adopt nb nr).2 (Reps.adopt r)
  | .scr e nb nr => .scr e (notin_adopt nb nr).1 (notin_adopt nb nr).2
  | .scrK h => .scrK h
theorem Reps.adopt {p : Addr} {ds : List D} {vs : List V} : Reps fa β (p :: res) H ds vs → Reps fa (β ++ [p]) res H ds vs
  | .nil => .nil
  | .cons r q => .cons (Rep.adopt r) (Reps.adopt q)
end
theorem RepKV.adopt {p : Addr} : ∀ {ds : List (Key × D)} {vs : List (Key × V)}, RepKV fa β (p :: res) H ds vs → RepKV fa (β ++ [p]) res H ds vs
  | _, _, .nil => .nil
  | _, _, .cons r q => .cons r.adopt (RepKV.adopt q)
/-- a reserved object becomes one that may change -/
theorem Sim.adopt {p : Addr} {o : MO} {ho : HO} (s : Sim fa β (p :: res) M H) (hpr : p ∉ res) (e : H p = some ho) (r : RepO fa β (p :: res) H o ho) : Sim fa (β ++ [p]) res (M ++ [o]) H ∧ p ∉ β := by
  have hpb : p ∉ β := fun q => s.nr p q (by simp)
  have repO : ∀ {o : MO} {ho : HO}, RepO fa β (p :: res) H o ho → RepO fa (β ++ [p]) res H o ho := by
    intro o ho h
    cases h with
    | lst r => exact .lst r.adopt
    | dict r => exact .dict r.adopt
  refine ⟨⟨by simp [s.len], ?_, fun a h => ?_, fun a h => s.rt a (List.mem_cons_of_mem _ h), fun n a mo e1 e2 => ?_⟩, hpb⟩
  · rw [List.nodup_append]
    exact ⟨s.nd, by simp, fun a h b h' q => by rw [List.mem_singleton.mp h'] at q; subst q; exact hpb h⟩
  · rcases List.mem_append.mp h with h | h
    · exact fun q => s.nr a h (List.mem_cons_of_mem _ q)
    · rw [List.mem_singleton.mp h]
      exact hpr
  · by_cases hn : n < β.length
    · rw [List.getElem?_append_left hn] at e1
      rw [List.getElem?_append_left (by rw [← s.len]; exact hn)] at e2
      obtain ⟨ho', h1, h2⟩ := s.at_ n a mo e1 e2
      exact ⟨ho', h1, repO h2⟩
    · have en : n = β.length := by
        have := (List.getElem?_eq_some_iff.mp e1).1
        simp at this
        omega
      subst en
      rw [List.getElem?_append_right (Nat.le_refl _)] at e1
      rw [s.len, List.getElem?_append_right (Nat.le_refl _)] at e2
      simp at e1 e2
      subst e1 e2
      exact ⟨ho, e, repO r⟩

/-! ### comprehensions -/
theorem lc_use {m : Bool} {t : Tg} {fI : Rho → MH → Res Src} {fc : Rho → MH → Res Bool} {fe : Rho → MH → Res D} {K : PySem.W.Frag} {σ : L2.St} {H : Hp} {Q : VK}
    (h : tE fa (fun ρ M => (fI ρ M).bind fun src M1 => (compLoop src (fun d => bindT t d (wipeR ρ t.own)) fc fe (srcLen src) 0 [] M1).bind fun ds M2 => newL m ds M2) σ H Q) :
    tLc (iS fa K fI) (gT K t) (tB fa fc) (tE fa fe) t.own σ H Q := by
  obtain ⟨res, β, ρ, M, d, M', S, R, e, P⟩ := h
  obtain ⟨src, M1, e1, e⟩ := Res.bind_ok e
  obtain ⟨fin, Mf, e2, e3⟩ := Res.bind_ok e
  refine ⟨res, β, ρ, M, src, M1, S, R, e1, fun J H1 β1 s1 S1 it hsz p hp => ?_⟩
  have hpr : p ∉ res := fun q => S1.rt p q hp
  have R1 : RepS fa β1 res H1 ρ σ := R.step s1 (by simp)
  have it1 : ItOk fa K (p :: res) β1 (upd H1 p (.lst [])) J src := it.hold hp
  have R2 : RepS fa β1 (p :: res) (upd H1 p (.lst [])) (wipeR ρ t.own) (wipe σ t.own) := (R1.hold hp).wipe t.own
  have sub : ∀ a ∈ [p], a ∈ p :: res := fun a h => by rw [List.mem_singleton.mp h]; simp
  refine ⟨fun i m H => ∃ β' M' ds vs, Step [p] β1 (upd H1 p (.lst [])) β' H ∧ Sim fa β' (p :: res) M' H ∧ H p = some (.lst vs) ∧ Reps fa β' (p :: res) H ds vs ∧ ds.length ≤ i ∧ i + m = srcLen src ∧ compLoop src (fun d => bindT t d (wipeR ρ t.own)) fc fe m i ds M' = .ok fin Mf,
    ⟨srcLen src, β1, M1, [], [], Step.refl, S1.hold hp, upd_same, .nil, Nat.le_refl _, by omega, e2⟩, fun i mm H hW => ?_⟩
  obtain ⟨β', M', ds, vs, st, S', ep, r, hl, hi, e⟩ := hW
  have it' : ItOk fa K (p :: res) β' H J src := it1.step st sub
  have R' : RepS fa β' (p :: res) H (wipeR ρ t.own) (wipe σ t.own) := R2.step st sub
  have hpb : p ∉ β' := fun q => S'.nr p q (by simp)
  cases mm with
  | zero =>
    left
    unfold compLoop at e
    split at e
    · rename_i hend
      cases e
      have ei : i = srcLen src := by omega
      subst ei
      refine ⟨it'.stop S' hend, ?_⟩
      have st0 : Step [] β _ β' H := s1.trans (st.ofHold hp)
      unfold newL at e3
      cases m with
      | false =>
        rw [if_neg Bool.false_ne_true] at e3
        cases e3
        exact P _ H β' st0 S'.unreserve (.lst ep hpb hpr r.unreserve)
      | true =>
        rw [if_pos rfl] at e3
        cases e3
        obtain ⟨S2, _⟩ := S'.adopt hpr ep (.lst r)
        refine P (.ref p) H (β' ++ [p]) ?_ S2 (.ref ?_)
        · exact st0.adopt (s1.none_of hp)
        · rw [← S'.len, List.getElem?_append_right (Nat.le_refl _)]
          simp
    · cases e
  | succ k =>
    right
    unfold compLoop at e
    split at e
    · rename_i it0 hit
      split at e
      · rename_i ρ1 hb
        obtain ⟨bb, M2, ec, e⟩ := Res.bind_ok e
        obtain ⟨hgo, hyl⟩ := it'.item S' hit
        refine ⟨hgo, fun H' => ∃ β' M' ds vs, Step [p] β1 (upd H1 p (.lst [])) β' H' ∧ Sim fa β' (p :: res) M' H' ∧ H' p = some (.lst vs) ∧ Reps fa β' (p :: res) H' ds vs ∧ ds.length ≤ i + 1 ∧ (i + 1) + k = srcLen src ∧ compLoop src (fun d => bindT t d (wipeR ρ t.own)) fc fe k (i + 1) ds M' = .ok fin Mf,
          fun H' hN => ⟨k, Nat.lt_succ_self k, hN⟩, fun x H' hy => ?_⟩
        obtain ⟨sy, Sy, ry⟩ := hyl x H' hy
        have epy : H' p = some (.lst vs) := sy.keep p _ ep hpb (by simp)
        refine gT_use (R'.step sy (by simp)) ry hb fun σ2 R2' tch => ⟨wipe_touch tch, ?_⟩
        refine tB.use Sy R2' ec fun H3 β3 s3 S3 R3 => ?_
        have ep3 : H3 p = some (.lst vs) := s3.keep p _ epy hpb (by simp)
        have st3 : Step [p] β1 (upd H1 p (.lst [])) β3 H3 := st.trans ((sy.trans s3).more)
        have r3 : Reps fa β3 (p :: res) H3 ds vs := r.step (sy.trans s3) (by simp)
        have hpb3 : p ∉ β3 := fun q => S3.nr p q (by simp)
        cases bb with
        | false =>
          rw [if_neg Bool.false_ne_true] at e ⊢
          exact ⟨β3, M2, ds, vs, st3, S3, ep3, r3, by omega, by omega, e⟩
        | true =>
          rw [if_pos rfl] at e ⊢
          obtain ⟨y, M3, ee, e⟩ := Res.bind_ok e
          refine tE.use S3 R3 ee fun w H4 β4 s4 S4 R4 r4 => ?_
          have ep4 : H4 p = some (.lst vs) := s4.keep p _ ep3 hpb3 (by simp)
          refine ⟨vs, ep4, ?_, β4, M3, ds ++ [y], vs ++ [w], (st3.trans s4.more).trans step_mv, S4.mvd (by simp), upd_same, ?_, by simp; omega, by omega, e⟩
          · rw [← r.length]
            omega
          · exact ((r3.step s4 (by simp)).append (.cons r4 .nil)).step step_mv sub
      · cases e
    · cases e

theorem r_comp {m : Bool} {t : Tg} {elt iter : Expr} {ifs : List Expr} {scope : Scope} {own : List (Str × Nat)} {fI : Rho → MH → Res Src} {fc : Rho → MH → Res Bool} {fe : Rho → MH → Res D} (hc : X.calm = true) (hN : X.N.Nodup) (hi : PI X tg iter (iS fa X.K fI)) (ok : BlkOk X.N X.env.scope scope own) (ho : own.map (·.2) = t.own)
    (hg : ∀ (s : Shared) (H : Hp) (C : Addr) (cl : List (Str × Addr)) (fp : List Addr), PG (X.blk s H scope (compEnvC scope cl C X.env) fp) tg (gT X.K t)) (ht : ∀ (s : Shared) (H : Hp) (C : Addr) (cl : List (Str × Addr)) (fp : List Addr), PTs (X.blk s H scope (compEnvC scope cl C X.env) fp) ifs (tB fa fc))
    (he : ∀ (s : Shared) (H : Hp) (C : Addr) (cl : List (Str × Addr)) (fp : List Addr), PE (X.blk s H scope (compEnvC scope cl C X.env) fp) elt (tE fa fe)) (hs : ∀ x, foldedSetIterable iter X.env x = pure x) :
    PE X (.ListComp elt [⟨tg, iter, ifs, 0⟩] scope pos) (tE fa fun ρ M => (fI ρ M).bind fun src M1 => (compLoop src (fun d => bindT t d (wipeR ρ t.own)) fc fe (srcLen src) 0 [] M1).bind fun ds M2 => newL m ds M2) := by
  refine PE.weak (pe_lc hc hN hi ok hg ht he hs) fun σ H Q h => ?_
  rw [ho]
  exact lc_use h

/-! ### statements -/
variable {st : Stmt} {sts : List Stmt} {g g1 g2 : Rho → MH → Res Fl}
theorem s_nil : PSs X [] (tF fa fun ρ M => .ok (.nx ρ) M) := by
  refine PSs.weak pss_nil fun En σ H h => ?_
  obtain ⟨res, β, ρ, M, o, M', S, R, e, P⟩ := h
  cases e
  exact P σ H β Step.refl S R
theorem s_cons (h1 : PS X st (tF fa g1)) (h2 : PSs X sts (tF fa g2)) : PSs X (st :: sts) (tF fa fun ρ M => (g1 ρ M).bind fun f M1 => match f with | .nx ρ1 => g2 ρ1 M1 | .rt d => .ok (.rt d) M1) := by
  refine PSs.weak (pss_cons h1 h2) fun En σ H h => ?_
  obtain ⟨res, β, ρ, M, o, M', S, R, e, P⟩ := h
  obtain ⟨f, M1, e1, e⟩ := Res.bind_ok e
  refine ⟨res, β, ρ, M, f, M1, S, R, e1, ?_⟩
  cases f with
  | nx ρ1 => exact fun σ' H' β' s1 S1 R1 => ⟨res, β', ρ1, M1, o, M', S1, R1, e, P.after s1⟩
  | rt d => cases e; exact P
theorem s_ret (he : PE X e (tE fa f)) : PS X (.Return (some e) pos) (tF fa fun ρ M => (f ρ M).bind fun d M1 => .ok (.rt d) M1) := by
  refine PS.weak (ps_ret he) fun En σ H h => ?_
  obtain ⟨res, β, ρ, M, o, M', S, R, e, P⟩ := h
  obtain ⟨d, M1, e1, e⟩ := Res.bind_ok e
  cases e
  exact ⟨res, β, ρ, M, d, _, S, R, e1, P⟩
theorem s_expr (he : PE X e (tE fa f)) (hs : swapsWith e none pos.line X.env = pure false) : PS X (.Expr e pos) (tF fa fun ρ M => (f ρ M).bind fun _ M1 => .ok (.nx ρ) M1) := by
  refine PS.weak (ps_expr he hs) fun En σ H h => ?_
  obtain ⟨res, β, ρ, M, o, M', S, R, e, P⟩ := h
  obtain ⟨d, M1, e1, e⟩ := Res.bind_ok e
  cases e
  exact tE.use S R e1 fun v H1 β1 s1 S1 R1 r1 => P σ H1 β1 s1 S1 R1
theorem s_set {i : Nat} {x : Str} {pos' : Pos} (hN : X.N.Nodup) (hi : X.N[i]? = some x) (hx : Loc X.env.scope x) (he : PE X e (tE fa f)) (hs : swapsWith e (some (.Name x pos')) pos.line X.env = pure false) (hf : X.fn x = true ∨ X.env.scope.names.lookup x = some .local) :
    PS X (.Assign [.Name x pos'] e pos) (tF fa fun ρ M => (f ρ M).bind fun d M1 => .ok (.nx (ρ.set i (some d))) M1) := by
  refine PS.weak (ps_set hN hi hx he hs hf) fun En σ H h => ?_
  obtain ⟨res, β, ρ, M, o, M', S, R, e, P⟩ := h
  obtain ⟨d, M1, e1, e⟩ := Res.bind_ok e
  cases e
  exact tE.use S R e1 fun v H1 β1 s1 S1 R1 r1 => P _ H1 β1 s1 S1 (R1.set i r1)
theorem s_setLc {i : Nat} {y : Str} {py spos : Pos} {m : Bool} {t : Tg} {elt iter : Expr} {ifs : List Expr} {scope : Scope} {own : List (Str × Nat)} {fI : Rho → MH → Res Src} {fc : Rho → MH → Res Bool} {fe : Rho → MH → Res D} (hc : X.calm = true) (hN : X.N.Nodup) (hy : X.N[i]? = some y) (hyl : X.env.scope.names.lookup y = some .local)
    (hsw : swapsWith (.ListComp elt [⟨tg, iter, ifs, 0⟩] scope pos) (some (.Name y py)) spos.line X.env = pure true) (hi : PI X tg iter (iS fa X.K fI)) (ok : BlkOk X.N X.env.scope scope own) (ho : own.map (·.2) = t.own)
    (hg : ∀ (s : Shared) (H : Hp) (C : Addr) (cl : List (Str × Addr)) (fp : List Addr), PG (X.blk s H scope (compEnvC scope cl C X.env) fp) tg (gT X.K t)) (ht : ∀ (s : Shared) (H : Hp) (C : Addr) (cl : List (Str × Addr)) (fp : List Addr), PTs (X.blk s H scope (compEnvC scope cl C X.env) fp) ifs (tB fa fc))
    (he : ∀ (s : Shared) (H : Hp) (C : Addr) (cl : List (Str × Addr)) (fp : List Addr), PE (X.blk s H scope (compEnvC scope cl C X.env) fp) elt (tE fa fe)) (hs : ∀ x, foldedSetIterable iter X.env x = pure x) :
    PS X (.Assign [.Name y py] (.ListComp elt [⟨tg, iter, ifs, 0⟩] scope pos) spos) (tF fa fun ρ M => ((fI ρ M).bind fun src M1 => (compLoop src (fun d => bindT t d (wipeR ρ t.own)) fc fe (srcLen src) 0 [] M1).bind fun ds M2 => newL m ds M2).bind fun d M1 => .ok (.nx (ρ.set i (some d))) M1) := by
  refine PS.weak (ps_setLc hc hN hy hyl hsw hi ok hg ht he hs) fun En σ H h => ?_
  obtain ⟨res, β, ρ, M, o, M', S, R, e, P⟩ := h
  obtain ⟨d, M1, e1, e⟩ := Res.bind_ok e
  cases e
  show tLc _ _ _ _ _ σ H _
  rw [ho]
  refine lc_use (m := m) (tE.use S R e1 fun v H1 β1 s1 S1 R1 r1 => ?_)
  exact P _ H1 β1 s1 S1 (R1.set i r1)
theorem s_if {k : Rho → MH → Res Bool} {bs cs : List Stmt} (hc : PT X c (tB fa k)) (ha : PSs X bs (tF fa g1)) (hb : PSs X cs (tF fa g2)) : PS X (.If c bs cs pos) (tF fa fun ρ M => (k ρ M).bind fun b M1 => if b = true then g1 ρ M1 else g2 ρ M1) := by
  refine PS.weak (ps_if hc ha hb) fun En σ H h => ?_
  obtain ⟨res, β, ρ, M, o, M', S, R, e, P⟩ := h
  obtain ⟨b, M1, e1, e⟩ := Res.bind_ok e
  refine tB.use S R e1 fun H1 β1 s1 S1 R1 => ?_
  cases b with
  | true => rw [if_pos rfl] at e ⊢; exact ⟨res, β1, ρ, M1, o, M', S1, R1, e, P.after s1⟩
  | false => rw [if_neg Bool.false_ne_true] at e ⊢; exact ⟨res, β1, ρ, M1, o, M', S1, R1, e, P.after s1⟩
theorem s_setIx {k : Str} {j : Nat} {kp pos' : Pos} (hu : X.A.units + 65 < cLine) (ho : PE X a (tE fa f1)) (he : PE X e (tE fa f2)) (hs : swapsWith e (some (.Subscript a (.Constant (.str k) j kp) pos')) pos.line X.env = pure false) :
    PS X (.Assign [.Subscript a (.Constant (.str k) j kp) pos'] e pos) (tF fa fun ρ M => (f2 ρ M).bind fun v M1 => (f1 ρ M1).bind fun x M2 => match x with
      | .ref n => (match M2[n]? with
        | some (.dict kvs) => if kvs.length < 1000 then .ok (.nx ρ) (M2.set n (.dict (putD kvs (.inr k) v))) else .bad
        | _ => .bad)
      | _ => .bad) := by
  refine PS.weak (ps_dput (by omega) ho pe_str he hs) fun En σ H h => ?_
  obtain ⟨res, β, ρ, M, o, M', S, R, e, P⟩ := h
  obtain ⟨v, M1, e1, e⟩ := Res.bind_ok e
  obtain ⟨x, M2, e2, e⟩ := Res.bind_ok e
  refine tE.use S R e1 fun w H1 β1 s1 S1 R1 r1 => tE.use S1 R1 e2 fun u H2 β2 s2 S2 R2 r2 => ?_
  split at e
  · rename_i n
    split at e
    · rename_i kvs hq
      split at e
      · rename_i hz
        cases e
        cases r2 with
        | ref e3 =>
          obtain ⟨ho, h1, h2⟩ := S2.at_ n _ _ e3 hq
          cases h2 with
          | dict r =>
            have hm := List.mem_of_getElem? e3
            refine ⟨_, _, rfl, DPut.k (k := Sum.inr k) h1 ?_, ?_⟩
            · rw [← r.length]
              exact Nat.lt_trans hz (by decide)
            · exact P σ _ β2 ((s1.trans s2).trans (step_write hm)) (S2.write e3 (.dict (putD_rep r (r1.step s2 (by simp))))) (R2.step (step_write (mv := []) hm) (by simp))
      · cases e
    · cases e
  · cases e
theorem s_for {t : Tg} {iter : Expr} {body : List Stmt} {fI : Rho → MH → Res Src} (hp : PassesOwn (model X.prog X.w) X.A X.env X.xe) (hc : X.calm = true) (hi : PI X tg iter (iS fa X.K fI)) (hg : PG X tg (gT X.K t)) (hb : PSs X body (tF fa g)) (hs : ∀ x, foldedSetIterable iter X.env x = pure x) :
    PS X (.For tg iter body [] pos) (tF fa fun ρ M => (fI ρ M).bind fun src M1 => forLoop src (bindT t) g (srcLen src) 0 ρ M1) := by
  refine PS.weak (ps_for hp hc hi hg hb hs) fun En σ H h => ?_
  obtain ⟨res, β, ρ, M, o, Mf, S, R, e, P⟩ := h
  obtain ⟨src, M1, e1, e2⟩ := Res.bind_ok e
  refine ⟨res, β, ρ, M, src, M1, S, R, e1, fun J H1 β1 s1 S1 it hsz => ?_⟩
  refine ⟨fun i m σ H => ∃ β' M' ρ', Step [] β1 H1 β' H ∧ Sim fa β' res M' H ∧ RepS fa β' res H ρ' σ ∧ i + m = srcLen src ∧ forLoop src (bindT t) g m i ρ' M' = .ok o Mf,
    ⟨srcLen src, β1, M1, ρ, Step.refl, S1, R.step s1 (by simp), by omega, e2⟩, fun i m σ H hW => ?_⟩
  obtain ⟨β', M', ρ', st, S', R', hi, e⟩ := hW
  have it' : ItOk fa X.K res β' H J src := it.step st (by simp)
  cases m with
  | zero =>
    left
    unfold forLoop at e
    split at e
    · rename_i hend
      cases e
      have ei : i = srcLen src := by omega
      subst ei
      exact ⟨it'.stop S' hend, P σ H β' (s1.trans st) S' R'⟩
    · cases e
  | succ k =>
    right
    unfold forLoop at e
    split at e
    · rename_i it0 hit
      split at e
      · rename_i ρ1 hb
        obtain ⟨ff, M2, ec, e⟩ := Res.bind_ok e
        obtain ⟨hgo, hyl⟩ := it'.item S' hit
        refine ⟨hgo, fun σ' H' => ∃ β' M' ρ', Step [] β1 H1 β' H' ∧ Sim fa β' res M' H' ∧ RepS fa β' res H' ρ' σ' ∧ (i + 1) + k = srcLen src ∧ forLoop src (bindT t) g k (i + 1) ρ' M' = .ok o Mf, fun σ' H' hN => ⟨k, Nat.lt_succ_self k, hN⟩, fun x H' hy => ?_⟩
        obtain ⟨sy, Sy, ry⟩ := hyl x H' hy
        refine gT_use (R'.step sy (by simp)) ry hb fun σ2 R2' tch => ?_
        refine ⟨res, β', ρ1, M', ff, M2, Sy, R2', ec, ?_⟩
        cases ff with
        | nx ρ2 => exact fun σ' H3 β3 s3 S3 R3 => ⟨β3, M2, ρ2, st.trans (sy.trans s3), S3, R3, by omega, e⟩
        | rt d =>
          cases e
          exact Post.after P (s1.trans (st.trans sy))
      · cases e
    · cases e
end
end Mi
/-! Mi12: two names at once, dict displays. -/
namespace Mi
open PySem PySem.Spec PyProof.Rows L2

def plainE : Expr → Bool
  | .Starred .. => false
  | _ => true
theorem star_plain {e : Expr} {es : List Expr} {env : Env} (h : plainE e = true) : starEach (e :: es) env = (false, eval e env) :: starEach es env := by
  cases e <;> first | rfl | cases h
theorem star_none {env : Env} {pos : Pos} : ∀ {es : List Expr}, es.all plainE = true → (backTo pos (starEach es env)).any (·.1) = false
  | [], _ => rfl
  | e :: es, h => by
    rw [List.all_cons, Bool.and_eq_true] at h
    rw [star_plain h.1]
    show ((false || (backTo pos (starEach es env)).any (·.1)) : Bool) = false
    rw [star_none h.2]
    rfl
theorem star_all {env : Env} {pos : Pos} : ∀ {es : List Expr}, es.all plainE = true → (backTo pos (starEach es env)).all (fun x => !x.1) = true
  | [], _ => rfl
  | e :: es, h => by
    rw [List.all_cons, Bool.and_eq_true] at h
    rw [star_plain h.1]
    show ((!false && (backTo pos (starEach es env)).all (fun x => !x.1)) : Bool) = true
    rw [star_all h.2]
    rfl
section
variable {env : Env} {x y : Str} {px py pt pt2 : Pos} {kt k2 : Nat} {a b : Expr}
theorem star_is (e : Expr) : (match e with | .Starred .. => true | _ => false) = !plainE e := by
  cases e <;> rfl
theorem swap_some (hk : env.blockKind = .function) (hx : env.kindOf x = some .local) (hy : env.kindOf y = some .local) (hl : (py.line == px.line) = true) (hne : x ≠ y) (ha : plainE a = true) (hb : plainE b = true) (h1 : ([a, b].all (foldedForSure 8)) = false) (h2 : ([a, b].all (constantsAlone 8)) = false) :
    swappedStores [.Tuple [.Name x px, .Name y py] kt pt] (.Tuple [a, b] k2 pt2) env = pure (some [x, y]) := by
  have st : ([a, b].any fun | .Starred .. => true | _ => false) = false := by
    rw [List.any_cons, List.any_cons, List.any_nil, star_is, star_is, ha, hb]; rfl
  have ee : ([x, y] : List Str).eraseDups.length = 2 := by
    simp [List.eraseDups_cons, hne, Ne.symm hne]
  have e1 : ([Expr.Name x px, Expr.Name y py].filterMap fun
    | .Name id pos => if (env.kindOf id == some .local && pos.line == (([Expr.Name x px, Expr.Name y py].head?.map (·.pos.line)).getD 0)) = true then some id else none
    | _ => none) = [x, y] := by
    have l0 : (([Expr.Name x px, Expr.Name y py].head?.map (·.pos.line)).getD 0) = px.line := rfl
    have hl' : py.line = px.line := by simpa using hl
    rw [l0, List.filterMap_cons, List.filterMap_cons, List.filterMap_nil]
    simp only [hx, hy, hl']
    simp
  have kk : (env.blockKind != ScopeKind.function) = false := by rw [hk]; rfl
  unfold swappedStores
  simp only []
  refine (if_neg ?_).trans ((if_neg ?_).trans ((if_neg ?_).trans ((if_neg ?_).trans ((if_neg ?_).trans ?_))))
  · rw [kk]
    simp
  · intro z
    exact Bool.false_ne_true (st.symm.trans z)
  · have key : ∀ l : List Str, l = [x, y] → ¬ ((l.length != 2 || l.eraseDups.length != l.length) = true) := by
      rintro _ rfl
      rw [ee]
      simp
    exact key _ e1
  · rw [h1]
    decide
  · rw [h2]
    decide
  · exact congrArg (fun l => pure (some l)) e1
theorem swap_none (h : env.kindOf x ≠ some .local ∨ env.kindOf y ≠ some .local) : swappedStores [.Tuple [.Name x px, .Name y py] kt pt] (.Tuple [a, b] k2 pt2) env = pure none := by
  have e1 : (([Expr.Name x px, Expr.Name y py].filterMap fun
    | .Name id pos => if (env.kindOf id == some .local && pos.line == (([Expr.Name x px, Expr.Name y py].head?.map (·.pos.line)).getD 0)) = true then some id else none
    | _ => none).length != 2) = true := by
    have nx : ∀ {z : Str}, env.kindOf z ≠ some .local → (env.kindOf z == some .local) = false := fun hz => by simpa using hz
    rw [List.filterMap_cons, List.filterMap_cons, List.filterMap_nil]
    rcases h with h | h
    · simp only [nx h, Bool.false_and, Bool.false_eq_true, if_false]
      split <;> rfl
    · simp only [nx h, Bool.false_and, Bool.false_eq_true, if_false]
      split <;> rfl
  unfold swappedStores
  simp only []
  have e2 : (([x, y] : List Str).length) = 2 := rfl
  split
  · rfl
  · split
    · rfl
    · refine if_pos ?_
      have key : ∀ l : List Str, (l.length != 2) = true → (l.length != 2 || l.eraseDups.length != l.length) = true := fun l h => by rw [h]; rfl
      exact key _ e1
end
section
variable {fa : FA} {X : Cx} {a b : Expr} {f1 f2 : Rho → MH → Res D} {pos : Pos} {x y : Str} {i j : Nat} {px py pt pt2 : Pos} {kt k2 : Nat}
theorem s_parL (hc : X.calm = true) (hN : X.N.Nodup) (hi : X.N[i]? = some x) (hj : X.N[j]? = some y) (hij : i ≠ j) (hx : X.env.scope.names.lookup x = some .local) (hy : X.env.scope.names.lookup y = some .local) (ha : PE X a (tE fa f1)) (hb : PE X b (tE fa f2)) (pa : plainE a = true) (pb : plainE b = true)
    (hw : swappedStores [.Tuple [.Name x px, .Name y py] kt pt] (.Tuple [a, b] k2 pt2) X.env = pure (some [x, y])) : PS X (.Assign [.Tuple [.Name x px, .Name y py] kt pt] (.Tuple [a, b] k2 pt2) pos) (tF fa fun ρ M => (f1 ρ M).bind fun u M1 => (f2 ρ M1).bind fun w M2 => .ok (.nx ((ρ.set i (some u)).set j (some w))) M2) := by
  refine PS.weak (ps_par hc hN hi hj hij hx hy (pa_cons ha (pa_cons hb pa_nil (star_plain pb)) (star_plain pa)) hw rfl) fun En σ H h => ?_
  obtain ⟨res, β, ρ, M, o, M', S, R, e, P⟩ := h
  obtain ⟨u, M1, e1, e⟩ := Res.bind_ok e
  obtain ⟨w, M2, e2, e⟩ := Res.bind_ok e
  cases e
  refine tE.use S R e1 fun v H1 β1 s1 S1 R1 r1 => tE.use S1 R1 e2 fun z H2 β2 s2 S2 R2 r2 => ?_
  exact ⟨v, z, rfl, P _ H2 β2 (s1.trans s2) S2 ((R2.set i (r1.step s2 (by simp))).set j r2)⟩
theorem s_parT (hc : X.calm = true) (ha : PE X a (tE fa f1)) (hb : PE X b (tE fa f2)) (pa : plainE a = true) (pb : plainE b = true) (hg : PG X (.Tuple [.Name x px, .Name y py] kt pt) (gT X.K (.tup [i, j])))
    (hw : swappedStores [.Tuple [.Name x px, .Name y py] kt pt] (.Tuple [a, b] k2 pt2) X.env = pure none) : PS X (.Assign [.Tuple [.Name x px, .Name y py] kt pt] (.Tuple [a, b] k2 pt2) pos) (tF fa fun ρ M => (f1 ρ M).bind fun u M1 => (f2 ρ M1).bind fun w M2 => .ok (.nx ((ρ.set i (some u)).set j (some w))) M2) := by
  refine PS.weak (ps_asg (pe_tup (pa_cons ha (pa_cons hb pa_nil (star_plain pb)) (star_plain pa))) hg rfl hw rfl) fun En σ H h => ?_
  obtain ⟨res, β, ρ, M, o, M', S, R, e, P⟩ := h
  obtain ⟨u, M1, e1, e⟩ := Res.bind_ok e
  obtain ⟨w, M2, e2, e⟩ := Res.bind_ok e
  cases e
  refine tE.use S R e1 fun v H1 β1 s1 S1 R1 r1 => tE.use S1 R1 e2 fun z H2 β2 s2 S2 R2 r2 => ⟨by show 2 ≤ sizeLine; decide, fun q hq => ?_⟩
  have st := step_new (mv := []) (β := β2) (o := .tup [v, z]) hq
  have r1' := (r1.step s2 (by simp)).step st (by simp)
  have r2' := r2.step st (by simp)
  refine gT_use (d := .tup [u, w]) (R2.step st (by simp)) (.tup upd_same (S2.fresh hq) (fun z => S2.rt q z hq) (.cons r1' (.cons r2' .nil))) rfl fun σ' R' _ => ?_
  exact P σ' _ β2 ((s1.trans s2).trans st) (S2.new hq) R'
/-! ### dict displays -/
/-- the values of a display, its keys written texts -/
structure PD (fa : FA) (X : Cx) (pos : Pos) (keys : List (Option Expr)) (values : List Expr) (ks : List Str) (g : Rho → MH → Res (List D)) : Prop where
  ex : ∃ trs, PPs X pos keys values trs ∧ ∀ (σ : L2.St) (H : Hp) (Q : List (V × V) → Hp → Prop) (res β : List Addr) (ρ : Rho) (M : MH) (ds : List D) (M' : MH), Sim fa β res M H → RepS fa β res H ρ σ → g ρ M = .ok ds M' →
    (∀ vs H' β', Step [] β H β' H' → Sim fa β' res M' H' → Reps fa β' res H' ds vs → Q ((ks.map V.str).zip vs) H') → tPairs trs σ H Q
theorem d_nil : PD fa X pos [] [] [] (fun _ M => .ok [] M) := ⟨[], pps_nil, fun σ H Q res β ρ M ds M' S R e P => by
  cases e
  exact P [] H β Step.refl S .nil⟩
theorem d_cons {k : Str} {n : Nat} {kp : Pos} {keys : List (Option Expr)} {values : List Expr} {ks : List Str} {g : Rho → MH → Res (List D)} (ha : PE X a (tE fa f1)) (hr : PD fa X pos keys values ks g) :
    PD fa X pos (some (.Constant (.str k) n kp) :: keys) (a :: values) (k :: ks) (fun ρ M => (f1 ρ M).bind fun d M1 => (g ρ M1).bind fun ds M2 => .ok (d :: ds) M2) := by
  obtain ⟨trs, h1, h2⟩ := hr.ex
  refine ⟨(tC (.str k), tE fa f1) :: trs, pps_cons pe_str ha h1, fun σ H Q res β ρ M ds M' S R e P => ?_⟩
  obtain ⟨u, M1, e1, e⟩ := Res.bind_ok e
  obtain ⟨us, M2, e2, e⟩ := Res.bind_ok e
  cases e
  refine tE.use S R e1 fun v H1 β1 s1 S1 R1 r1 => ?_
  refine h2 σ H1 _ res β1 ρ M1 us _ S1 R1 e2 fun vs H2 β2 s2 S2 r2 => ?_
  exact P (v :: vs) H2 β2 (s1.trans s2) S2 (.cons (r1.step s2 (by simp)) r2)
theorem zip_kv {res β : List Addr} {H : Hp} : ∀ {ks : List Str} {ds : List D} {vs : List V}, Reps fa β res H ds vs → RepKV fa β res H ((ks.map Sum.inr).zip ds) ((ks.map Sum.inr).zip vs)
  | [], _, _, _ => by simp; exact .nil
  | _ :: _, _, _, .nil => by simp; exact .nil
  | k :: ks, _, _, .cons r q => .cons r (zip_kv q)
theorem r_dict {keys : List (Option Expr)} {values : List Expr} {ks : List Str} {g : Rho → MH → Res (List D)} (h : PD fa X pos keys values ks g) (hall : keys.all (·.isSome) = true) (hl : keys.length = values.length) (h0 : keys ≠ []) (h15 : keys.length ≤ 15) :
    PE X (.Dict keys values pos) (tE fa fun ρ M => (g ρ M).bind fun ds M1 => if ks.length = ds.length ∧ ks.length ≤ 15 then .ok (.ref M1.length) (M1 ++ [.dict ((ks.zip ds).foldl (fun acc kv => putD acc (.inr kv.1) kv.2) [])]) else .bad) := by
  obtain ⟨trs, h1, h2⟩ := h.ex
  refine PE.weak (pe_disp h1 hall hl h0 h15) fun σ H Q h => ?_
  obtain ⟨res, β, ρ, M, d, M', S, R, e, P⟩ := h
  obtain ⟨ds, M1, e1, e⟩ := Res.bind_ok e
  intro p hp
  refine h2 σ _ _ (p :: res) β ρ M ds M1 (S.hold hp) (R.hold hp) e1 fun vs H2 β2 s2 S2 r2 => ?_
  have hpr : p ∉ res := fun q => S.rt p q hp
  have hpb : p ∉ β := S.fresh hp
  have ep : H2 p = some (.dK []) := s2.keep p _ upd_same hpb (by simp)
  split at e
  · rename_i hz
    cases e
    have ez : (ks.map V.str).zip vs = ((ks.map (Sum.inr (α := Int))).zip vs).map (fun kv => (kV kv.1, kv.2)) := by
      rw [List.zip_map_left, List.zip_map_left, List.map_map]
      rfl
    refine ⟨ep, (ks.map Sum.inr).zip vs, ez, ?_, ?_⟩
    · rw [List.length_zip, List.length_map]
      omega
    · have sub : ∀ a ∈ [p], a ∈ p :: res := fun a h => by rw [List.mem_singleton.mp h]; simp
      have fold : (ks.zip ds).foldl (fun acc kv => putD acc (.inr kv.1) kv.2) [] = ((ks.map (Sum.inr (α := Int))).zip ds).foldl (fun acc kv => putD acc kv.1 kv.2) [] := by
        rw [List.zip_map_left, List.foldl_map]
        rfl
      have r3 : RepO fa β2 (p :: res) (upd H2 p (.dK (mergeK [] ((ks.map Sum.inr).zip vs)))) (.dict ((ks.zip ds).foldl (fun acc kv => putD acc (.inr kv.1) kv.2) [])) (.dK (mergeK [] ((ks.map Sum.inr).zip vs))) := by
        rw [fold]
        exact .dict ((merge_rep (zip_kv r2) .nil).step step_mv sub)
      obtain ⟨S3, hpb2⟩ := (S2.mvd (o := .dK (mergeK [] ((ks.map Sum.inr).zip vs))) (by simp)).adopt hpr upd_same r3
      refine P (.ref p) _ (β2 ++ [p]) ?_ S3 (.ref ?_)
      · exact Step.adopt (Step.ofHold ((s2.more).trans step_mv) hp) hp
      · rw [← S2.len, List.getElem?_append_right (Nat.le_refl _)]
        simp
  · cases e
end
end Mi
/-! Mi13: the small syntax against the text's own; every expression runs as it is evaluated. -/
namespace Mi
open PySem PySem.Spec PyProof.Rows L2

/-- what a text's globals are: the defs by number and their parameters, constants, built-in names -/
structure Cfg where
  fnm : List Str
  ps : Nat → List Str
  gl : List (Str × D)
  bis : List Str
def sameD : D → D → Bool
  | .int i, .int j => i == j
  | .str x, .str y => x == y
  | .fn i, .fn j => i == j
  | .ty a, .ty b => a == b
  | _, _ => false
theorem sameD_eq {a b : D} (h : sameD a b = true) : a = b := by
  unfold sameD at h
  split at h
  · rw [eq_of_beq h]
  · rw [eq_of_beq h]
  · rw [eq_of_beq h]
  · rw [eq_of_beq h]
  · cases h
def visB (sc : Scope) (x : Str) : Bool := match sc.names.lookup x with
  | some .local => true
  | some .cell => true
  | some .free => true
  | _ => false
def glB (sc : Scope) (x : Str) : Bool := match sc.names.lookup x with
  | some .globalImplicit => true
  | _ => false
def locB (sc : Scope) (x : Str) : Bool := match sc.names.lookup x with
  | some .local => true
  | some .cell => true
  | _ => false
theorem glB_is {sc : Scope} {x : Str} (h : glB sc x = true) : sc.names.lookup x = some .globalImplicit := by
  unfold glB at h
  split at h
  · assumption
  · cases h
def okName (x : Str) : Bool := !(x == ("__debug__" : Str)) && !(x == ("__classdict__" : Str))
theorem okName_d {x : Str} (h : okName x = true) : (x == ("__debug__" : Str)) = false ∧ (x == ("__classdict__" : Str)) = false := by
  unfold okName at h
  obtain ⟨a, b⟩ := Bool.and_eq_true_iff.mp h
  exact ⟨by simpa using a, by simpa using b⟩
def constM : Const → D → Bool
  | .none, .non => true
  | .bool b, .bl c => b == c
  | .int i, .int j => i == j
  | .str x, .str y => x == y
  | _, _ => false
def notSlice : Expr → Bool
  | .Slice .. => false
  | _ => true
theorem plainIx_of {e : Expr} (h : notSlice e = true) : PlainIx e := by
  intro o i
  cases e <;> first | rfl | cases h
def notSet : Expr → Bool
  | .Set .. => false
  | _ => true
theorem noFold {e : Expr} {env : Env} (h : notSet e = true) : ∀ x, foldedSetIterable e env x = pure x := by
  intro x
  cases e <;> first | rfl | cases h
def notSuper : Expr → Bool
  | .Call (.Name _ _) [] [] _ => false
  | _ => true
theorem base_of {e : Expr} {x : Str} {env : Env} {whole : Sem Value} (h : notSuper e = true) : attributeBase e x env whole = whole := by
  unfold attributeBase
  split
  · cases h
  · rfl
def notComp : Expr → Bool
  | .ListComp .. => false
  | .SetComp .. => false
  | .DictComp .. => false
  | _ => true
theorem swaps_of {e : Expr} {t : Option Expr} {l : Nat} {env : Env} (h : notComp e = true) : swapsWith e t l env = pure false := by
  cases e <;> first | rfl | cases h
def mNames (N : List Str) (sc : Scope) : List Nat → List Expr → Bool
  | [], [] => true
  | i :: is, .Name x _ :: es => decide (N[i]? = some x) && locB sc x && mNames N sc is es
  | _, _ => false
def mTg (N : List Str) (sc : Scope) : Tg → Expr → Bool
  | .name i, .Name x _ => decide (N[i]? = some x) && locB sc x
  | .tup is, .Tuple es _ _ => mNames N sc is es
  | _, _ => false
def isTup : Expr → Bool
  | .Tuple .. => true
  | _ => false
def ownOf (N : List Str) (t : Tg) : List (Str × Nat) := t.own.map fun i => (N.getD i "", i)
theorem ownOf_snd (N : List Str) (t : Tg) : (ownOf N t).map (·.2) = t.own := by
  unfold ownOf
  rw [List.map_map]
  exact List.map_id _
section
variable (g : Cfg) (N : List Str)
mutual
def mE : Scope → C → Expr → Bool
  | sc, .var i, e => match e with
    | .Name x _ => decide (N[i]? = some x) && visB sc x && okName x
    | _ => false
  | _, .const d, e => match e with
    | .Constant c _ _ => constM c d
    | _ => false
  | sc, .glob x d, e => match e with
    | .Name y _ => (y == x) && glB sc x && okName x && g.gl.any (fun p => p.1 == x && sameD p.2 d)
    | _ => false
  | sc, .bin _ o a b, e => match e with
    | .BinOp x o' y _ => decide (o = o') && mE sc a x && mE sc b y
    | _ => false
  | sc, .neg a, e => match e with
    | .UnaryOp .USub x _ => mE sc a x
    | _ => false
  | sc, .not a, e => match e with
    | .UnaryOp .Not x _ => mE sc a x
    | _ => false
  | sc, .and as, e => match e with
    | .BoolOp .And xs _ => mEs sc as xs
    | _ => false
  | sc, .or as, e => match e with
    | .BoolOp .Or xs _ => mEs sc as xs
    | _ => false
  | sc, .cmp o a b, e => match e with
    | .Compare x [o'] [y] _ => decide (o = o') && mE sc a x && mE sc b y && !behindInMarks o y
    | _ => false
  | sc, .chain o o' a b c, e => match e with
    | .Compare x [p, p'] [y, z] _ => decide (o = p) && decide (o' = p') && mE sc a x && mE sc b y && mE sc c z && !lastMarks [o, o'] [y, z]
    | _ => false
  | sc, .ife c a b, e => match e with
    | .IfExp z x y _ => mE sc c z && mE sc a x && mE sc b y
    | _ => false
  | sc, .tup es, e => match e with
    | .Tuple xs _ _ => mEs sc es xs
    | _ => false
  | sc, .lst _ es, e => match e with
    | .List xs _ => mEs sc es xs
    | _ => false
  | sc, .dict ks vs, e => match e with
    | .Dict keys values _ => mD sc ks vs keys values && !keys.isEmpty && decide (keys.length ≤ 15)
    | _ => false
  | sc, .idx a i, e => match e with
    | .Subscript x y _ => mE sc a x && mE sc i y && notSlice y
    | _ => false
  | sc, .slice _ a lo hi, e => match e with
    | .Subscript x (.Slice l h none _) _ => mE sc a x && mO sc lo l && mO sc hi h
    | _ => false
  | sc, .revT a, e => match e with
    | .Subscript x (.Slice none none (some (.UnaryOp .USub (.Constant (.int i) _ _) _)) _) _ => mE sc a x && i == 1
    | _ => false
  | sc, .stepL _ a lo n, e => match e with
    | .Subscript x (.Slice (some l) none (some (.Constant (.int i) _ _)) _) _ => mE sc a x && mE sc lo l && i == (n : Int) && n != 0
    | _ => false
  | sc, .call k as, e => match e with
    | .Call (.Name x _) xs [] _ => decide (g.fnm[k]? = some x) && glB sc x && okName x && mEs sc as xs
    | _ => false
  | sc, .callV i as, e => match e with
    | .Call (.Name x _) xs [] _ => decide (N[i]? = some x) && visB sc x && okName x && mEs sc as xs && !xs.isEmpty
    | _ => false
  | sc, .callK k y a, e => match e with
    | .Call (.Name x _) [] [⟨some y', v, _⟩] _ => decide (g.fnm[k]? = some x) && glB sc x && okName x && (y' == y) && decide (g.ps k = [y]) && mE sc a v
    | _ => false
  | sc, .bi _ f as, e => match e with
    | .Call (.Name x _) xs [] _ => (x == Str.ofString f) && biNames.contains f && g.bis.contains x && glB sc x && mEs sc as xs && !xs.isEmpty
    | _ => false
  | sc, .meth f o as, e => match e with
    | .Call (.Attribute y x ap) xs [] cp => (x == Str.ofString f) && mE sc o y && notSuper y && (ap.endLine == cp.line) && mEs sc as xs && (if f = "upper" then xs.isEmpty else (["append", "extend", "pop"] : List String).contains f && !xs.isEmpty && decide (xs.length < 29))
    | _ => false
  | sc, .comp _ elt tg it ifs, e => match e with
    | .ListComp el [⟨t, iter, is, a⟩] scope _ => a == 0 && mTg N scope tg t && mI sc it t iter && mIf scope ifs is && mE scope elt el && blkC N sc scope (ownOf N tg) && notSet iter
    | _ => false
def mEs : Scope → Cs → List Expr → Bool
  | _, .nil, es => es.isEmpty
  | sc, .cons c r, es => match es with
    | e :: es => plainE e && mE sc c e && mEs sc r es
    | [] => false
def mO : Scope → Co → Option Expr → Bool
  | _, .none, e => e.isNone
  | sc, .some c, e => match e with
    | some e => mE sc c e
    | none => false
def mIf : Scope → Co → List Expr → Bool
  | _, .none, es => es.isEmpty
  | sc, .some c, es => match es with
    | [e] => mE sc c e
    | _ => false
def mI : Scope → It → Expr → Expr → Bool
  | sc, .seq c, _, e => mE sc c e
  | sc, .rng1 a, _, e => match e with
    | .Call (.Name x _) [y] [] _ => (x == ("range" : Str)) && glB sc "range" && g.bis.contains "range" && plainE y && mE sc a y
    | _ => false
  | sc, .rng2 a b, _, e => match e with
    | .Call (.Name x _) [y, z] [] _ => (x == ("range" : Str)) && glB sc "range" && g.bis.contains "range" && plainE y && plainE z && mE sc a y && mE sc b z
    | _ => false
  | sc, .zip a b, t, e => match e with
    | .Call (.Name x _) [y, z] [] _ => (x == ("zip" : Str)) && glB sc "zip" && g.bis.contains "zip" && plainE y && plainE z && mE sc a y && mE sc b z && isTup t
    | _ => false
def mD : Scope → List Str → Cs → List (Option Expr) → List Expr → Bool
  | _, ks, .nil, keys, values => ks.isEmpty && keys.isEmpty && values.isEmpty
  | sc, ks, .cons c r, keys, values => match ks, keys, values with
    | k :: ks, some (.Constant (.str k') _ _) :: keys, v :: values => (k == k') && mE sc c v && mD sc ks r keys values
    | _, _, _ => false
end
end
def GOk (mg : Str → Option Value) (fa : FA) (x : Str) (d : D) : Prop := match d with
  | .int i => ∃ t, mg x = some (.int i t)
  | .str s => ∃ t, mg x = some (.str s t)
  | .fn k => mg x = some (.ref (fa k))
  | .ty t => mg x = none ∧ bootBuiltins x = some (.type t) ∧ x ≠ "__name__"
  | _ => False
structure GoodX (g : Cfg) (cl : Calls) (fa : FA) (N : List Str) (k : Nat) (sc : Scope) (X : Cx) : Prop where
  hN : X.N = N
  hK : X.K = fa.K
  nd : N.Nodup
  calm : X.calm = true
  room : Room k X.A
  gd : X.A.guards = some []
  xe : X.xe = fun _ _ => False
  vis : ∀ x, visB sc x = true → Vis X.env.scope x
  gl : ∀ x, sc.names.lookup x = some .globalImplicit → Gl X x
  loc : ∀ x, sc.names.lookup x = some .local → X.env.scope.names.lookup x = some .local
  cel : ∀ x, sc.names.lookup x = some .cell → X.env.scope.names.lookup x = some .cell ∧ X.fn x = true
  fre : ∀ x, sc.names.lookup x = some .free → X.env.scope.names.lookup x = some .cell ∨ X.env.scope.names.lookup x = some .free
  fns : ∀ i x, g.fnm[i]? = some x → X.mg x = some (.ref (fa i)) ∧ PySem.W.keepIn X.K (.ref (fa i)) = true ∧ ∃ fd, Binds X.K fd (g.ps i) [] ∧ FnG X.prog X.w X.K X.mg X.base k (fa i) fd (g.ps i) (spD fa (cl i) (g.ps i).length) ∧ ∀ y, g.ps i = [y] → ∀ (s : Shared) (u : Value), BindsTo s fd ⟨[], [(y, u)]⟩ [(y, u)]
  len : ∀ i ds M d M', cl i ds M = .ok d M' → ds.length = (g.ps i).length ∧ ∃ x, g.fnm[i]? = some x
  gls : ∀ p ∈ g.gl, GOk X.mg fa p.1 p.2
  bis : ∀ x ∈ g.bis, X.mg x = none
section
variable {g : Cfg} {cl : Calls} {fa : FA} {N : List Str} {k : Nat}
theorem relabel_lookup {scope : Scope} {env : Env} {x : Str} {kd : NameKind} (h : scope.names.lookup x = some kd) : (relabel scope env).names.lookup x = some kd ∨ (kd = .free ∧ (relabel scope env).names.lookup x = some .cell) := by
  unfold relabel
  simp only
  generalize scope.names = l at h
  induction l with
  | nil => cases h
  | cons p r ih =>
    obtain ⟨n, k⟩ := p
    rw [List.lookup_cons] at h
    rw [List.map_cons]
    by_cases e : (x == n) = true
    · simp only [e] at h
      cases h
      by_cases q : (kd == NameKind.free && env.scope.kind == .function && env.kindOf n == some .cell) = true
      · simp only [q, if_true, List.lookup_cons, e]
        right
        refine ⟨?_, trivial⟩
        have := (Bool.and_eq_true_iff.mp (Bool.and_eq_true_iff.mp q).1).1
        exact eq_of_beq this
      · left
        rw [if_neg q, List.lookup_cons, e]
    · have e' : (x == n) = false := by simpa using e
      simp only [e'] at h
      by_cases q : (k == NameKind.free && env.scope.kind == .function && env.kindOf n == some .cell) = true
      · simp only [q, if_true, List.lookup_cons, e']
        exact ih h
      · simp only [q, List.lookup_cons, e']
        simp only [Bool.false_eq_true, if_false, List.lookup_cons, e']
        exact ih h
theorem GoodX.blk {sc scope : Scope} {X : Cx} (h : GoodX g cl fa N k sc X) (s : Shared) (H : Hp) (C : Addr) (cells : List (Str × Addr)) (fp : List Addr) : GoodX g cl fa N k scope (X.blk s H scope (compEnvC scope cells C X.env) fp) where
  hN := h.hN
  hK := h.hK
  nd := h.nd
  calm := h.calm
  room := h.room
  gd := h.gd
  xe := rfl
  vis := fun x hx => by
    unfold visB at hx
    show Vis (relabel scope X.env) x
    split at hx
    · rename_i q; rcases relabel_lookup (env := X.env) q with z | ⟨z, _⟩
      · exact .inl z
      · cases z
    · rename_i q; rcases relabel_lookup (env := X.env) q with z | ⟨z, _⟩
      · exact .inr (.inl z)
      · cases z
    · rename_i q; rcases relabel_lookup (env := X.env) q with z | ⟨_, z⟩
      · exact .inr (.inr z)
      · exact .inr (.inl z)
    · cases hx
  gl := fun x q => by
    rcases relabel_lookup (env := X.env) q with z | ⟨z, _⟩
    · exact z
    · cases z
  loc := fun x q => by
    rcases relabel_lookup (env := X.env) q with z | ⟨z, _⟩
    · exact z
    · cases z
  cel := fun x q => by
    rcases relabel_lookup (env := X.env) q with z | ⟨z, _⟩
    · exact ⟨z, by show (scope.names.lookup x == some .cell) = true; rw [q]; rfl⟩
    · cases z
  fre := fun x q => by
    rcases relabel_lookup (env := X.env) q with z | ⟨_, z⟩
    · exact .inr z
    · exact .inl z
  fns := h.fns
  len := h.len
  gls := h.gls
  bis := h.bis
theorem GoodX.store {sc : Scope} {X : Cx} {x : Str} (G : GoodX g cl fa N k sc X) (h : locB sc x = true) : Loc X.env.scope x ∧ (X.fn x = true ∨ X.env.scope.names.lookup x = some .local) := by
  unfold locB at h
  split at h
  · rename_i q; exact ⟨.inl (G.loc x q), .inr (G.loc x q)⟩
  · rename_i q; exact ⟨.inr (G.cel x q).1, .inl (G.cel x q).2⟩
  · cases h
theorem GoodX.pg_names {sc : Scope} {X : Cx} (G : GoodX g cl fa N k sc X) : ∀ (is : List Nat) (es : List Expr), mNames N sc is es = true → PGs X es (gNs is) ∧ (assignEach es X.env).length = is.length ∧ (assignEach es X.env).findIdx? (·.1) = none
  | [], [], _ => ⟨pgs_nil, rfl, rfl⟩
  | [], _ :: _, h => by simp [mNames] at h
  | _ :: _, [], h => by simp [mNames] at h
  | i :: is, e :: es, h => by
    cases e with
    | Name x pos =>
      simp only [mNames, Bool.and_eq_true, decide_eq_true_eq] at h
      obtain ⟨⟨h1, h2⟩, h3⟩ := h
      obtain ⟨p1, p2, p3⟩ := G.pg_names is es h3
      obtain ⟨q1, q2⟩ := G.store h2
      refine ⟨pgs_cons (pg_name (by rw [G.hN]; exact G.nd) (by rw [G.hN]; exact h1) q1 q2) p1 rfl, ?_, ?_⟩
      · show (assignEach es X.env).length + 1 = is.length + 1
        rw [p2]
      · show ((false, assign (.Name x pos) X.env) :: assignEach es X.env).findIdx? (·.1) = none
        rw [List.findIdx?_cons, p3]
        rfl
    | _ => simp [mNames] at h
theorem GoodX.pg {sc : Scope} {X : Cx} (G : GoodX g cl fa N k sc X) {t : Tg} {e : Expr} (h : mTg N sc t e = true) : PG X e (gT X.K t) := by
  cases t with
  | name i =>
    cases e with
    | Name x pos =>
      simp only [mTg, Bool.and_eq_true, decide_eq_true_eq] at h
      obtain ⟨q1, q2⟩ := G.store h.2
      exact pg_name (by rw [G.hN]; exact G.nd) (by rw [G.hN]; exact h.1) q1 q2
    | _ => simp [mTg] at h
  | tup is =>
    cases e with
    | Tuple es n pos =>
      simp only [mTg] at h
      obtain ⟨p1, p2, p3⟩ := G.pg_names is es h
      exact pg_tup G.calm p1 p2 p3
    | _ => simp [mTg] at h
theorem GoodX.units {sc : Scope} {X : Cx} (G : GoodX g cl fa N k sc X) : X.A.units + 65 < cLine := by
  have := G.room.un
  omega
theorem GoodX.blkOk {sc scope : Scope} {X : Cx} (G : GoodX g cl fa N k sc X) {own : List (Str × Nat)} (h : blkC N sc scope own = true) : BlkOk X.N X.env.scope scope own := by
  have B := blkOk_by h
  rw [G.hN]
  refine ⟨B.kind, B.uniq, B.ix, fun y hy hf => ?_, B.own⟩
  rcases B.free y hy hf with q | q
  · exact .inl (G.cel _ q).1
  · exact G.fre _ q
end
end Mi
/-! Mi14: every expression of the small syntax runs as it is evaluated. -/
namespace Mi
open PySem PySem.Spec PyProof.Rows L2

theorem Res.bind_assoc {α β γ : Type} (r : Res α) (f : α → MH → Res β) (h : β → MH → Res γ) : (r.bind f).bind h = r.bind fun a M => (f a M).bind h := by
  cases r <;> rfl
section
variable {g : Cfg} {cl : Calls} {fa : FA} {N : List Str} {k : Nat} {X : Cx} {e : Expr}
theorem r_bad : PE X e (tE fa fun _ _ => .bad) := ⟨fun pins s σ H Q I h => by
  obtain ⟨res, β, ρ, M, d, M', S, R, e, P⟩ := h
  cases e⟩
theorem t_bad : PT X e (tB fa fun _ _ => .bad) := ⟨fun pins s σ H Q I h => by
  obtain ⟨res, β, ρ, M, d, M', S, R, e, P⟩ := h
  cases e⟩
theorem w_bad : PW X e (tB fa fun _ _ => .bad) := ⟨fun wh pins s σ H Q I h => by
  obtain ⟨res, β, ρ, M, d, M', S, R, e, P⟩ := h
  cases e⟩
def truR (d : D) (M : MH) : Res Bool := match truD M d with
  | some k => .ok k M
  | none => .bad
theorem evT_var (i : Nat) : evT cl (.var i) = fun ρ M => (ev cl (.var i) ρ M).bind fun d M2 => match truD M2 d with | some k => .ok k M2 | none => .bad := by
  funext ρ M
  simp only [evT, ev]
  split <;> rfl
theorem evT_call (i : Nat) (as : Cs) : evT cl (.call i as) = fun ρ M => (ev cl (.call i as) ρ M).bind fun d M2 => match truD M2 d with | some k => .ok k M2 | none => .bad := by
  funext ρ M
  simp only [evT, ev, Res.bind_assoc]
  all_goals rfl
theorem evT_callV (i : Nat) (as : Cs) : evT cl (.callV i as) = fun ρ M => (ev cl (.callV i as) ρ M).bind fun d M2 => match truD M2 d with | some k => .ok k M2 | none => .bad := by
  funext ρ M
  simp only [evT, ev]
  split
  · simp only [Res.bind_assoc]
    all_goals rfl
  · rfl
theorem evT_bi (m : Bool) (f : String) (as : Cs) : evT cl (.bi m f as) = fun ρ M => (ev cl (.bi m f as) ρ M).bind fun d M2 => match truD M2 d with | some k => .ok k M2 | none => .bad := by
  funext ρ M
  simp only [evT, ev, Res.bind_assoc]
  all_goals rfl
theorem evT_idx (a i : C) : evT cl (.idx a i) = fun ρ M => (ev cl (.idx a i) ρ M).bind fun d M2 => match truD M2 d with | some k => .ok k M2 | none => .bad := by
  funext ρ M
  simp only [evT, ev, Res.bind_assoc]
  all_goals rfl
theorem mEs_plain {sc : Scope} : ∀ (cs : Cs) (es : List Expr), mEs g N sc cs es = true → es.all plainE = true
  | .nil, es, h => by
    simp only [mEs] at h
    cases es with
    | nil => rfl
    | cons _ _ => cases h
  | .cons c r, es, h => by
    cases es with
    | nil => simp [mEs] at h
    | cons e es =>
      simp only [mEs, Bool.and_eq_true] at h
      rw [List.all_cons, h.1.1, mEs_plain r es h.2]
      rfl
theorem evs_nil : evs cl .nil = fun _ M => .ok [] M := rfl
theorem mEs_nil {sc : Scope} {cs : Cs} (h : mEs g N sc cs [] = true) : cs = .nil := by
  cases cs with
  | nil => rfl
  | cons c r => simp [mEs] at h
theorem mD_len {sc : Scope} : ∀ (cs : Cs) (ks : List Str) (keys : List (Option Expr)) (values : List Expr), mD g N sc ks cs keys values = true → keys.all (·.isSome) = true ∧ keys.length = values.length
  | .nil, ks, keys, values, h => by
    simp only [mD, Bool.and_eq_true, List.isEmpty_iff] at h
    obtain ⟨⟨_, h1⟩, h2⟩ := h
    subst h1 h2
    exact ⟨rfl, rfl⟩
  | .cons c r, ks, keys, values, h => by
    unfold mD at h
    split at h
    · simp only [Bool.and_eq_true] at h
      obtain ⟨h1, h2⟩ := mD_len r _ _ _ h.2
      exact ⟨by rw [List.all_cons, h1]; rfl, by simp [h2]⟩
    · cases h
end
section
variable {g : Cfg} {cl : Calls} {fa : FA} {N : List Str} {k : Nat}
mutual
theorem simE : ∀ (c : C) (e : Expr) (sc : Scope) (X : Cx), GoodX g cl fa N k sc X → mE g N sc c e = true → PE X e (tE fa (ev cl c))
  | .var i, e, sc, X, G, h => by
    cases e with
    | Name x pos =>
      simp only [mE, Bool.and_eq_true, decide_eq_true_eq] at h
      obtain ⟨⟨h1, h2⟩, h3⟩ := h
      exact r_var (by rw [G.hN]; exact h1) (G.vis x h2) (okName_d h3).1 (okName_d h3).2
    | _ => simp [mE] at h
  | .const d, e, sc, X, G, h => by
    cases e with
    | Constant c n pos =>
      simp only [mE] at h
      unfold constM at h
      split at h
      · exact r_C pe_non fun _ _ _ => .non
      · rw [← eq_of_beq h]; exact r_C pe_bl fun _ _ _ => .bl _
      · rw [← eq_of_beq h]; exact r_C pe_int fun _ _ _ => .int _
      · rw [← eq_of_beq h]; exact r_C pe_str fun _ _ _ => .str _
      · cases h
    | _ => simp [mE] at h
  | .glob x d, e, sc, X, G, h => by
    cases e with
    | Name y pos =>
      simp only [mE, Bool.and_eq_true, List.any_eq_true] at h
      obtain ⟨⟨⟨h1, h2⟩, h3⟩, p, hp, h4, h5⟩ := h
      have e1 : y = x := eq_of_beq h1
      have e2 : p.1 = x := eq_of_beq h4
      have e3 : p.2 = d := sameD_eq h5
      subst e1
      have hg : Gl X y := G.gl y (glB_is h2)
      have ok := G.gls p hp
      rw [e2, e3] at ok
      cases d with
      | int i => obtain ⟨t, ok⟩ := ok; exact r_C (pe_glob hg ok (v := .int i) ⟨_, rfl⟩ (okName_d h3).1) fun _ _ _ => .int _
      | str i => obtain ⟨t, ok⟩ := ok; exact r_C (pe_glob hg ok (v := .str i) ⟨_, rfl⟩ (okName_d h3).1) fun _ _ _ => .str _
      | fn i => exact r_C (pe_glob hg ok (v := .ref (fa i)) rfl (okName_d h3).1) fun _ _ _ => .fn _
      | ty t => obtain ⟨k1, k2, k3⟩ := ok; exact r_C (pe_bltn hg k1 k2 (v := .ty t) rfl k3 (okName_d h3).1) fun _ _ _ => .ty _
      | _ => exact ok.elim
    | _ => simp [mE] at h
  | .bin m o a b, e, sc, X, G, h => by
    cases e with
    | BinOp x o' y pos =>
      simp only [mE, Bool.and_eq_true, decide_eq_true_eq] at h
      obtain ⟨⟨h1, h2⟩, h3⟩ := h
      subst h1
      exact r_bin (simE a x sc X G h2) (simE b y sc X G h3)
    | _ => simp [mE] at h
  | .neg a, e, sc, X, G, h => by
    cases e with
    | UnaryOp o x pos =>
      cases o with
      | USub => exact r_neg (simE a x sc X G (by simpa only [mE] using h))
      | _ => simp [mE] at h
    | _ => simp [mE] at h
  | .not a, e, sc, X, G, h => by
    cases e with
    | UnaryOp o x pos =>
      cases o with
      | Not => exact r_not (simE a x sc X G (by simpa only [mE] using h))
      | _ => simp [mE] at h
    | _ => simp [mE] at h
  | .and as, e, sc, X, G, h => by
    cases e with
    | BoolOp o xs pos =>
      cases o with
      | And => exact simAnd as xs pos sc X G (by simpa only [mE] using h)
      | _ => simp [mE] at h
    | _ => simp [mE] at h
  | .or as, e, sc, X, G, h => by
    cases e with
    | BoolOp o xs pos =>
      cases o with
      | Or => exact simOr as xs pos sc X G (by simpa only [mE] using h)
      | _ => simp [mE] at h
    | _ => simp [mE] at h
  | .cmp o a b, e, sc, X, G, h => by
    cases e with
    | Compare x ops ys pos =>
      unfold mE at h
      split at h
      · rename_i heq
        cases heq
        simp only [Bool.and_eq_true, decide_eq_true_eq, Bool.not_eq_true'] at h
        obtain ⟨⟨⟨h1, h2⟩, h3⟩, h4⟩ := h
        subst h1
        exact r_cmp G.units (simE a _ sc X G h2) (simE b _ sc X G h3) h4
      · cases h
    | _ => simp [mE] at h
  | .chain o o' a b c, e, sc, X, G, h => by
    cases e with
    | Compare x ops ys pos =>
      unfold mE at h
      split at h
      · rename_i heq
        cases heq
        simp only [Bool.and_eq_true, decide_eq_true_eq, Bool.not_eq_true'] at h
        obtain ⟨⟨⟨⟨⟨h1, h1'⟩, h2⟩, h3⟩, h4⟩, h5⟩ := h
        subst h1 h1'
        exact r_chain G.units (simE a _ sc X G h2) (simE b _ sc X G h3) (simE c _ sc X G h4) h5
      · cases h
    | _ => simp [mE] at h
  | .ife c a b, e, sc, X, G, h => by
    cases e with
    | IfExp z x y pos =>
      simp only [mE, Bool.and_eq_true] at h
      exact r_ife (simT c z sc X G h.1.1) (simE a x sc X G h.1.2) (simE b y sc X G h.2)
    | _ => simp [mE] at h
  | .tup es, e, sc, X, G, h => by
    cases e with
    | Tuple xs n pos => exact r_tup (sims es xs sc X G (by simpa only [mE] using h))
    | _ => simp [mE] at h
  | .lst m es, e, sc, X, G, h => by
    cases e with
    | List xs pos => exact r_lst (sims es xs sc X G (by simpa only [mE] using h))
    | _ => simp [mE] at h
  | .dict ks vs, e, sc, X, G, h => by
    cases e with
    | Dict keys values pos =>
      simp only [mE, Bool.and_eq_true, decide_eq_true_eq, Bool.not_eq_true', List.isEmpty_eq_false_iff] at h
      obtain ⟨⟨h1, h2⟩, h3⟩ := h
      obtain ⟨l1, l2⟩ := mD_len vs ks keys values h1
      exact r_dict (simD vs ks keys values pos sc X G h1) l1 l2 h2 h3
    | _ => simp [mE] at h
  | .idx a i, e, sc, X, G, h => by
    cases e with
    | Subscript x y pos =>
      simp only [mE, Bool.and_eq_true] at h
      exact r_idx G.units (simE a x sc X G h.1.1) (simE i y sc X G h.1.2) (plainIx_of h.2)
    | _ => simp [mE] at h
  | .slice m a lo hi, e, sc, X, G, h => by
    unfold mE at h
    split at h
    · simp only [Bool.and_eq_true] at h
      exact r_slice G.hK (simE a _ sc X G h.1.1) (simO lo _ sc X G h.1.2) (simO hi _ sc X G h.2)
    · cases h
  | .revT a, e, sc, X, G, h => by
    unfold mE at h
    split at h
    · simp only [Bool.and_eq_true] at h
      rw [eq_of_beq h.2]
      exact r_revT (simE a _ sc X G h.1)
    · cases h
  | .stepL m a lo n, e, sc, X, G, h => by
    unfold mE at h
    split at h
    · simp only [Bool.and_eq_true] at h
      obtain ⟨⟨⟨h1, h2⟩, h3⟩, h4⟩ := h
      rw [eq_of_beq h3]
      exact r_stepL (simE a _ sc X G h1) (simE lo _ sc X G h2) (by simpa using h4)
    · cases h
  | .call i as, e, sc, X, G, h => by
    unfold mE at h
    split at h
    · rename_i x p xs pos
      simp only [Bool.and_eq_true, decide_eq_true_eq] at h
      obtain ⟨⟨⟨h1, h2⟩, h3⟩, h4⟩ := h
      obtain ⟨k1, k2, fd, k3, k4, _⟩ := G.fns i x h1
      cases xs with
      | nil =>
        have := mEs_nil h4
        subst this
        exact r_call0 k4 (fun ds M d M' q => (G.len i ds M d M' q).1) G.room G.gd (G.gl x (glB_is h2)) k1 k2 k3 (okName_d h3).1
      | cons y ys =>
        have pl := mEs_plain as (y :: ys) h4
        rw [List.all_cons, Bool.and_eq_true] at pl
        exact r_call k4 (fun ds M d M' q => (G.len i ds M d M' q).1) G.room G.gd (G.gl x (glB_is h2)) k1 k2 k3 (sims as (y :: ys) sc X G h4) (okName_d h3).1 (star_plain pl.1) (star_none pl.2)
    · cases h
  | .callV i as, e, sc, X, G, h => by
    unfold mE at h
    split at h
    · rename_i x p xs pos
      simp only [Bool.and_eq_true, decide_eq_true_eq] at h
      obtain ⟨⟨⟨⟨h1, h2⟩, h3⟩, h4⟩, h5⟩ := h
      cases xs with
      | nil => simp at h5
      | cons y ys =>
        have pl := mEs_plain as (y :: ys) h4
        rw [List.all_cons, Bool.and_eq_true] at pl
        refine r_callV (n := fun j => (g.ps j).length) (by rw [G.hN]; exact h1) (G.vis x h2) (okName_d h3).1 (okName_d h3).2 G.room G.gd (fun j ds M d M' q => ?_) (sims as (y :: ys) sc X G h4) (star_plain pl.1) (star_none pl.2)
        obtain ⟨q1, z, q2⟩ := G.len j ds M d M' q
        obtain ⟨k1, k2, fd, k3, k4, _⟩ := G.fns j z q2
        exact ⟨q1, fd, g.ps j, k4, k2, k3⟩
    · cases h
  | .callK i y a, e, sc, X, G, h => by
    unfold mE at h
    split at h
    · rename_i x p y' v kp pos
      simp only [Bool.and_eq_true, decide_eq_true_eq] at h
      obtain ⟨⟨⟨⟨⟨h1, h2⟩, h3⟩, h4⟩, h5⟩, h6⟩ := h
      have e1 : y' = y := eq_of_beq h4
      subst e1
      obtain ⟨k1, k2, fd, k3, k4, k5⟩ := G.fns i x h1
      have k6 := k5 y' h5
      rw [h5] at k4
      exact r_callK k4 G.room G.gd (G.gl x (glB_is h2)) k1 k2 k6 (simE a v sc X G h6) (okName_d h3).1
    · cases h
  | .bi m f as, e, sc, X, G, h => by
    unfold mE at h
    split at h
    · rename_i x p xs pos
      simp only [Bool.and_eq_true, List.contains_iff_mem] at h
      obtain ⟨⟨⟨⟨⟨h1, h2⟩, h3⟩, h4⟩, h5⟩, h6⟩ := h
      cases xs with
      | nil => simp at h6
      | cons y ys =>
        have pl := mEs_plain as (y :: ys) h5
        rw [List.all_cons, Bool.and_eq_true] at pl
        exact r_bi h2 (eq_of_beq h1) G.calm G.gd G.units (G.gl x (glB_is h4)) (G.bis x h3) (sims as (y :: ys) sc X G h5) (star_plain pl.1) (star_none pl.2)
    · cases h
  | .meth f o as, e, sc, X, G, h => by
    unfold mE at h
    split at h
    · rename_i y x ap xs cp
      simp only [Bool.and_eq_true] at h
      obtain ⟨⟨⟨⟨⟨h1, h2⟩, h3⟩, h4⟩, h5⟩, h6⟩ := h
      split at h6
      · rename_i hf
        subst hf
        cases xs with
        | nil =>
          have := mEs_nil h5
          subst this
          exact r_upper (eq_of_beq h1) (simE o y sc X G h2) (base_of h3) h4
        | cons _ _ => cases h6
      · simp only [Bool.and_eq_true, List.contains_iff_mem, decide_eq_true_eq] at h6
        obtain ⟨⟨hf, hne⟩, hl⟩ := h6
        cases xs with
        | nil => simp at hne
        | cons z zs =>
          have pl := mEs_plain as (z :: zs) h5
          have pl' := pl
          rw [List.all_cons, Bool.and_eq_true] at pl
          refine r_meth (by simpa using hf) (eq_of_beq h1) (simE o y sc X G h2) (sims as (z :: zs) sc X G h5) (base_of h3) ?_ h4 (star_plain pl.1) (star_none pl.2)
          rw [star_all pl']
          have : (z :: zs).length + ([] : List Keyword).length + (if ([] : List Keyword).isEmpty then 0 else 1) < 30 := by
            show (z :: zs).length + 0 + 0 < 30
            omega
          rw [decide_eq_true this]
          rfl
    · cases h
  | .comp m elt tg it ifs, e, sc, X, G, h => by
    unfold mE at h
    split at h
    · rename_i el t iter is a scope pos
      simp only [Bool.and_eq_true] at h
      obtain ⟨⟨⟨⟨⟨⟨h0, h1⟩, h2⟩, h3⟩, h4⟩, h5⟩, h6⟩ := h
      rw [eq_of_beq h0]
      exact r_comp G.calm (by rw [G.hN]; exact G.nd) (simI it t iter sc X G h2) (G.blkOk h5) (ownOf_snd N tg) (fun s H C cs fp => (G.blk s H C cs fp).pg h1) (fun s H C cs fp => simIf ifs is scope _ (G.blk s H C cs fp) h3) (fun s H C cs fp => simE elt el scope _ (G.blk s H C cs fp) h4) (noFold h6)
    · cases h
theorem simT : ∀ (c : C) (e : Expr) (sc : Scope) (X : Cx), GoodX g cl fa N k sc X → mE g N sc c e = true → PT X e (tB fa (evT cl c))
  | .var i, e, sc, X, G, h => by
    rw [evT_var]
    cases e with
    | Name x pos =>
      simp only [mE, Bool.and_eq_true, decide_eq_true_eq] at h
      obtain ⟨⟨h1, h2⟩, h3⟩ := h
      exact t_truth (r_var (by rw [G.hN]; exact h1) (G.vis x h2) (okName_d h3).1 (okName_d h3).2) fun _ => rfl
    | _ => simp [mE] at h
  | .not a, e, sc, X, G, h => by
    cases e with
    | UnaryOp o x pos =>
      cases o with
      | Not => exact t_not (simT a x sc X G (by simpa only [mE] using h))
      | _ => simp [mE] at h
    | _ => simp [mE] at h
  | .and as, e, sc, X, G, h => by
    cases e with
    | BoolOp o xs pos =>
      cases o with
      | And => exact (simAndT as xs pos sc X G (by simpa only [mE] using h)).pt
      | _ => simp [mE] at h
    | _ => simp [mE] at h
  | .or as, e, sc, X, G, h => by
    cases e with
    | BoolOp o xs pos =>
      cases o with
      | Or => exact (simOrT as xs pos sc X G (by simpa only [mE] using h)).pt
      | _ => simp [mE] at h
    | _ => simp [mE] at h
  | .cmp o a b, e, sc, X, G, h => by
    cases e with
    | Compare x ops ys pos =>
      unfold mE at h
      split at h
      · rename_i heq
        cases heq
        simp only [Bool.and_eq_true, decide_eq_true_eq, Bool.not_eq_true'] at h
        obtain ⟨⟨⟨h1, h2⟩, h3⟩, h4⟩ := h
        subst h1
        exact t_cmp G.units (simE a _ sc X G h2) (simE b _ sc X G h3) h4
      · cases h
    | _ => simp [mE] at h
  | .chain o o' a b c, e, sc, X, G, h => by
    cases e with
    | Compare x ops ys pos =>
      unfold mE at h
      split at h
      · rename_i heq
        cases heq
        simp only [Bool.and_eq_true, decide_eq_true_eq, Bool.not_eq_true'] at h
        obtain ⟨⟨⟨⟨⟨h1, h1'⟩, h2⟩, h3⟩, h4⟩, h5⟩ := h
        subst h1 h1'
        exact t_chain G.units (simE a _ sc X G h2) (simE b _ sc X G h3) (simE c _ sc X G h4) h5
      · cases h
    | _ => simp [mE] at h
  | .idx a i, e, sc, X, G, h => by
    rw [evT_idx]
    cases e with
    | Subscript x y pos =>
      simp only [mE, Bool.and_eq_true] at h
      exact t_truth (r_idx G.units (simE a x sc X G h.1.1) (simE i y sc X G h.1.2) (plainIx_of h.2)) fun _ => rfl
    | _ => simp [mE] at h
  | .call i as, e, sc, X, G, h => by
    rw [evT_call]
    unfold mE at h
    split at h
    · rename_i x p xs pos
      simp only [Bool.and_eq_true, decide_eq_true_eq] at h
      obtain ⟨⟨⟨h1, h2⟩, h3⟩, h4⟩ := h
      obtain ⟨k1, k2, fd, k3, k4, _⟩ := G.fns i x h1
      cases xs with
      | nil =>
        have := mEs_nil h4
        subst this
        exact t_truth (r_call0 k4 (fun ds M d M' q => (G.len i ds M d M' q).1) G.room G.gd (G.gl x (glB_is h2)) k1 k2 k3 (okName_d h3).1) fun _ => rfl
      | cons y ys =>
        have pl := mEs_plain as (y :: ys) h4
        rw [List.all_cons, Bool.and_eq_true] at pl
        exact t_truth (r_call k4 (fun ds M d M' q => (G.len i ds M d M' q).1) G.room G.gd (G.gl x (glB_is h2)) k1 k2 k3 (sims as (y :: ys) sc X G h4) (okName_d h3).1 (star_plain pl.1) (star_none pl.2)) fun _ => rfl
    · cases h
  | .callV i as, e, sc, X, G, h => by
    rw [evT_callV]
    unfold mE at h
    split at h
    · rename_i x p xs pos
      simp only [Bool.and_eq_true, decide_eq_true_eq] at h
      obtain ⟨⟨⟨⟨h1, h2⟩, h3⟩, h4⟩, h5⟩ := h
      cases xs with
      | nil => simp at h5
      | cons y ys =>
        have pl := mEs_plain as (y :: ys) h4
        rw [List.all_cons, Bool.and_eq_true] at pl
        refine t_truth (r_callV (n := fun j => (g.ps j).length) (by rw [G.hN]; exact h1) (G.vis x h2) (okName_d h3).1 (okName_d h3).2 G.room G.gd (fun j ds M d M' q => ?_) (sims as (y :: ys) sc X G h4) (star_plain pl.1) (star_none pl.2)) fun _ => rfl
        obtain ⟨q1, z, q2⟩ := G.len j ds M d M' q
        obtain ⟨k1, k2, fd, k3, k4, _⟩ := G.fns j z q2
        exact ⟨q1, fd, g.ps j, k4, k2, k3⟩
    · cases h
  | .bi m f as, e, sc, X, G, h => by
    rw [evT_bi]
    unfold mE at h
    split at h
    · rename_i x p xs pos
      simp only [Bool.and_eq_true, List.contains_iff_mem] at h
      obtain ⟨⟨⟨⟨⟨h1, h2⟩, h3⟩, h4⟩, h5⟩, h6⟩ := h
      cases xs with
      | nil => simp at h6
      | cons y ys =>
        have pl := mEs_plain as (y :: ys) h5
        rw [List.all_cons, Bool.and_eq_true] at pl
        exact t_truth (r_bi h2 (eq_of_beq h1) G.calm G.gd G.units (G.gl x (glB_is h4)) (G.bis x h3) (sims as (y :: ys) sc X G h5) (star_plain pl.1) (star_none pl.2)) fun _ => rfl
    · cases h
  | .const _, _, _, _, _, _ => t_bad
  | .glob _ _, _, _, _, _, _ => t_bad
  | .bin _ _ _ _, _, _, _, _, _ => t_bad
  | .neg _, _, _, _, _, _ => t_bad
  | .ife _ _ _, _, _, _, _, _ => t_bad
  | .tup _, _, _, _, _, _ => t_bad
  | .lst _ _, _, _, _, _, _ => t_bad
  | .dict _ _, _, _, _, _, _ => t_bad
  | .slice _ _ _ _, _, _, _, _, _ => t_bad
  | .revT _, _, _, _, _, _ => t_bad
  | .stepL _ _ _ _, _, _, _, _, _ => t_bad
  | .callK _ _ _, _, _, _, _, _ => t_bad
  | .meth _ _ _, _, _, _, _, _ => t_bad
  | .comp _ _ _ _ _, _, _, _, _, _ => t_bad
theorem simAnd : ∀ (cs : Cs) (es : List Expr) (pos : Pos) (sc : Scope) (X : Cx), GoodX g cl fa N k sc X → mEs g N sc cs es = true → PE X (.BoolOp .And es pos) (tE fa (evAnd cl cs))
  | .nil, _, _, _, _, _, _ => r_bad
  | .cons a .nil, es, pos, sc, X, G, h => by
    cases es with
    | nil => simp [mEs] at h
    | cons e es =>
      simp only [mEs, Bool.and_eq_true, List.isEmpty_iff] at h
      obtain ⟨⟨_, h1⟩, h2⟩ := h
      subst h2
      exact pe_one (simE a e sc X G h1)
  | .cons a (.cons b r), es, pos, sc, X, G, h => by
    cases es with
    | nil => simp [mEs] at h
    | cons e es =>
      cases es with
      | nil => simp [mEs] at h
      | cons e2 es =>
        have h' : (plainE e && mE g N sc a e && mEs g N sc (.cons b r) (e2 :: es)) = true := by simpa only [mEs] using h
        simp only [Bool.and_eq_true] at h'
        exact r_and (simE a e sc X G h'.1.2) (simAnd (.cons b r) (e2 :: es) pos sc X G h'.2)
theorem simOr : ∀ (cs : Cs) (es : List Expr) (pos : Pos) (sc : Scope) (X : Cx), GoodX g cl fa N k sc X → mEs g N sc cs es = true → PE X (.BoolOp .Or es pos) (tE fa (evOr cl cs))
  | .nil, _, _, _, _, _, _ => r_bad
  | .cons a .nil, es, pos, sc, X, G, h => by
    cases es with
    | nil => simp [mEs] at h
    | cons e es =>
      simp only [mEs, Bool.and_eq_true, List.isEmpty_iff] at h
      obtain ⟨⟨_, h1⟩, h2⟩ := h
      subst h2
      exact pe_one (simE a e sc X G h1)
  | .cons a (.cons b r), es, pos, sc, X, G, h => by
    cases es with
    | nil => simp [mEs] at h
    | cons e es =>
      cases es with
      | nil => simp [mEs] at h
      | cons e2 es =>
        have h' : (plainE e && mE g N sc a e && mEs g N sc (.cons b r) (e2 :: es)) = true := by simpa only [mEs] using h
        simp only [Bool.and_eq_true] at h'
        exact r_or (simE a e sc X G h'.1.2) (simOr (.cons b r) (e2 :: es) pos sc X G h'.2)
theorem simAndT : ∀ (cs : Cs) (es : List Expr) (pos : Pos) (sc : Scope) (X : Cx), GoodX g cl fa N k sc X → mEs g N sc cs es = true → PW X (.BoolOp .And es pos) (tB fa (evAndT cl cs))
  | .nil, _, _, _, _, _, _ => w_bad
  | .cons a .nil, es, pos, sc, X, G, h => by
    cases es with
    | nil => simp [mEs] at h
    | cons e es =>
      simp only [mEs, Bool.and_eq_true, List.isEmpty_iff] at h
      obtain ⟨⟨_, h1⟩, h2⟩ := h
      subst h2
      exact pw_and1 (simT a e sc X G h1)
  | .cons a (.cons b r), es, pos, sc, X, G, h => by
    cases es with
    | nil => simp [mEs] at h
    | cons e es =>
      cases es with
      | nil => simp [mEs] at h
      | cons e2 es =>
        have h' : (plainE e && mE g N sc a e && mEs g N sc (.cons b r) (e2 :: es)) = true := by simpa only [mEs] using h
        simp only [Bool.and_eq_true] at h'
        exact t_and (simT a e sc X G h'.1.2) (simAndT (.cons b r) (e2 :: es) pos sc X G h'.2)
theorem simOrT : ∀ (cs : Cs) (es : List Expr) (pos : Pos) (sc : Scope) (X : Cx), GoodX g cl fa N k sc X → mEs g N sc cs es = true → PW X (.BoolOp .Or es pos) (tB fa (evOrT cl cs))
  | .nil, _, _, _, _, _, _ => w_bad
  | .cons a .nil, es, pos, sc, X, G, h => by
    cases es with
    | nil => simp [mEs] at h
    | cons e es =>
      simp only [mEs, Bool.and_eq_true, List.isEmpty_iff] at h
      obtain ⟨⟨_, h1⟩, h2⟩ := h
      subst h2
      exact pw_or1 (simT a e sc X G h1)
  | .cons a (.cons b r), es, pos, sc, X, G, h => by
    cases es with
    | nil => simp [mEs] at h
    | cons e es =>
      cases es with
      | nil => simp [mEs] at h
      | cons e2 es =>
        have h' : (plainE e && mE g N sc a e && mEs g N sc (.cons b r) (e2 :: es)) = true := by simpa only [mEs] using h
        simp only [Bool.and_eq_true] at h'
        exact t_or (simT a e sc X G h'.1.2) (simOrT (.cons b r) (e2 :: es) pos sc X G h'.2)
theorem sims : ∀ (cs : Cs) (es : List Expr) (sc : Scope) (X : Cx), GoodX g cl fa N k sc X → mEs g N sc cs es = true → PA X es (tL fa (evs cl cs))
  | .nil, es, sc, X, G, h => by
    cases es with
    | nil => exact l_nil
    | cons _ _ => simp [mEs] at h
  | .cons c r, es, sc, X, G, h => by
    cases es with
    | nil => simp [mEs] at h
    | cons e es =>
      simp only [mEs, Bool.and_eq_true] at h
      exact l_cons (simE c e sc X G h.1.2) (sims r es sc X G h.2) (star_plain h.1.1)
theorem simO : ∀ (c : Co) (e : Option Expr) (sc : Scope) (X : Cx), GoodX g cl fa N k sc X → mO g N sc c e = true → PO X e (tO fa (evo cl c))
  | .none, e, sc, X, G, h => by
    cases e with
    | none => exact o_none
    | some _ => simp [mO] at h
  | .some c, e, sc, X, G, h => by
    cases e with
    | none => simp [mO] at h
    | some e => exact o_some (simE c e sc X G (by simpa only [mO] using h))
theorem simIf : ∀ (c : Co) (es : List Expr) (sc : Scope) (X : Cx), GoodX g cl fa N k sc X → mIf g N sc c es = true → PTs X es (tB fa (evIf cl c))
  | .none, es, sc, X, G, h => by
    cases es with
    | nil =>
      refine ⟨fun pins s σ H Q I q => pts_nil.run pins s σ H Q I ?_⟩
      obtain ⟨res, β, ρ, M, b, M', S, R, e, P⟩ := q
      cases e
      exact P H β Step.refl S
    | cons _ _ => simp [mIf] at h
  | .some c, es, sc, X, G, h => by
    unfold mIf at h
    split at h
    · exact pts_one (simT c _ sc X G h)
    · cases h
theorem simI : ∀ (it : It) (t e : Expr) (sc : Scope) (X : Cx), GoodX g cl fa N k sc X → mI g N sc it t e = true → PI X t e (iS fa X.K (evI cl it))
  | .seq c, t, e, sc, X, G, h => i_seq (simE c e sc X G (by simpa only [mI] using h))
  | .rng1 a, t, e, sc, X, G, h => by
    unfold mI at h
    split at h
    · simp only [Bool.and_eq_true, List.contains_iff_mem] at h
      obtain ⟨⟨⟨⟨h1, h2⟩, h3⟩, h4⟩, h5⟩ := h
      rw [eq_of_beq h1]
      exact i_rng1 (G.gl _ (glB_is h2)) (G.bis _ h3) (simE a _ sc X G h5) (star_plain h4)
    · cases h
  | .rng2 a b, t, e, sc, X, G, h => by
    unfold mI at h
    split at h
    · simp only [Bool.and_eq_true, List.contains_iff_mem] at h
      obtain ⟨⟨⟨⟨⟨⟨h1, h2⟩, h3⟩, h4⟩, h5⟩, h6⟩, h7⟩ := h
      rw [eq_of_beq h1]
      exact i_rng2 (G.gl _ (glB_is h2)) (G.bis _ h3) (simE a _ sc X G h6) (simE b _ sc X G h7) (by rw [star_plain h4, star_plain h5]; rfl) (star_plain h5)
    · cases h
  | .zip a b, t, e, sc, X, G, h => by
    unfold mI at h
    split at h
    · simp only [Bool.and_eq_true, List.contains_iff_mem] at h
      obtain ⟨⟨⟨⟨⟨⟨⟨h1, h2⟩, h3⟩, h4⟩, h5⟩, h6⟩, h7⟩, h8⟩ := h
      rw [eq_of_beq h1]
      cases t with
      | Tuple es n pos => exact i_zip (G.gl _ (glB_is h2)) (G.bis _ h3) (simE a _ sc X G h6) (simE b _ sc X G h7) (star_plain h4) (star_plain h5) (star_none (by rw [List.all_cons, h5]; rfl))
      | _ => cases h8
    · cases h
theorem simD : ∀ (cs : Cs) (ks : List Str) (keys : List (Option Expr)) (values : List Expr) (pos : Pos) (sc : Scope) (X : Cx), GoodX g cl fa N k sc X → mD g N sc ks cs keys values = true → PD fa X pos keys values ks (evs cl cs)
  | .nil, ks, keys, values, pos, sc, X, G, h => by
    simp only [mD, Bool.and_eq_true, List.isEmpty_iff] at h
    obtain ⟨⟨h0, h1⟩, h2⟩ := h
    subst h0 h1 h2
    exact d_nil
  | .cons c r, ks, keys, values, pos, sc, X, G, h => by
    unfold mD at h
    split at h
    · simp only [Bool.and_eq_true] at h
      rw [← eq_of_beq h.1.1]
      exact d_cons (simE c _ sc X G h.1.2) (simD r _ _ _ pos sc X G h.2)
    · cases h
end
end
end Mi
/-! Mi15: statements, defs, the law. -/
namespace Mi
open PySem PySem.Spec PyProof.Rows L2

section
variable (g : Cfg) (N : List Str) (sc : Scope)
/-- does name = [..] forget its name first -/
def swB (v : Expr) (x : Str) (px : Pos) : Bool := match v with
  | .ListComp _ _ s p => (sc.names.lookup x == some .local) && px.line == p.line && !(s.names.any fun (n, k) => n == x && (k == .local || k == .cell))
  | _ => false
def isLC : Expr → Bool
  | .ListComp .. => true
  | _ => false
def parB (x y : Str) (px py : Pos) (i j : Nat) (u w : Expr) : Bool :=
  if sc.names.lookup x = some .local ∧ sc.names.lookup y = some .local then (py.line == px.line) && decide (x ≠ y) && decide (i ≠ j) && !([u, w].all (foldedForSure 8)) && !([u, w].all (constantsAlone 8)) else locB sc x && locB sc y
mutual
def mS : S → Stmt → Bool
  | .set i e, st => match st with
    | .Assign [.Name x px] v _ => decide (N[i]? = some x) && locB sc x && mE g N sc e v && (notComp v || isLC v)
    | _ => false
  | .par i j a b, st => match st with
    | .Assign [.Tuple [.Name x px, .Name y py] _ _] (.Tuple [u, w] _ _) _ => decide (N[i]? = some x) && decide (N[j]? = some y) && mE g N sc a u && mE g N sc b w && plainE u && plainE w && parB sc x y px py i j u w
    | _ => false
  | .setIx o k e, st => match st with
    | .Assign [.Subscript y (.Constant (.str k') _ _) _] v _ => (k == k') && mE g N sc o y && mE g N sc e v && notComp v
    | _ => false
  | .expr e, st => match st with
    | .Expr v _ => mE g N sc e v && notComp v
    | _ => false
  | .ret e, st => match st with
    | .Return (some v) _ => mE g N sc e v
    | _ => false
  | .ifs c a b, st => match st with
    | .If t x y _ => mE g N sc c t && mSs a x && mSs b y
    | _ => false
  | .for_ tg it body, st => match st with
    | .For t iter b [] _ => mTg N sc tg t && mI g N sc it t iter && mSs body b && notSet iter
    | _ => false
def mSs : Ss → List Stmt → Bool
  | .nil, sts => sts.isEmpty
  | .cons s r, sts => match sts with
    | st :: sts => mS s st && mSs r sts
    | [] => false
end
end
section
variable {g : Cfg} {cl : Calls} {fa : FA} {N : List Str} {k : Nat} {sc : Scope} {X : Cx}
theorem isLC_of {v : Expr} (h : isLC v = true) : ∃ el gs s p, v = .ListComp el gs s p := by
  cases v <;> first | exact ⟨_, _, _, _, rfl⟩ | cases h
theorem swaps_lc {el : Expr} {gs : List Comprehension} {s : Scope} {p px : Pos} {x : Str} {l : Nat} (G : GoodX g cl fa N k sc X) (hk : X.env.scope.kind = .function) (hx : locB sc x = true) : swapsWith (.ListComp el gs s p) (some (.Name x px)) l X.env = pure (swB sc (.ListComp el gs s p) x px) := by
  have hb : (X.env.blockKind == .function) = true := by
    unfold Env.blockKind
    rw [hk]
    rfl
  have hl : (X.env.kindOf x == some .local) = (sc.names.lookup x == some .local) := by
    show (X.env.scope.names.lookup x == some .local) = _
    unfold locB at hx
    split at hx
    · rename_i q; rw [G.loc x q, q]
    · rename_i q; rw [(G.cel x q).1, q]
    · cases hx
  show pure (X.env.blockKind == .function && X.env.kindOf x == some .local && px.line == p.line && !(s.names.any fun (n, k) => n == x && (k == .local || k == .cell))) = _
  rw [hb, hl, Bool.true_and]
  rfl
mutual
theorem simS : ∀ (s : S) (st : Stmt), GoodX g cl fa N k sc X → X.env.scope.kind = .function → mS g N sc s st = true → PS X st (tF fa (exS cl s))
  | .set i e, st, G, hk, h => by
    unfold mS at h
    split at h
    · rename_i x px v pos
      simp only [Bool.and_eq_true, decide_eq_true_eq, Bool.or_eq_true] at h
      obtain ⟨⟨⟨h1, h2⟩, h3⟩, h4⟩ := h
      obtain ⟨q1, q2⟩ := G.store h2
      have hnd : X.N.Nodup := by rw [G.hN]; exact G.nd
      have hix : X.N[i]? = some x := by rw [G.hN]; exact h1
      by_cases hc : notComp v = true
      · exact s_set hnd hix q1 (simE e v sc X G h3) (swaps_of hc) q2
      · obtain ⟨el, gs, s, p, rfl⟩ := isLC_of (h4.resolve_left hc)
        have sw := swaps_lc (px := px) (l := pos.line) (el := el) (gs := gs) (s := s) (p := p) G hk h2
        by_cases hb : swB sc (.ListComp el gs s p) x px = true
        · rw [hb] at sw
          have hxl : X.env.scope.names.lookup x = some .local := by
            have : (sc.names.lookup x == some .local) = true := (Bool.and_eq_true_iff.mp (Bool.and_eq_true_iff.mp hb).1).1
            exact G.loc x (eq_of_beq this)
          cases e with
          | comp m elt tg it ifs =>
            unfold mE at h3
            split at h3
            · rename_i heq
              cases heq
              simp only [Bool.and_eq_true] at h3
              obtain ⟨⟨⟨⟨⟨⟨z0, z1⟩, z2⟩, z3⟩, z4⟩, z5⟩, z6⟩ := h3
              rw [eq_of_beq z0] at sw ⊢
              exact s_setLc G.calm hnd hix hxl sw (simI it _ _ sc X G z2) (G.blkOk z5) (ownOf_snd N tg) (fun s H C cs fp => (G.blk s H C cs fp).pg z1) (fun s H C cs fp => simIf ifs _ _ _ (G.blk s H C cs fp) z3) (fun s H C cs fp => simE elt _ _ _ (G.blk s H C cs fp) z4) (noFold z6)
            · cases h3
          | _ => simp [mE] at h3
        · rw [show swB sc (.ListComp el gs s p) x px = false by simpa using hb] at sw
          exact s_set hnd hix q1 (simE e _ sc X G h3) sw q2
    · cases h
  | .par i j a b, st, G, hk, h => by
    unfold mS at h
    split at h
    · rename_i x px y py kt pt u w k2 pt2 pos
      simp only [Bool.and_eq_true, decide_eq_true_eq] at h
      obtain ⟨⟨⟨⟨⟨⟨h1, h2⟩, h3⟩, h4⟩, h5⟩, h6⟩, h7⟩ := h
      have hnd : X.N.Nodup := by rw [G.hN]; exact G.nd
      have hix : X.N[i]? = some x := by rw [G.hN]; exact h1
      have hjy : X.N[j]? = some y := by rw [G.hN]; exact h2
      have hbk : X.env.blockKind = .function := by
        unfold Env.blockKind
        rw [hk]
        rfl
      unfold parB at h7
      split at h7
      · rename_i hl
        simp only [Bool.and_eq_true, decide_eq_true_eq, Bool.not_eq_true'] at h7
        obtain ⟨⟨⟨⟨z1, z2⟩, z3⟩, z4⟩, z5⟩ := h7
        exact s_parL G.calm hnd hix hjy z3 (G.loc x hl.1) (G.loc y hl.2) (simE a u sc X G h3) (simE b w sc X G h4) h5 h6 (swap_some hbk (G.loc x hl.1) (G.loc y hl.2) z1 z2 h5 h6 z4 z5)
      · rename_i hl
        simp only [Bool.and_eq_true] at h7
        have kd : ∀ z, locB sc z = true → sc.names.lookup z ≠ some .local → X.env.kindOf z ≠ some .local := fun z hz hn => by
          unfold locB at hz
          split at hz
          · rename_i q; exact absurd q hn
          · rename_i q
            show X.env.scope.names.lookup z ≠ _
            rw [(G.cel z q).1]
            decide
          · cases hz
        have hno : X.env.kindOf x ≠ some .local ∨ X.env.kindOf y ≠ some .local := by
          by_cases q : sc.names.lookup x = some .local
          · exact .inr (kd y h7.2 fun z => hl ⟨q, z⟩)
          · exact .inl (kd x h7.1 q)
        refine s_parT G.calm (simE a u sc X G h3) (simE b w sc X G h4) h5 h6 (G.pg ?_) (swap_none hno)
        simp only [mTg, mNames, Bool.and_eq_true, decide_eq_true_eq, and_true]
        exact ⟨⟨h1, h7.1⟩, h2, h7.2⟩
    · cases h
  | .setIx o k' e, st, G, hk, h => by
    unfold mS at h
    split at h
    · simp only [Bool.and_eq_true] at h
      obtain ⟨⟨⟨h1, h2⟩, h3⟩, h4⟩ := h
      rw [← eq_of_beq h1]
      exact s_setIx G.units (simE o _ sc X G h2) (simE e _ sc X G h3) (swaps_of h4)
    · cases h
  | .expr e, st, G, hk, h => by
    unfold mS at h
    split at h
    · simp only [Bool.and_eq_true] at h
      exact s_expr (simE e _ sc X G h.1) (swaps_of h.2)
    · cases h
  | .ret e, st, G, hk, h => by
    unfold mS at h
    split at h
    · exact s_ret (simE e _ sc X G h)
    · cases h
  | .ifs c a b, st, G, hk, h => by
    unfold mS at h
    split at h
    · simp only [Bool.and_eq_true] at h
      exact s_if (simT c _ sc X G h.1.1) (simSs a _ G hk h.1.2) (simSs b _ G hk h.2)
    · cases h
  | .for_ tg it body, st, G, hk, h => by
    unfold mS at h
    split at h
    · simp only [Bool.and_eq_true] at h
      obtain ⟨⟨⟨h1, h2⟩, h3⟩, h4⟩ := h
      exact s_for (by rw [G.xe]; exact PassesOwn.never) G.calm (simI it _ _ sc X G h2) (G.pg h1) (simSs body _ G hk h3) (noFold h4)
    · cases h
theorem simSs : ∀ (ss : Ss) (sts : List Stmt), GoodX g cl fa N k sc X → X.env.scope.kind = .function → mSs g N sc ss sts = true → PSs X sts (tF fa (exSs cl ss))
  | .nil, sts, G, hk, h => by
    cases sts with
    | nil => exact s_nil
    | cons _ _ => simp [mSs] at h
  | .cons s r, sts, G, hk, h => by
    cases sts with
    | nil => simp [mSs] at h
    | cons st sts =>
      simp only [mSs, Bool.and_eq_true] at h
      exact s_cons (simS s st G hk h.1) (simSs r sts G hk h.2)
end
end

/-! ### defs -/
structure GoodG (g : Cfg) (cl : Calls) (fa : FA) (k : Nat) (P : Program) (w : World) (K : PySem.W.Frag) (mg : Str → Option Value) (base : Heap) : Prop where
  fns : ∀ i x, g.fnm[i]? = some x → mg x = some (.ref (fa i)) ∧ PySem.W.keepIn K (.ref (fa i)) = true ∧ ∃ fd, Binds K fd (g.ps i) [] ∧ FnG P w K mg base k (fa i) fd (g.ps i) (spD fa (cl i) (g.ps i).length) ∧ ∀ y, g.ps i = [y] → ∀ (s : Shared) (u : Value), BindsTo s fd ⟨[], [(y, u)]⟩ [(y, u)]
  len : ∀ i ds M d M', cl i ds M = .ok d M' → ds.length = (g.ps i).length ∧ ∃ x, g.fnm[i]? = some x
  gls : ∀ p ∈ g.gl, GOk mg fa p.1 p.2
  bis : ∀ x ∈ g.bis, mg x = none
/-- a def of the text and its small body -/
structure DefOk (g : Cfg) (fa : FA) (T : Nat → Option Fn) (K : PySem.W.Frag) (mg : Str → Option Value) (i : Nat) (x : Str) : Prop where
  mgx : mg x = some (.ref (fa i))
  ex : ∃ (st : Stmt) (N : List Str) (fd : FuncData) (f : Fn), Fun K x x st (fa i) fd ∧ FnScope N (g.ps i) (defScope st) ∧ T i = some f ∧ f.np = (g.ps i).length ∧ f.ns = N.length ∧ mSs g N (defScope st) f.body (defBody st) = true ∧ Binds K fd (g.ps i) [] ∧
    ∀ y, g.ps i = [y] → ∀ (s : Shared) (u : Value), BindsTo s fd ⟨[], [(y, u)]⟩ [(y, u)]
section
variable {g : Cfg} {cl : Calls} {fa : FA} {P : Program} {w : World} {K : PySem.W.Frag} {mg : Str → Option Value} {base : Heap} {T : Nat → Option Fn}
theorem startR {res β : List Addr} {H : Hp} {ds : List D} {vs : List V} {n : Nat} {N : List Str} (r : Reps fa β res H ds vs) (hn : n = N.length) : RepS fa β res H (ds.map some ++ List.replicate (n - ds.length) none) (start N vs) := by
  refine ⟨?_, fun i d h => ?_⟩
  · unfold L2.start
    simp [r.length, hn]
  · unfold L2.start
    by_cases hi : i < ds.length
    · rw [List.getElem?_append_left (by simpa using hi), List.getElem?_map] at h
      cases q : ds[i]? with
      | none => rw [q] at h; cases h
      | some d' =>
        rw [q] at h
        cases h
        obtain ⟨v, h1, h2⟩ := r.get q
        refine ⟨v, ?_, h2⟩
        rw [List.getElem?_append_left (by rw [List.length_map, ← r.length]; exact hi), List.getElem?_map, h1]
        rfl
    · rw [List.getElem?_append_right (by simpa using hi), List.getElem?_replicate] at h
      split at h <;> cases h
theorem fn_sim {k : Nat} {x : Str} {st : Stmt} {i : Nat} {fd : FuncData} {N : List Str} {f : Fn} (G : GoodG g cl fa k P w K mg base) (hK : K = fa.K) (F : Fun K x x st (fa i) fd) (S : FnScope N (g.ps i) (defScope st)) (hnp : f.np = (g.ps i).length) (hns : f.ns = N.length)
    (hm : mSs g N (defScope st) f.body (defBody st) = true) : FnG P w K mg base (k + 1) (fa i) fd (g.ps i) (spD fa (runFn cl f) (g.ps i).length) := by
  refine fnG_mk F S (fun vs H Q E h => ?_) fun cdv A outer s H vs Q hr hgd hsp => ?_
  · obtain ⟨res, β, M, ds, d, M', _, r, hl, _⟩ := h
    rw [← r.length]; exact hl
  · obtain ⟨res, β, M, ds, d, M', Si, r, hl, e, Po⟩ := hsp
    have GX : GoodX g cl fa N k (defScope st) (cxOf CX0 P w K mg base N x (defScope st) (fa i) cdv A outer s H E0).nox :=
      { hN := rfl, hK := hK, nd := S.nd, calm := rfl, room := hr, gd := deeper_guards hgd, xe := rfl
        vis := fun y hy => by
          show Vis (defScope st) y
          unfold visB at hy
          split at hy
          · rename_i q; exact .inl q
          · rename_i q; exact .inr (.inl q)
          · rename_i q; exact .inr (.inr q)
          · cases hy
        gl := fun y hy => hy, loc := fun y hy => hy, cel := fun y hy => ⟨hy, rfl⟩, fre := fun y hy => .inr hy
        fns := G.fns, len := G.len, gls := G.gls, bis := G.bis }
    refine ⟨_, simSs f.body (defBody st) GX S.kind hm, ?_⟩
    unfold runFn at e
    split at e
    · obtain ⟨o, M1, e1, e⟩ := Res.bind_ok e
      refine ⟨res, β, _, M, o, M1, Si, startR r hns, e1, ?_⟩
      cases o with
      | nx ρ => cases e; exact fun σ' H' β' st' S' R' => Po .non H' β' st' S' .non
      | rt d => cases e; exact Po
    · cases e
theorem callN_len (hT : ∀ i f, T i = some f → f.np = (g.ps i).length ∧ ∃ x, g.fnm[i]? = some x) : ∀ n i ds M d M', callN T n i ds M = .ok d M' → ds.length = (g.ps i).length ∧ ∃ x, g.fnm[i]? = some x
  | 0, i, ds, M, d, M', h => by simp [callN] at h
  | n + 1, i, ds, M, d, M', h => by
    simp only [callN] at h
    split at h
    · rename_i f hf
      obtain ⟨h1, h2⟩ := hT i f hf
      unfold runFn at h
      split at h
      · rename_i hl; exact ⟨hl.trans h1, h2⟩
      · cases h
    · cases h
theorem all_ok (hK : K = fa.K) (h : ∀ i x, g.fnm[i]? = some x → DefOk g fa T K mg i x) (hT : ∀ i f, T i = some f → f.np = (g.ps i).length ∧ ∃ x, g.fnm[i]? = some x) (gls : ∀ p ∈ g.gl, GOk mg fa p.1 p.2) (bis : ∀ x ∈ g.bis, mg x = none) : ∀ n, GoodG g (callN T n) fa n P w K mg base
  | 0 => ⟨fun i x hx => by
      obtain ⟨m1, st, N, fd, f, F, S, t1, t2, t3, t4, t5, t6⟩ := h i x hx
      refine ⟨m1, F.kp, fd, t5, ⟨fun vs H Q E q => ?_, fun A outer s H args us vs Q _ _ _ _ _ q => ?_⟩, t6⟩
      · obtain ⟨_, _, _, _, _, _, _, _, _, z, _⟩ := q; simp [callN] at z
      · obtain ⟨_, _, _, _, _, _, _, _, _, z, _⟩ := q; simp [callN] at z, callN_len hT 0, gls, bis⟩
  | n + 1 => ⟨fun i x hx => by
      obtain ⟨m1, st, N, fd, f, F, S, t1, t2, t3, t4, t5, t6⟩ := h i x hx
      refine ⟨m1, F.kp, fd, t5, ?_, t6⟩
      have q := fn_sim (all_ok hK h hT gls bis n) hK F S t2 t3 t4
      have e : callN T (n + 1) i = runFn (callN T n) f := by
        funext as M
        simp only [callN, t1]
      rw [e]
      exact q, callN_len hT (n + 1), gls, bis⟩
end
end Mi
/-! Mi16: the law's own call, from the evaluation of its small body. -/
namespace Mi
open PySem PySem.Spec PyProof.Rows L2

theorem law_run {P : Program} {w : World} {mg mb : Str → Option Value} {k : Nat} {fa : FA} {j : Nat} {a : Addr} {fd : FuncData} {x : Str} {f : List D → MH → Res D} {s₁ : Shared} {vs : List Value} {ns : List Int}
    (inK : fa.K.In s₁.heap) (glo : s₁.heap.Ns mainGlobals mg) (blt : s₁.heap.Ns builtinsNs mb) (bltIs : ∀ x : Str, x ≠ "__name__" → mb x = bootBuiltins x) (nolim : s₁.heap.NoLimit) (nogen : s₁.gens = #[])
    (at_a : s₁.heap.get? a = some { cls := .type "list", data := .seq vs.toArray }) (hints : IntsAre vs ns) (few : ns.length ≤ sizeLine) (hr : Room k callerA)
    (F : ∀ base : Heap, fa.K.In base → base.Ns mainGlobals mg → FnG P w fa.K mg base k (fa j) fd [x] (spD fa f 1)) (hbind : BindsTo s₁ fd ⟨[.ref a], []⟩ [(x, .ref a)])
    (ends : ∃ M', f [.scr ns] [] = .ok (.bl true) M') :
    codeAny (model P w) callerA (.call (.ref (fa j)) ⟨[.ref a], []⟩) (fun r s' => r = .ok (.ret (.bool true)) ∧ OldK s₁.heap s'.heap ∧ s'.os = s₁.os ∧ AllBare s'.gens) s₁ := by
  obtain ⟨M', ends⟩ := ends
  have rel := vals_ints hints
  have sim0 : ∀ H : Hp, Sim fa [] [] [] H := fun H => ⟨rfl, List.nodup_nil, fun _ h => (nomatch h), fun _ h => (nomatch h), fun n a o e _ => by simp at e⟩
  -- from any start where only the script may be tracked
  have go : ∀ H : Hp, Only H → Rep fa [] [] H (.scr ns) (.ref a) → HOk P w H s₁.heap → (∀ b, H b ≠ none → b = a) → (H a ≠ none → fa.K.lookup a = none) →
      codeAny (model P w) callerA (.call (.ref (fa j)) ⟨[.ref a], []⟩) (fun r s' => r = .ok (.ret (.bool true)) ∧ OldK s₁.heap s'.heap ∧ s'.os = s₁.os ∧ AllBare s'.gens) s₁ := by
    intro H only rep hok onlyA notK
    have un : ∀ {b : Addr} {o : Obj} {es : Array DictEntry} {ep : Nat}, s₁.heap.get? b = some o → o.data = .dict es ep → H b = none := by
      intro b o es ep e1 e2
      cases q : H b with
      | none => rfl
      | some u =>
        obtain rfl : b = a := onlyA b (by rw [q]; simp)
        rw [at_a] at e1
        cases e1
        cases e2
    have nsIn : ∀ {b : Addr} {m : Str → Option Value}, s₁.heap.Ns b m → (hidT s₁.heap H).Ns b m := by
      rintro b m ⟨o, es, ep, e1, e2, r⟩
      exact ⟨o, es, ep, hidT_get e1 (un e1 e2), e2, r⟩
    have kIn : fa.K.In (hidT s₁.heap H) := by
      intro b o e1
      refine hidT_get (inK b o e1) ?_
      cases q : H b with
      | none => rfl
      | some u =>
        obtain rfl : b = a := onlyA b (by rw [q]; simp)
        rw [notK (by rw [q]; simp)] at e1
        cases e1
    have mod : Mod fa.K mg (hidT s₁.heap H) := by
      refine ⟨kIn, nsIn glo, ⟨mb, nsIn blt, bltIs⟩, ?_⟩
      obtain ⟨mc, h1, h2⟩ := nolim
      exact ⟨mc, nsIn h1, h2⟩
    have env : Env0 P w fa.K mg (hidT s₁.heap H) callerA [] s₁ H :=
      ⟨rfl, mod, fun b o e => of_hidT e, Nat.le_of_eq (hidT_size _ _), trivial, fun b hb => (nomatch hb), hok, .of_eq nogen⟩
    have sp : spD fa f 1 [.ref a] H (fun v _ => v = .bl true) E0 :=
      ⟨[], [], [], [.scr ns], .bl true, M', sim0 H, .cons rep .nil, rfl, ends, fun v H' β' _ _ r => by cases r; rfl⟩
    refine codeAny_mono ((F _ kIn (nsIn glo)).run callerA [] s₁ H ⟨[.ref a], []⟩ [.ref a] [.ref a] _ hr rfl env hbind (.cons rfl .nil) sp) fun r s' h => ?_
    cases r with
    | error e => exact False.elim h
    | ok fl =>
      cases fl with
      | next => exact False.elim h
      | brk => exact False.elim h
      | cont => exact False.elim h
      | ret u =>
        obtain ⟨v, H', os, bare, kept, hok', ru, q⟩ := h
        have q' : v = .bl true := q
        subst q'
        obtain rfl : u = Value.bool true := ru
        refine ⟨rfl, OldK.of_keep fun b o e => ?_, os, bare⟩
        cases q : H b with
        | none => exact kept.keep b o e q (fun z => (nomatch z)) (by simp)
        | some u =>
          rcases only b with z | ⟨ob, xs, z⟩
          · rw [q] at z; cases z
          · obtain ⟨e1, _⟩ := hok b _ z
            obtain ⟨e2, _⟩ := hok' b _ (kept.frzs b ob _ z)
            rw [e] at e1
            cases e1
            exact e2
  cases inside : fa.K.lookup a with
  | some o =>
    have e := inK a o inside
    rw [at_a] at e
    cases e
    refine go (fun _ => none) (fun _ => .inl rfl) (.scrK (.inr ⟨_, vs.toArray, _, inside, rfl, rfl, rfl, ?_, by simpa using rel⟩)) (fun b u z => nomatch z) (fun b z => absurd rfl z) fun z => absurd rfl z
    rw [List.size_toArray, hints.length]
    exact few
  | none =>
    refine go (fun b => if b = a then some (.frz { cls := .type "list", data := .seq vs.toArray } (.lst (ns.map V.int))) else none) (fun b => ?_) (.scr (if_pos rfl) (by simp) (by simp)) (fun b u z => ?_) (fun b z => ?_) fun _ => inside
    · by_cases hb : b = a
      · exact .inr ⟨_, _, if_pos hb⟩
      · exact .inl (if_neg hb)
    · by_cases hb : b = a
      · have z' := (if_pos hb).symm.trans z
        cases z'
        subst hb
        exact ⟨at_a, by rw [List.length_map]; exact few, vs, _, rel, at_a⟩
      · have z' := (if_neg hb).symm.trans z
        cases z'
    · by_cases hb : b = a
      · exact hb
      · exact absurd (if_neg hb) z
/-- the goal behind k_head: what the top has left (facts), and the law's evaluation -/
theorem law_of {l : PySem.W.OpenLaw} {n k j : Nat} {q : Program} {loose : List Str} {XP : (Str → Option Value) → Heap → Prop} {YP : World → Heap → Prop} {d : DefRec} {K : Params → PySem.W.Frag} {x : Str} {g : Cfg} {T : Nat → Option Fn}
    (hn : l.most = some n) (hn2 : n ≤ sizeLine) (hdf : d.params.defaults = []) (hr : Room (k + 1) callerA) (hY : ∀ (w : World) (h : Heap), YP w h → (K w.params).In h)
    (hj : g.fnm[j]? = some d.name) (hps : g.ps j = [x]) (hT : ∀ i f, T i = some f → f.np = (g.ps i).length ∧ ∃ x, g.fnm[i]? = some x)
    (facts : ∀ (w : World) (mg : Str → Option Value) (h : Heap), (K w.params).In h → h.Ns mainGlobals mg → ∃ ad : Nat → Addr, (∀ i x, g.fnm[i]? = some x → DefOk g ⟨ad, K w.params⟩ T (K w.params) mg i x) ∧ (∀ p ∈ g.gl, GOk mg ⟨ad, K w.params⟩ p.1 p.2) ∧ ∀ x ∈ g.bis, mg x = none)
    (ends : ∀ ns : List Int, ns.length ≤ n → ∃ M', callN T (k + 1) j [.scr ns] [] = .ok (.bl true) M') :
    PySem.W.WalkO q loose XP YP l.row.toRowW d [] (fun f vs => PySem.call f vs) := by
  refine Att.attach_call hn hdf fun w s₀ s₁ mg mb fad o pm cd doc a vs ns G Y ho hd hcd hmg hobj hints hlen hg => ?_
  have KX := hY w _ Y
  obtain ⟨ad, h1, h2, h3⟩ := facts w mg _ KX G.T.g
  obtain ⟨m1, st, N, fd, f, F, S, t1, t2, t3, t4, t5, t6⟩ := h1 j d.name hj
  have e : fad = ad j := by
    have := hmg.symm.trans m1
    cases this
    rfl
  subst e
  have bind : BindsTo s₁ fd ⟨[.ref a], []⟩ [(x, .ref a)] := by
    have := t5 s₁ [.ref a] KX (by rw [hps]; rfl)
    rw [hps] at this
    exact this
  have e : callN T (k + 1) j = runFn (callN T k) f := by
    funext as M
    simp only [callN, t1]
  refine law_run (fa := ⟨ad, K w.params⟩) (j := j) KX G.T.g G.T.b G.T.builtins G.T.nolimit hg hobj hints (Nat.le_trans hlen hn2) hr (fun base _ _ => ?_) bind (ends ns hlen)
  have q := fn_sim (P := l.prog) (w := w) (base := base) (all_ok (fa := ⟨ad, K w.params⟩) rfl h1 hT h2 h3 k) rfl F S t2 t3 t4
  rw [e]
  rw [hps] at q
  exact q
end Mi
/-! Mi17: the evaluator's equations, for simp. -/
namespace Mi
open PySem PySem.Spec PyProof.Rows L2
section
variable {α β : Type} (a : α) (M : MH) (f : α → MH → Res β)
@[simp] theorem bind_ok_eq : (Res.ok a M).bind f = f a M := rfl
@[simp] theorem bind_bad_eq : (Res.bad : Res α).bind f = .bad := rfl
end
section
variable (M : MH) (b : Bool) (i j : Int) (x y : Str) (xs ys : List D) (d : D) (m : Bool) (as : List D) (n : Nat)
@[simp] theorem tru_non : truD M .non = some false := rfl
@[simp] theorem tru_bl : truD M (.bl b) = some b := rfl
@[simp] theorem tru_int : truD M (.int i) = some (i != 0) := rfl
@[simp] theorem tru_tup : truD M (.tup xs) = some (!xs.isEmpty) := rfl
@[simp] theorem tru_lst : truD M (.lst xs) = some (!xs.isEmpty) := rfl
@[simp] theorem getL_lst : getL M (.lst xs) = some xs := rfl
@[simp] theorem resO_some : resO M (some d) = .ok d M := rfl
@[simp] theorem resO_none : resO M none = .bad := rfl
@[simp] theorem newL_false : newL false xs M = .ok (.lst xs) M := rfl
@[simp] theorem newL_true : newL true xs M = .ok (.ref M.length) (M ++ [.lst xs]) := rfl
@[simp] theorem cmp_eq_int : cmpD .Eq (.int i) (.int j) M = some (i == j) := rfl
@[simp] theorem cmp_ne_int : cmpD .NotEq (.int i) (.int j) M = some (!(i == j)) := rfl
@[simp] theorem cmp_lt_int : cmpD .Lt (.int i) (.int j) M = some (decide (i < j)) := rfl
@[simp] theorem cmp_le_int : cmpD .LtE (.int i) (.int j) M = some (decide (i ≤ j)) := rfl
@[simp] theorem cmp_gt_int : cmpD .Gt (.int i) (.int j) M = some (decide (j < i)) := rfl
@[simp] theorem cmp_ge_int : cmpD .GtE (.int i) (.int j) M = some (decide (j ≤ i)) := rfl
@[simp] theorem cmp_lt_str : cmpD .Lt (.str x) (.str y) M = some (ltS x y) := rfl
@[simp] theorem cmp_ge_str : cmpD .GtE (.str x) (.str y) M = some (!ltS x y) := rfl
@[simp] theorem bq_len : biD m "len" as M = biLen as M := rfl
@[simp] theorem bq_isi : biD m "isinstance" as M = biIsi as M := rfl
@[simp] theorem bq_int : biD m "int" as M = biInt as M := rfl
@[simp] theorem bq_str : biD m "str" as M = biStr as M := rfl
@[simp] theorem bq_ord : biD m "ord" as M = biOrd as M := rfl
@[simp] theorem bq_all : biD m "all" as M = biAll as M := rfl
@[simp] theorem bq_list : biD m "list" as M = biList m as M := rfl
@[simp] theorem bq_tuple : biD m "tuple" as M = biTuple as M := rfl
@[simp] theorem bq_dict : biD m "dict" as M = biDict as M := rfl
@[simp] theorem bq_sorted : biD m "sorted" as M = biSorted m as M := rfl
@[simp] theorem bq_repr : biD m "repr" as M = biRepr as M := rfl
@[simp] theorem len_tup : biLen [.tup xs] M = .ok (.int xs.length) M := rfl
@[simp] theorem len_lst : biLen [.lst xs] M = .ok (.int xs.length) M := rfl
@[simp] theorem int_int : biInt [.int i] M = .ok (.int i) M := rfl
@[simp] theorem tuple_lst : biTuple [.lst xs] M = .ok (.tup xs) M := rfl
@[simp] theorem list_tup_f : biList false [.tup xs] M = .ok (.lst xs) M := rfl
@[simp] theorem list_lst_f : biList false [.lst xs] M = .ok (.lst xs) M := rfl
@[simp] theorem idx_tup : idxD (.tup xs) (.int i) M = atI xs i := rfl
@[simp] theorem idx_lst : idxD (.lst xs) (.int i) M = atI xs i := rfl
@[simp] theorem src_tup : srcOf M (.tup xs) = some (.vals xs) := rfl
@[simp] theorem src_lst : srcOf M (.lst xs) = some (.vals xs) := rfl
@[simp] theorem srcLen_vals : srcLen (.vals xs) = xs.length := rfl
@[simp] theorem srcLen_zip : srcLen (.zipL xs ys) = min xs.length ys.length := rfl
@[simp] theorem add_int : binD m .Add (.int i) (.int j) M = .ok (.int (i + j)) M := rfl
@[simp] theorem sub_int : binD m .Sub (.int i) (.int j) M = .ok (.int (i - j)) M := rfl
@[simp] theorem bind_name : bindT (.name n) d = fun ρ => some (ρ.set n (some d)) := rfl
@[simp] theorem own_name : (Tg.name n).own = [n] := rfl
@[simp] theorem own_tup (l : List Nat) : (Tg.tup l).own = l := rfl
end
@[simp] theorem atI_0 {α : Type} (a : α) (r : List α) : atI (a :: r) 0 = some a := by
  unfold atI ixN
  rw [if_pos (by decide), if_pos (by simp)]
  rfl
@[simp] theorem atI_1 {α : Type} (a b : α) (r : List α) : atI (a :: b :: r) 1 = some b := by
  unfold atI ixN
  rw [if_pos (by decide), if_pos (by simp; omega)]
  rfl
theorem atI_ok {α : Type} {xs : List α} {i : Int} (h0 : 0 ≤ i) (h1 : i < xs.length) : atI xs i = xs[i.toNat]? := by
  unfold atI ixN
  rw [if_pos h0, if_pos h1]
  rfl
/-- a comprehension over values that changes nothing -/
theorem comp_vals {bind : D → Option Rho} {cond : Rho → MH → Res Bool} {elt : Rho → MH → Res D} {M : MH} (p : D → Bool) (e : D → D) (ρf : D → Rho) : ∀ (xs : List D) (pre acc : List D), (∀ d ∈ xs, bind d = some (ρf d) ∧ cond (ρf d) M = .ok (p d) M ∧ (p d = true → elt (ρf d) M = .ok (e d) M)) →
    compLoop (.vals (pre ++ xs)) bind cond elt xs.length pre.length acc M = .ok (acc ++ (xs.filter p).map e) M
  | [], pre, acc, _ => by simp [compLoop, srcEnd]
  | x :: xs, pre, acc, h => by
    obtain ⟨h1, h2, h3⟩ := h x (by simp)
    have ih := comp_vals (bind := bind) (cond := cond) (elt := elt) p e ρf xs (pre ++ [x]) (acc ++ (if p x = true then [e x] else [])) (fun d hd => h d (List.mem_cons_of_mem _ hd))
    have hat : srcAt M pre.length (.vals (pre ++ x :: xs)) = some x := by simp [srcAt]
    rw [List.append_assoc, List.singleton_append] at ih
    rw [List.length_append, List.length_singleton] at ih
    simp only [List.length_cons, compLoop, hat, h1, h2, Res.bind]
    cases hp : p x with
    | true =>
      simp only [if_true, h3 hp, Res.bind]
      rw [hp, if_pos rfl] at ih
      rw [ih, List.filter_cons, hp]
      simp
    | false =>
      rw [hp, if_neg Bool.false_ne_true, List.append_nil] at ih
      simp only [Bool.false_eq_true, if_false]
      rw [ih, List.filter_cons, hp]
      simp
theorem comp_all {bind : D → Option Rho} {cond : Rho → MH → Res Bool} {elt : Rho → MH → Res D} {M : MH} (p : D → Bool) (e : D → D) (ρf : D → Rho) (xs : List D) (h : ∀ d ∈ xs, bind d = some (ρf d) ∧ cond (ρf d) M = .ok (p d) M ∧ (p d = true → elt (ρf d) M = .ok (e d) M)) :
    compLoop (.vals xs) bind cond elt xs.length 0 [] M = .ok ((xs.filter p).map e) M := by
  have := comp_vals p e ρf xs [] [] h
  simpa using this
theorem bools_map (p : D → Bool) : ∀ xs : List D, boolsOf (xs.map fun d => .bl (p d)) = some (xs.map p)
  | [] => rfl
  | x :: r => by
    simp only [List.map_cons, boolsOf, bools_map p r]
    rfl
end Mi
/-! Mi18: evaluation by steps. -/
namespace Mi
open PySem PySem.Spec PyProof.Rows L2
section
variable {cl : Calls} {ρ ρ1 : Rho} {M M1 M2 M3 : MH} {a b c e : C} {as r : Cs} {x y z d : D} {k : Bool} {o : Fl} {s r' u : Ss}
theorem e_var {i : Nat} (h : ρ[i]? = some (some d)) : ev cl (.var i) ρ M = .ok d M := by simp only [ev, h]
theorem e_bin {m : Bool} {op : Operator} (h1 : ev cl a ρ M = .ok x M1) (h2 : ev cl b ρ M1 = .ok y M2) (h : binD m op x y M2 = .ok d M3) : ev cl (.bin m op a b) ρ M = .ok d M3 := by
  simp only [ev, h1, h2, Res.bind, h]
theorem e_cmp {op : CmpOp} (h1 : ev cl a ρ M = .ok x M1) (h2 : ev cl b ρ M1 = .ok y M2) (h : cmpD op x y M2 = some k) : ev cl (.cmp op a b) ρ M = .ok (.bl k) M2 := by
  simp only [ev, h1, h2, Res.bind, h]
theorem t_cmp' {op : CmpOp} (h1 : ev cl a ρ M = .ok x M1) (h2 : ev cl b ρ M1 = .ok y M2) (h : cmpD op x y M2 = some k) : evT cl (.cmp op a b) ρ M = .ok k M2 := by
  simp only [evT, h1, h2, Res.bind, h]
theorem t_chain' {op op' : CmpOp} {k' : Bool} (h1 : ev cl a ρ M = .ok x M1) (h2 : ev cl b ρ M1 = .ok y M2) (h : cmpD op x y M2 = some k) (h3 : ev cl c ρ M2 = .ok z M2) (h' : cmpD op' y z M2 = some k') : evT cl (.chain op op' a b c) ρ M = .ok (k && k') M2 := by
  cases k <;> simp only [evT, h1, h2, Res.bind, h, h3, h', Bool.true_and, Bool.false_and]
theorem e_idx (h1 : ev cl a ρ M = .ok x M1) (h2 : ev cl b ρ M1 = .ok y M2) (h : idxD x y M2 = some d) : ev cl (.idx a b) ρ M = .ok d M2 := by
  simp only [ev, h1, h2, Res.bind, h, resO]
theorem e_call {i : Nat} {ds : List D} (h1 : evs cl as ρ M = .ok ds M1) (h : cl i ds M1 = .ok d M2) : ev cl (.call i as) ρ M = .ok d M2 := by
  simp only [ev, h1, Res.bind, h]
theorem t_call {i : Nat} {ds : List D} (h1 : evs cl as ρ M = .ok ds M1) (h : cl i ds M1 = .ok (.bl k) M2) : evT cl (.call i as) ρ M = .ok k M2 := by
  simp only [evT, h1, Res.bind, h, truD]
theorem e_callV {i j : Nat} {ds : List D} (hv : ρ[i]? = some (some (.fn j))) (h1 : evs cl as ρ M = .ok ds M1) (h : cl j ds M1 = .ok d M2) : ev cl (.callV i as) ρ M = .ok d M2 := by
  simp only [ev, hv, h1, Res.bind, h]
theorem e_callK {i : Nat} {y' : Str} (h1 : ev cl a ρ M = .ok x M1) (h : cl i [x] M1 = .ok d M2) : ev cl (.callK i y' a) ρ M = .ok d M2 := by
  simp only [ev, h1, Res.bind, h]
theorem e_bi {m : Bool} {f : String} {ds : List D} (h1 : evs cl as ρ M = .ok ds M1) (h : biD m f ds M1 = .ok d M2) : ev cl (.bi m f as) ρ M = .ok d M2 := by
  simp only [ev, h1, Res.bind, h]
theorem t_bi {m : Bool} {f : String} {ds : List D} (h1 : evs cl as ρ M = .ok ds M1) (h : biD m f ds M1 = .ok (.bl k) M2) : evT cl (.bi m f as) ρ M = .ok k M2 := by
  simp only [evT, h1, Res.bind, h, truD]
theorem e_meth {f : String} {ds : List D} (h0 : ev cl a ρ M = .ok x M1) (hk : mtKind f x M1 = true) (h1 : evs cl as ρ M1 = .ok ds M2) (h : mtD f x ds M2 = .ok d M3) : ev cl (.meth f a as) ρ M = .ok d M3 := by
  simp only [ev, h0, Res.bind, hk, if_true, h1, h]
theorem e_ife_t (h1 : evT cl c ρ M = .ok true M1) (h : ev cl a ρ M1 = .ok d M2) : ev cl (.ife c a b) ρ M = .ok d M2 := by
  simp only [ev, h1, Res.bind, if_true, h]
theorem e_ife_f (h1 : evT cl c ρ M = .ok false M1) (h : ev cl b ρ M1 = .ok d M2) : ev cl (.ife c a b) ρ M = .ok d M2 := by
  simp only [ev, h1, Res.bind, Bool.false_eq_true, if_false, h]
theorem e_tup {es : Cs} {ds : List D} (h1 : evs cl es ρ M = .ok ds M1) (h : ds.length ≤ sizeLine) : ev cl (.tup es) ρ M = .ok (.tup ds) M1 := by
  simp only [ev, h1, Res.bind, h, if_true]
theorem e_lst {m : Bool} {es : Cs} {ds : List D} (h1 : evs cl es ρ M = .ok ds M1) (h : ds.length ≤ sizeLine) (h2 : newL m ds M1 = .ok d M2) : ev cl (.lst m es) ρ M = .ok d M2 := by
  simp only [ev, h1, Res.bind, h, if_true, h2]
theorem e_comp {m : Bool} {elt : C} {tg : Tg} {it : It} {ifs : Co} {src : Src} {ds : List D} (h1 : evI cl it ρ M = .ok src M1) (h : compLoop src (fun d => bindT tg d (wipeR ρ tg.own)) (evIf cl ifs) (ev cl elt) (srcLen src) 0 [] M1 = .ok ds M2) (h2 : newL m ds M2 = .ok d M3) : ev cl (.comp m elt tg it ifs) ρ M = .ok d M3 := by
  simp only [ev, h1, Res.bind, h, h2]
theorem e_not (h1 : ev cl a ρ M = .ok x M1) (h : truD M1 x = some k) : ev cl (.not a) ρ M = .ok (.bl (!k)) M1 := by
  simp only [ev, h1, Res.bind, h]
theorem t_not' (h : evT cl a ρ M = .ok k M1) : evT cl (.not a) ρ M = .ok (!k) M1 := by
  simp only [evT, h, Res.bind]
theorem t_or' (h : evOrT cl as ρ M = .ok k M1) : evT cl (.or as) ρ M = .ok k M1 := by simp only [evT, h]
theorem t_and' (h : evAndT cl as ρ M = .ok k M1) : evT cl (.and as) ρ M = .ok k M1 := by simp only [evT, h]
theorem or_t (h : evT cl a ρ M = .ok true M1) : evOrT cl (.cons a (.cons b r)) ρ M = .ok true M1 := by simp only [evOrT, h, Res.bind, if_true]
theorem or_f (h : evT cl a ρ M = .ok false M1) (h2 : evOrT cl (.cons b r) ρ M1 = .ok k M2) : evOrT cl (.cons a (.cons b r)) ρ M = .ok k M2 := by
  rw [evOrT]
  simp only [h, Res.bind, Bool.false_eq_true, if_false, h2]
theorem or_1 (h : evT cl a ρ M = .ok k M1) : evOrT cl (.cons a .nil) ρ M = .ok k M1 := by simp only [evOrT, h]
theorem and_f (h : evT cl a ρ M = .ok false M1) : evAndT cl (.cons a (.cons b r)) ρ M = .ok false M1 := by simp only [evAndT, h, Res.bind, Bool.false_eq_true, if_false]
theorem and_t (h : evT cl a ρ M = .ok true M1) (h2 : evAndT cl (.cons b r) ρ M1 = .ok k M2) : evAndT cl (.cons a (.cons b r)) ρ M = .ok k M2 := by
  rw [evAndT]
  simp only [h, Res.bind, if_true, h2]
theorem and_1 (h : evT cl a ρ M = .ok k M1) : evAndT cl (.cons a .nil) ρ M = .ok k M1 := by simp only [evAndT, h]
theorem e_and (h : evAnd cl as ρ M = .ok d M1) : ev cl (.and as) ρ M = .ok d M1 := by simp only [ev, h]
theorem e_or (h : evOr cl as ρ M = .ok d M1) : ev cl (.or as) ρ M = .ok d M1 := by simp only [ev, h]
theorem va_f (h : ev cl a ρ M = .ok (.bl false) M1) : evAnd cl (.cons a (.cons b r)) ρ M = .ok (.bl false) M1 := by simp only [evAnd, h, Res.bind, truD]
theorem va_t (h : ev cl a ρ M = .ok (.bl true) M1) (h2 : evAnd cl (.cons b r) ρ M1 = .ok d M2) : evAnd cl (.cons a (.cons b r)) ρ M = .ok d M2 := by
  rw [evAnd]
  simp only [h, Res.bind, truD, h2]
theorem va_1 (h : ev cl a ρ M = .ok d M1) : evAnd cl (.cons a .nil) ρ M = .ok d M1 := by simp only [evAnd, h]
theorem vo_t (h : ev cl a ρ M = .ok (.bl true) M1) : evOr cl (.cons a (.cons b r)) ρ M = .ok (.bl true) M1 := by simp only [evOr, h, Res.bind, truD]
theorem vo_f (h : ev cl a ρ M = .ok (.bl false) M1) (h2 : evOr cl (.cons b r) ρ M1 = .ok d M2) : evOr cl (.cons a (.cons b r)) ρ M = .ok d M2 := by
  rw [evOr]
  simp only [h, Res.bind, truD, h2]
theorem vo_1 (h : ev cl a ρ M = .ok d M1) : evOr cl (.cons a .nil) ρ M = .ok d M1 := by simp only [evOr, h]
/-- and of two bools -/
theorem va_2 {k' : Bool} (h : ev cl a ρ M = .ok (.bl k) M) (h2 : k = true → evAnd cl (.cons b r) ρ M = .ok (.bl k') M) : evAnd cl (.cons a (.cons b r)) ρ M = .ok (.bl (k && k')) M := by
  cases k with
  | true => exact va_t h (h2 rfl)
  | false => exact va_f h
theorem vo_2 {k' : Bool} (h : ev cl a ρ M = .ok (.bl k) M) (h2 : k = false → evOr cl (.cons b r) ρ M = .ok (.bl k') M) : evOr cl (.cons a (.cons b r)) ρ M = .ok (.bl (k || k')) M := by
  cases k with
  | true => exact vo_t h
  | false => exact vo_f h (h2 rfl)
theorem or_2 {k' : Bool} (h : evT cl a ρ M = .ok k M) (h2 : k = false → evOrT cl (.cons b r) ρ M = .ok k' M) : evOrT cl (.cons a (.cons b r)) ρ M = .ok (k || k') M := by
  cases k with
  | true => exact or_t h
  | false => exact or_f h (h2 rfl)
theorem and_2 {k' : Bool} (h : evT cl a ρ M = .ok k M) (h2 : k = true → evAndT cl (.cons b r) ρ M = .ok k' M) : evAndT cl (.cons a (.cons b r)) ρ M = .ok (k && k') M := by
  cases k with
  | true => exact and_t h (h2 rfl)
  | false => exact and_f h
theorem l_nil' : evs cl .nil ρ M = .ok [] M := rfl
theorem l_cons' {ds : List D} (h : ev cl a ρ M = .ok d M1) (h2 : evs cl r ρ M1 = .ok ds M2) : evs cl (.cons a r) ρ M = .ok (d :: ds) M2 := by
  simp only [evs, h, h2, Res.bind]
theorem i_seq' {src : Src} (h : ev cl a ρ M = .ok d M1) (h2 : srcOf M1 d = some src) : evI cl (.seq a) ρ M = .ok src M1 := by
  simp only [evI, h, h2, Res.bind]
/-! statements -/
theorem x_ret (h : ev cl a ρ M = .ok d M1) : exSs cl (.cons (.ret a) u) ρ M = .ok (.rt d) M1 := by simp only [exSs, exS, h, Res.bind]
theorem x_set {i : Nat} (h : ev cl a ρ M = .ok d M1) (h2 : exSs cl u (ρ.set i (some d)) M1 = .ok o M2) : exSs cl (.cons (.set i a) u) ρ M = .ok o M2 := by simp only [exSs, exS, h, Res.bind, h2]
theorem x_par {i j : Nat} (h : ev cl a ρ M = .ok x M1) (h' : ev cl b ρ M1 = .ok y M2) (h2 : exSs cl u ((ρ.set i (some x)).set j (some y)) M2 = .ok o M3) : exSs cl (.cons (.par i j a b) u) ρ M = .ok o M3 := by simp only [exSs, exS, h, h', Res.bind, h2]
theorem x_expr (h : ev cl a ρ M = .ok d M1) (h2 : exSs cl u ρ M1 = .ok o M2) : exSs cl (.cons (.expr a) u) ρ M = .ok o M2 := by simp only [exSs, exS, h, Res.bind, h2]
theorem x_if_rt (h : evT cl c ρ M = .ok true M1) (h2 : exSs cl s ρ M1 = .ok (.rt d) M2) : exSs cl (.cons (.ifs c s r') u) ρ M = .ok (.rt d) M2 := by simp only [exSs, exS, h, Res.bind, if_true, h2]
theorem x_if_nx (h : evT cl c ρ M = .ok true M1) (h2 : exSs cl s ρ M1 = .ok (.nx ρ1) M2) (h3 : exSs cl u ρ1 M2 = .ok o M3) : exSs cl (.cons (.ifs c s r') u) ρ M = .ok o M3 := by simp only [exSs, exS, h, Res.bind, if_true, h2, h3]
theorem x_if_f (h : evT cl c ρ M = .ok false M1) (h3 : exSs cl u ρ M1 = .ok o M3) : exSs cl (.cons (.ifs c s .nil) u) ρ M = .ok o M3 := by simp only [exSs, exS, h, Res.bind, Bool.false_eq_true, if_false, h3]
theorem x_nil : exSs cl .nil ρ M = .ok (.nx ρ) M := rfl
theorem x_for {tg : Tg} {it : It} {src : Src} (h : evI cl it ρ M = .ok src M1) (h2 : forLoop src (bindT tg) (exSs cl s) (srcLen src) 0 ρ M1 = .ok (.nx ρ1) M2) (h3 : exSs cl u ρ1 M2 = .ok o M3) : exSs cl (.cons (.for_ tg it s) u) ρ M = .ok o M3 := by simp only [exSs, exS, h, Res.bind, h2, h3]
theorem x_for_rt {tg : Tg} {it : It} {src : Src} (h : evI cl it ρ M = .ok src M1) (h2 : forLoop src (bindT tg) (exSs cl s) (srcLen src) 0 ρ M1 = .ok (.rt d) M2) : exSs cl (.cons (.for_ tg it s) u) ρ M = .ok (.rt d) M2 := by simp only [exSs, exS, h, Res.bind, h2]
theorem x_setIx {k' : Str} {n : Nat} {kvs : List (Key × D)} (h : ev cl e ρ M = .ok d M1) (h2 : ev cl a ρ M1 = .ok (.ref n) M2) (h3 : M2[n]? = some (.dict kvs)) (h4 : kvs.length < 1000) (h5 : exSs cl u ρ (M2.set n (.dict (putD kvs (.inr k') d))) = .ok o M3) : exSs cl (.cons (.setIx a k' e) u) ρ M = .ok o M3 := by
  simp only [exSs, exS, h, h2, h3, h4, Res.bind, if_true, h5]
theorem c_rt {T : Nat → Option Fn} {n i np ns : Nat} {body : Ss} {ds : List D} (hT : T i = some ⟨np, ns, body⟩) (hl : ds.length = np) (h : exSs (callN T n) body (ds.map some ++ List.replicate (ns - ds.length) none) M = .ok (.rt d) M1) : callN T (n + 1) i ds M = .ok d M1 := by
  simp only [callN, hT, runFn, hl, if_true, Res.bind]
  rw [hl] at h
  rw [h]
end
end Mi
/-! written by gen.py: the defs of the linked text in the small syntax -/
namespace Law
open PySem PySem.Spec PyProof.Rows L2 Mi
def topS (i : Nat) : Stmt := PySem.Challenge.pw_lateforms_k01_kinds_told.main.body.getD i (.Pass ⟨0, 0, 0, 0⟩)
/-- is_integer(thing) -/
def B0 : Ss := (.cons (.ret (.and (.cons (.bi false "isinstance" (.cons (.var 0) (.cons (.glob "int" (.ty "int")) .nil))) (.cons (.not (.bi false "isinstance" (.cons (.var 0) (.cons (.glob "bool" (.ty "bool")) .nil)))) .nil)))) .nil)
/-- is_name(thing) -/
def B1 : Ss := (.cons (.ifs (.or (.cons (.not (.bi false "isinstance" (.cons (.var 0) (.cons (.glob "str" (.ty "str")) .nil)))) (.cons (.not (.chain .LtE .LtE (.const (.int 1)) (.bi false "len" (.cons (.var 0) .nil)) (.glob "LONGEST" (.int 8)))) .nil))) (.cons (.ret (.const (.bl false))) .nil) .nil) (.cons (.ret (.bi false "all" (.cons (.comp false (.cmp .In (.var 1) (.glob "LETTERS" (.str "abcdefghijklmnopqrstuvwxyz"))) (.name 1) (.seq (.var 0)) .none) .nil))) .nil))
/-- is_pair(thing, first, second) -/
def B2 : Ss := (.cons (.ret (.and (.cons (.bi false "isinstance" (.cons (.var 0) (.cons (.glob "tuple" (.ty "tuple")) .nil))) (.cons (.cmp .Eq (.bi false "len" (.cons (.var 0) .nil)) (.const (.int 2))) (.cons (.callV 1 (.cons (.idx (.var 0) (.const (.int 0))) .nil)) (.cons (.callV 2 (.cons (.idx (.var 0) (.const (.int 1))) .nil)) .nil)))))) .nil)
/-- is_range(thing) -/
def B3 : Ss := (.cons (.ret (.and (.cons (.call 2 (.cons (.var 0) (.cons (.glob "is_integer" (.fn 0)) (.cons (.glob "is_integer" (.fn 0)) .nil)))) (.cons (.cmp .LtE (.idx (.var 0) (.const (.int 0))) (.idx (.var 0) (.const (.int 1)))) .nil)))) .nil)
/-- is_kind(thing) -/
def B4 : Ss := (.cons (.ret (.or (.cons (.call 3 (.cons (.var 0) .nil)) (.cons (.call 1 (.cons (.var 0) .nil)) .nil)))) .nil)
/-- rises(names) -/
def B5 : Ss := (.cons (.ret (.bi false "all" (.cons (.comp false (.cmp .Lt (.var 1) (.var 2)) (.tup [1, 2]) (.zip (.var 0) (.slice false (.var 0) (.some (.const (.int 1))) .none)) .none) .nil))) .nil)
/-- is_named_rows(thing, check) -/
def B6 : Ss := (.cons (.ifs (.or (.cons (.not (.bi false "isinstance" (.cons (.var 0) (.cons (.glob "tuple" (.ty "tuple")) .nil)))) (.cons (.not (.bi false "all" (.cons (.comp false (.call 2 (.cons (.var 2) (.cons (.glob "is_name" (.fn 1)) (.cons (.var 1) .nil)))) (.name 2) (.seq (.var 0)) .none) .nil))) .nil))) (.cons (.ret (.const (.bl false))) .nil) .nil) (.cons (.ret (.call 5 (.cons (.comp false (.idx (.var 2) (.const (.int 0))) (.name 2) (.seq (.var 0)) .none) .nil))) .nil))
/-- is_form(thing) -/
def B7 : Ss := (.cons (.ret (.call 6 (.cons (.var 0) (.cons (.glob "is_kind" (.fn 4)) .nil)))) .nil)
/-- links_in(schema) -/
def B8 : Ss := (.cons (.set 1 (.lst true .nil)) (.cons (.for_ (.tup [2, 3]) (.seq (.var 0)) (.cons (.expr (.meth "extend" (.var 1) (.cons (.comp false (.var 5) (.tup [4, 5]) (.seq (.var 3)) (.some (.bi false "isinstance" (.cons (.var 5) (.cons (.glob "str" (.ty "str")) .nil))))) .nil))) .nil)) (.cons (.ret (.var 1)) .nil)))
/-- is_schema(thing) -/
def B9 : Ss := (.cons (.ifs (.or (.cons (.not (.call 6 (.cons (.var 0) (.cons (.glob "is_form" (.fn 7)) .nil)))) (.cons (.cmp .Eq (.var 0) (.tup .nil)) .nil))) (.cons (.ret (.const (.bl false))) .nil) .nil) (.cons (.set 1 (.comp false (.var 2) (.tup [2, 3]) (.seq (.var 0)) .none)) (.cons (.ret (.bi false "all" (.cons (.comp false (.cmp .In (.var 2) (.var 1)) (.name 2) (.seq (.call 8 (.cons (.var 0) .nil))) .none) .nil))) .nil)))
/-- _law_feed(_law_script) -/
def B10 : Ss := (.cons (.ret (.dict ["cells", "at", "left", "count"] (.cons (.bi false "list" (.cons (.slice false (.var 0) .none (.some (.const (.int 63)))) .nil)) (.cons (.const (.int 0)) (.cons (.const (.int 0)) (.cons (.const (.int 0)) .nil)))))) .nil)
/-- _law_draw(_law_feed_here, _law_many) -/
def B11 : Ss := (.cons (.setIx (.var 0) "count" (.bin false .Add (.idx (.var 0) (.const (.str "count"))) (.const (.int 1)))) (.cons (.ifs (.cmp .Gt (.idx (.var 0) (.const (.str "left"))) (.const (.int 0))) (.cons (.set 5 (.bin false .Mod (.bi false "int" (.cons (.idx (.var 0) (.const (.str "left"))) .nil)) (.var 1))) (.cons (.setIx (.var 0) "left" (.bin false .FloorDiv (.idx (.var 0) (.const (.str "left"))) (.var 1))) (.cons (.ret (.var 5)) .nil))) .nil) (.cons (.set 2 (.idx (.var 0) (.const (.str "at")))) (.cons (.setIx (.var 0) "at" (.bin false .Add (.var 2) (.const (.int 1)))) (.cons (.set 3 (.ife (.cmp .NotEq (.idx (.var 0) (.const (.str "cells"))) (.lst false .nil)) (.idx (.idx (.var 0) (.const (.str "cells"))) (.bin false .Mod (.bi false "int" (.cons (.var 2) .nil)) (.bi false "len" (.cons (.idx (.var 0) (.const (.str "cells"))) .nil)))) (.const (.int 37)))) (.cons (.ifs (.and (.cons (.cmp .GtE (.var 3) (.bin false .Pow (.const (.int 10)) (.const (.int 18)))) (.cons (.cmp .Lt (.var 2) (.bi false "len" (.cons (.idx (.var 0) (.const (.str "cells"))) .nil))) .nil))) (.cons (.setIx (.var 0) "left" (.bin false .FloorDiv (.var 3) (.var 1))) (.cons (.ret (.bin false .Mod (.bi false "int" (.cons (.var 3) .nil)) (.var 1))) .nil)) .nil) (.cons (.set 4 (.bin false .Mod (.bi false "int" (.cons (.bin false .Add (.bin false .Add (.bin false .Mod (.bi false "int" (.cons (.var 3) .nil)) (.const (.int 1000000531))) (.bin false .Mult (.const (.int 150001)) (.idx (.var 0) (.const (.str "count"))))) (.const (.int 73))) .nil)) (.const (.int 2147483477)))) (.cons (.set 4 (.bin false .Mod (.bi false "int" (.cons (.bin false .Add (.bin false .Add (.bin false .Mult (.var 4) (.var 4)) (.bin false .Mult (.const (.int 4200013)) (.idx (.var 0) (.const (.str "count"))))) (.const (.int 41))) .nil)) (.const (.int 2147483423)))) (.cons (.ret (.bin false .Mod (.bi false "int" (.cons (.bin false .FloorDiv (.bin false .Mod (.bi false "int" (.cons (.bin false .Add (.bin false .Mult (.var 4) (.var 4)) (.bin false .Mult (.const (.int 89)) (.var 4))) .nil)) (.const (.int 2147483353))) (.const (.int 16))) .nil)) (.var 1))) .nil)))))))))
/-- _law_integer(_law_item) -/
def B12 : Ss := (.cons (.ret (.and (.cons (.bi false "isinstance" (.cons (.var 0) (.cons (.glob "int" (.ty "int")) .nil))) (.cons (.not (.bi false "isinstance" (.cons (.var 0) (.cons (.glob "bool" (.ty "bool")) .nil)))) .nil)))) .nil)
/-- _law_named(_law_item) -/
def B13 : Ss := (.cons (.ifs (.or (.cons (.not (.bi false "isinstance" (.cons (.var 0) (.cons (.glob "str" (.ty "str")) .nil)))) (.cons (.not (.chain .Lt .Lt (.const (.int 0)) (.bi false "len" (.cons (.var 0) .nil)) (.const (.int 9)))) .nil))) (.cons (.ret (.const (.bl false))) .nil) .nil) (.cons (.ret (.cmp .Eq (.comp false (.var 1) (.name 1) (.seq (.var 0)) (.some (.not (.chain .LtE .LtE (.const (.int 97)) (.bi false "ord" (.cons (.var 1) .nil)) (.const (.int 122)))))) (.lst false .nil))) .nil))
/-- _law_rises(_law_some) -/
def B14 : Ss := (.cons (.ret (.cmp .Eq (.comp false (.var 1) (.name 1) (.rng2 (.const (.int 1)) (.bi false "len" (.cons (.var 0) .nil))) (.some (.cmp .GtE (.idx (.var 0) (.bin false .Sub (.var 1) (.const (.int 1)))) (.idx (.var 0) (.var 1))))) (.lst false .nil))) .nil)
/-- _law_kinded(_law_item) -/
def B15 : Ss := (.cons (.ifs (.bi false "isinstance" (.cons (.var 0) (.cons (.glob "str" (.ty "str")) .nil))) (.cons (.ret (.call 13 (.cons (.var 0) .nil))) .nil) .nil) (.cons (.ifs (.or (.cons (.not (.bi false "isinstance" (.cons (.var 0) (.cons (.glob "tuple" (.ty "tuple")) .nil)))) (.cons (.cmp .NotEq (.bi false "len" (.cons (.var 0) .nil)) (.const (.int 2))) (.cons (.not (.call 12 (.cons (.idx (.var 0) (.const (.int 0))) .nil))) .nil)))) (.cons (.ret (.const (.bl false))) .nil) .nil) (.cons (.ret (.and (.cons (.call 12 (.cons (.idx (.var 0) (.const (.int 1))) .nil)) (.cons (.cmp .LtE (.idx (.var 0) (.const (.int 0))) (.idx (.var 0) (.const (.int 1)))) .nil)))) .nil)))
/-- _law_pairs_of(_law_item) -/
def B16 : Ss := (.cons (.ifs (.not (.bi false "isinstance" (.cons (.var 0) (.cons (.glob "tuple" (.ty "tuple")) .nil)))) (.cons (.ret (.const (.bl false))) .nil) .nil) (.cons (.for_ (.name 1) (.seq (.var 0)) (.cons (.ifs (.or (.cons (.not (.bi false "isinstance" (.cons (.var 1) (.cons (.glob "tuple" (.ty "tuple")) .nil)))) (.cons (.cmp .NotEq (.bi false "len" (.cons (.var 1) .nil)) (.const (.int 2))) (.cons (.not (.call 13 (.cons (.idx (.var 1) (.const (.int 0))) .nil))) .nil)))) (.cons (.ret (.const (.bl false))) .nil) .nil) .nil)) (.cons (.ret (.call 14 (.cons (.comp false (.idx (.var 1) (.const (.int 0))) (.name 1) (.seq (.var 0)) .none) .nil))) .nil)))
/-- _law_formed(_law_item) -/
def B17 : Ss := (.cons (.ret (.and (.cons (.call 16 (.cons (.var 0) .nil)) (.cons (.cmp .Eq (.comp false (.var 1) (.name 1) (.seq (.var 0)) (.some (.not (.call 15 (.cons (.idx (.var 1) (.const (.int 1))) .nil))))) (.lst false .nil)) .nil)))) .nil)
/-- _law_schemed(_law_item) -/
def B18 : Ss := (.cons (.ifs (.or (.cons (.not (.call 16 (.cons (.var 0) .nil))) (.cons (.cmp .Eq (.var 0) (.tup .nil)) .nil))) (.cons (.ret (.const (.bl false))) .nil) .nil) (.cons (.set 1 (.comp false (.idx (.var 4) (.const (.int 0))) (.name 4) (.seq (.var 0)) .none)) (.cons (.for_ (.tup [2, 3]) (.seq (.var 0)) (.cons (.ifs (.not (.call 17 (.cons (.var 3) .nil))) (.cons (.ret (.const (.bl false))) .nil) .nil) (.cons (.ifs (.cmp .NotEq (.comp false (.var 6) (.tup [5, 6]) (.seq (.var 3)) (.some (.and (.cons (.bi false "isinstance" (.cons (.var 6) (.cons (.glob "str" (.ty "str")) .nil))) (.cons (.cmp .NotIn (.var 6) (.var 1)) .nil))))) (.lst false .nil)) (.cons (.ret (.const (.bl false))) .nil) .nil) .nil))) (.cons (.ret (.const (.bl true))) .nil))))
/-- _law_schema(_law_feed_here) -/
def B19 : Ss := (.cons (.par 3 4 (.lst true (.cons (.const (.str "a")) (.cons (.const (.str "box")) (.cons (.const (.str "get")) (.cons (.const (.str "lid")) (.cons (.const (.str "zzzzzzzz")) .nil)))))) (.lst true .nil)) (.cons (.set 1 (.bi false "sorted" (.cons (.comp false (.meth "pop" (.var 3) (.cons (.call 11 (.cons (.var 0) (.cons (.bi false "len" (.cons (.var 3) .nil)) .nil))) .nil)) (.name 5) (.rng1 (.bin false .Add (.const (.int 1)) (.call 11 (.cons (.var 0) (.cons (.const (.int 3)) .nil))))) .none) .nil))) (.cons (.for_ (.name 2) (.seq (.var 1)) (.cons (.par 6 7 (.lst true (.cons (.const (.str "a")) (.cons (.const (.str "if")) (.cons (.const (.str "lid")) (.cons (.const (.str "none")) (.cons (.const (.str "of")) (.cons (.const (.str "size")) (.cons (.const (.str "x")) .nil)))))))) (.lst true .nil)) (.cons (.for_ (.name 5) (.rng1 (.call 11 (.cons (.var 0) (.cons (.const (.int 5)) .nil)))) (.cons (.set 8 (.meth "pop" (.var 6) (.cons (.call 11 (.cons (.var 0) (.cons (.bi false "len" (.cons (.var 6) .nil)) .nil))) .nil))) (.cons (.set 9 (.idx (.lst false (.cons (.const (.int 0)) (.cons (.const (.int 0)) (.cons (.neg (.const (.int 3))) (.cons (.const (.int 5)) (.cons (.neg (.const (.int 1000))) (.cons (.const (.int 990)) .nil))))))) (.call 11 (.cons (.var 0) (.cons (.const (.int 6)) .nil))))) (.cons (.set 10 (.tup (.cons (.var 9) (.cons (.bin false .Add (.var 9) (.idx (.lst false (.cons (.const (.int 0)) (.cons (.const (.int 1)) (.cons (.const (.int 3)) (.cons (.const (.int 9)) .nil))))) (.call 11 (.cons (.var 0) (.cons (.const (.int 4)) .nil))))) .nil)))) (.cons (.ifs (.cmp .Eq (.call 11 (.cons (.var 0) (.cons (.const (.int 2)) .nil))) (.const (.int 0))) (.cons (.set 10 (.idx (.var 1) (.call 11 (.cons (.var 0) (.cons (.bi false "len" (.cons (.var 1) .nil)) .nil))))) .nil) .nil) (.cons (.expr (.meth "append" (.var 7) (.cons (.tup (.cons (.var 8) (.cons (.var 10) .nil))) .nil))) .nil)))))) (.cons (.expr (.meth "append" (.var 4) (.cons (.tup (.cons (.var 2) (.cons (.call 20 (.cons (.var 7) .nil)) .nil))) .nil))) .nil)))) (.cons (.ret (.bi false "tuple" (.cons (.var 4) .nil))) .nil))))
/-- _law_ordered(_law_entries) -/
def B20 : Ss := (.cons (.set 1 (.bi false "dict" (.cons (.var 0) .nil))) (.cons (.ret (.bi false "tuple" (.cons (.comp false (.tup (.cons (.var 2) (.cons (.idx (.var 1) (.var 2)) .nil))) (.name 2) (.seq (.bi false "sorted" (.cons (.var 1) .nil))) .none) .nil))) .nil))
/-- _law_odd(_law_feed_here) -/
def B21 : Ss := (.cons (.set 1 (.lst false (.cons (.const .non) (.cons (.const (.bl true)) (.cons (.const (.bl false)) (.cons (.const (.int 0)) (.cons (.neg (.const (.int 1))) (.cons (.const (.int 1)) (.cons (.const (.str "")) (.cons (.const (.str "a")) (.cons (.const (.str "if")) (.cons (.tup .nil) (.cons (.lst false .nil) (.cons (.tup (.cons (.const (.str "self")) .nil)) (.cons (.tup (.cons (.const (.str "none")) .nil)) (.cons (.tup (.cons (.const (.str "x")) .nil)) (.cons (.const (.str "X")) (.cons (.tup (.cons (.const (.str "not")) (.cons (.const (.int 1)) .nil))) (.cons (.tup (.cons (.const (.int 0)) (.cons (.const (.int 1)) .nil))) .nil))))))))))))))))))) (.cons (.ret (.idx (.var 1) (.call 11 (.cons (.var 0) (.cons (.const (.int 17)) .nil))))) .nil))
/-- _law_bent(_law_feed_here, _law_item) -/
def B22 : Ss := (.cons (.ifs (.and (.cons (.bi false "isinstance" (.cons (.var 1) (.cons (.glob "tuple" (.ty "tuple")) .nil))) (.cons (.cmp .NotEq (.var 1) (.tup .nil)) (.cons (.cmp .Gt (.call 11 (.cons (.var 0) (.cons (.const (.int 6)) .nil))) (.const (.int 0))) .nil)))) (.cons (.set 3 (.call 11 (.cons (.var 0) (.cons (.bi false "len" (.cons (.var 1) .nil)) .nil)))) (.cons (.ret (.bin false .Add (.bin false .Add (.slice false (.var 1) .none (.some (.var 3))) (.tup (.cons (.call 22 (.cons (.var 0) (.cons (.idx (.var 1) (.var 3)) .nil))) .nil))) (.slice false (.var 1) (.some (.bin false .Add (.var 3) (.const (.int 1)))) .none))) .nil)) .nil) (.cons (.set 2 (.call 11 (.cons (.var 0) (.cons (.const (.int 9)) .nil)))) (.cons (.ifs (.and (.cons (.bi false "isinstance" (.cons (.var 1) (.cons (.glob "tuple" (.ty "tuple")) .nil))) (.cons (.cmp .Lt (.var 2) (.const (.int 7))) .nil))) (.cons (.set 4 (.lst false (.cons (.bi false "list" (.cons (.var 1) .nil)) (.cons (.slice false (.var 1) (.some (.const (.int 1))) .none) (.cons (.slice false (.var 1) .none (.some (.neg (.const (.int 1))))) (.cons (.bin false .Add (.var 1) (.slice false (.var 1) (.some (.neg (.const (.int 1)))) .none)) .nil)))))) (.cons (.ret (.idx (.bin false .Add (.var 4) (.lst false (.cons (.revT (.var 1)) (.cons (.tup (.cons (.var 1) .nil)) (.cons (.bin false .Add (.var 1) (.tup (.cons (.const .non) .nil))) .nil))))) (.var 2))) .nil)) .nil) (.cons (.ifs (.and (.cons (.bi false "isinstance" (.cons (.var 1) (.cons (.glob "str" (.ty "str")) .nil))) (.cons (.cmp .Lt (.var 2) (.const (.int 6))) .nil))) (.cons (.ret (.idx (.lst false (.cons (.bin false .Add (.var 1) (.const (.str "a"))) (.cons (.slice false (.var 1) .none (.some (.neg (.const (.int 1))))) (.cons (.meth "upper" (.var 1) .nil) (.cons (.bin false .Add (.var 1) (.const (.str " "))) (.cons (.lst false (.cons (.var 1) .nil)) (.cons (.bin false .Add (.var 1) (.const (.str "abcdefgh"))) .nil))))))) (.var 2))) .nil) .nil) (.cons (.ifs (.and (.cons (.bi false "isinstance" (.cons (.var 1) (.cons (.glob "int" (.ty "int")) .nil))) (.cons (.cmp .Lt (.var 2) (.const (.int 6))) .nil))) (.cons (.ret (.idx (.lst false (.cons (.bin false .Add (.var 1) (.const (.int 1))) (.cons (.bin false .Sub (.var 1) (.const (.int 1))) (.cons (.cmp .Eq (.var 1) (.const (.int 1))) (.cons (.bi false "str" (.cons (.var 1) .nil)) (.cons (.bin false .Sub (.const (.int 0)) (.var 1)) (.cons (.lst false (.cons (.var 1) .nil)) .nil))))))) (.var 2))) .nil) .nil) (.cons (.ret (.call 21 (.cons (.var 0) .nil))) .nil))))))
/-- _law_values() -/
def B23 : Ss := (.cons (.set 0 (.bin false .Pow (.const (.int 10)) (.const (.int 59)))) (.cons (.set 1 (.lst true (.cons (.const (.int 0)) (.cons (.const (.int 1)) (.cons (.neg (.const (.int 1))) (.cons (.var 0) (.cons (.const (.bl true)) (.cons (.const (.bl false)) (.cons (.const .non) (.cons (.const (.str "")) (.cons (.const (.str "a")) (.cons (.const (.str "abcdefgh")) (.cons (.const (.str "abcdefghi")) (.cons (.const (.str "A")) (.cons (.const (.str "a1")) (.cons (.const (.str "a b")) (.cons (.const (.str "a_")) (.cons (.const (.str "`a")) (.cons (.const (.str "{")) .nil))))))))))))))))))) (.cons (.expr (.meth "extend" (.var 1) (.cons (.lst false (.cons (.const (.str "none")) (.cons (.const (.str "self")) (.cons (.const (.str "zzzzzzzz")) (.cons (.const (.str "-")) (.cons (.bin false .Mult (.const (.str "a")) (.const (.int 3000))) (.cons (.tup .nil) (.cons (.lst false .nil) (.cons (.lst false (.cons (.const (.str "a")) .nil)) (.cons (.tup (.cons (.const (.str "a")) .nil)) (.cons (.tup (.cons (.const (.str "a")) (.cons (.const (.str "b")) .nil))) (.cons (.tup (.cons (.const (.int 0)) .nil)) .nil)))))))))))) .nil))) (.cons (.expr (.meth "extend" (.var 1) (.cons (.lst false (.cons (.tup (.cons (.const (.int 0)) (.cons (.const (.int 0)) .nil))) (.cons (.tup (.cons (.const (.int 0)) (.cons (.const (.int 1)) .nil))) (.cons (.tup (.cons (.const (.int 1)) (.cons (.const (.int 0)) .nil))) (.cons (.tup (.cons (.neg (.var 0)) (.cons (.var 0) .nil))) (.cons (.tup (.cons (.var 0) (.cons (.var 0) .nil))) (.cons (.tup (.cons (.const (.int 0)) (.cons (.const (.int 1)) (.cons (.const (.int 2)) .nil)))) (.cons (.lst false (.cons (.const (.int 0)) (.cons (.const (.int 1)) .nil))) (.cons (.tup (.cons (.const (.bl true)) (.cons (.const (.int 1)) .nil))) (.cons (.tup (.cons (.const (.int 0)) (.cons (.const (.bl true)) .nil))) (.cons (.tup (.cons (.const (.int 0)) (.cons (.const .non) .nil))) .nil))))))))))) .nil))) (.cons (.expr (.meth "extend" (.var 1) (.cons (.lst false (.cons (.tup (.cons (.const (.str "0")) (.cons (.const (.int 1)) .nil))) (.cons (.tup (.cons (.const (.int 0)) (.cons (.const (.str "1")) .nil))) (.cons (.tup (.cons (.tup (.cons (.const (.int 0)) (.cons (.const (.int 1)) .nil))) .nil)) (.cons (.tup (.cons (.const .non) (.cons (.const .non) .nil))) (.cons (.tup (.cons (.const (.bl false)) (.cons (.const (.bl false)) .nil))) .nil)))))) .nil))) (.cons (.expr (.meth "extend" (.var 1) (.cons (.lst false (.cons (.tup (.cons (.tup (.cons (.const (.str "a")) (.cons (.tup (.cons (.const (.int 0)) (.cons (.const (.int 1)) .nil))) .nil))) .nil)) (.cons (.tup (.cons (.tup (.cons (.const (.str "a")) (.cons (.const (.str "b")) .nil))) .nil)) (.cons (.tup (.cons (.tup (.cons (.const (.str "a")) (.cons (.const (.str "a")) .nil))) (.cons (.tup (.cons (.const (.str "b")) (.cons (.tup (.cons (.const (.int 3)) (.cons (.const (.int 3)) .nil))) .nil))) .nil))) (.cons (.tup (.cons (.tup (.cons (.const (.str "b")) (.cons (.const (.str "a")) .nil))) (.cons (.tup (.cons (.const (.str "a")) (.cons (.const (.str "a")) .nil))) .nil))) .nil))))) .nil))) (.cons (.expr (.meth "extend" (.var 1) (.cons (.lst false (.cons (.tup (.cons (.tup (.cons (.const (.str "a")) (.cons (.const (.str "a")) .nil))) (.cons (.tup (.cons (.const (.str "a")) (.cons (.const (.str "b")) .nil))) .nil))) (.cons (.tup (.cons (.tup (.cons (.const (.str "a")) (.cons (.tup (.cons (.const (.int 1)) (.cons (.const (.int 0)) .nil))) .nil))) .nil)) (.cons (.tup (.cons (.tup (.cons (.const (.str "A")) (.cons (.tup (.cons (.const (.int 0)) (.cons (.const (.int 1)) .nil))) .nil))) .nil)) (.cons (.tup (.cons (.tup (.cons (.const (.str "a")) (.cons (.const (.str "B")) .nil))) .nil)) (.cons (.tup (.cons (.tup (.cons (.const (.str "a")) .nil)) .nil)) .nil)))))) .nil))) (.cons (.expr (.meth "extend" (.var 1) (.cons (.lst false (.cons (.tup (.cons (.tup (.cons (.const (.str "a")) (.cons (.const (.str "b")) (.cons (.const (.str "c")) .nil)))) .nil)) (.cons (.lst false (.cons (.tup (.cons (.const (.str "a")) (.cons (.const (.str "b")) .nil))) .nil)) (.cons (.tup (.cons (.lst false (.cons (.const (.str "a")) (.cons (.const (.str "b")) .nil))) .nil)) (.cons (.tup (.cons (.tup (.cons (.const (.str "a")) (.cons (.const .non) .nil))) .nil)) (.cons (.tup (.cons (.tup (.cons (.const (.str "a")) (.cons (.tup .nil) .nil))) .nil)) (.cons (.tup (.cons (.tup (.cons (.const (.str "")) (.cons (.const (.str "a")) .nil))) .nil)) .nil))))))) .nil))) (.cons (.expr (.meth "extend" (.var 1) (.cons (.lst false (.cons (.tup (.cons (.tup (.cons (.const (.str "a")) (.cons (.tup .nil) .nil))) .nil)) (.cons (.tup (.cons (.tup (.cons (.const (.str "a")) (.cons (.tup .nil) .nil))) (.cons (.tup (.cons (.const (.str "b")) (.cons (.tup .nil) .nil))) .nil))) (.cons (.tup (.cons (.tup (.cons (.const (.str "b")) (.cons (.tup .nil) .nil))) (.cons (.tup (.cons (.const (.str "a")) (.cons (.tup .nil) .nil))) .nil))) (.cons (.tup (.cons (.tup (.cons (.const (.str "a")) (.cons (.tup .nil) .nil))) (.cons (.tup (.cons (.const (.str "a")) (.cons (.tup .nil) .nil))) .nil))) .nil))))) .nil))) (.cons (.expr (.meth "extend" (.var 1) (.cons (.lst false (.cons (.tup (.cons (.tup (.cons (.const (.str "a")) (.cons (.tup (.cons (.tup (.cons (.const (.str "x")) (.cons (.const (.str "a")) .nil))) .nil)) .nil))) .nil)) (.cons (.tup (.cons (.tup (.cons (.const (.str "a")) (.cons (.tup (.cons (.tup (.cons (.const (.str "x")) (.cons (.const (.str "b")) .nil))) .nil)) .nil))) .nil)) (.cons (.tup (.cons (.tup (.cons (.const (.str "a")) (.cons (.tup (.cons (.tup (.cons (.const (.str "x")) (.cons (.const (.str "b")) .nil))) .nil)) .nil))) (.cons (.tup (.cons (.const (.str "b")) (.cons (.tup .nil) .nil))) .nil))) .nil)))) .nil))) (.cons (.expr (.meth "extend" (.var 1) (.cons (.lst false (.cons (.tup (.cons (.tup (.cons (.const (.str "a")) (.cons (.tup (.cons (.tup (.cons (.const (.str "x")) (.cons (.tup (.cons (.const (.int 0)) (.cons (.const (.int 1)) .nil))) .nil))) (.cons (.tup (.cons (.const (.str "x")) (.cons (.tup (.cons (.const (.int 0)) (.cons (.const (.int 1)) .nil))) .nil))) .nil))) .nil))) .nil)) (.cons (.tup (.cons (.tup (.cons (.const (.str "a")) (.cons (.lst false (.cons (.tup (.cons (.const (.str "x")) (.cons (.tup (.cons (.const (.int 0)) (.cons (.const (.int 1)) .nil))) .nil))) .nil)) .nil))) .nil)) (.cons (.tup (.cons (.tup (.cons (.const (.str "a")) (.cons (.tup (.cons (.tup (.cons (.const (.str "x")) (.cons (.tup (.cons (.const (.int 1)) (.cons (.const (.int 0)) .nil))) .nil))) .nil)) .nil))) .nil)) .nil)))) .nil))) (.cons (.expr (.meth "extend" (.var 1) (.cons (.lst false (.cons (.tup (.cons (.tup (.cons (.const (.str "a")) (.cons (.tup .nil) .nil))) (.cons (.lst false (.cons (.const (.str "b")) (.cons (.tup .nil) .nil))) .nil))) (.cons (.lst false (.cons (.tup (.cons (.const (.str "a")) (.cons (.tup .nil) .nil))) .nil)) (.cons (.tup (.cons (.tup (.cons (.const (.str "a")) (.cons (.tup .nil) (.cons (.tup .nil) .nil)))) .nil)) (.cons (.tup (.cons (.tup (.cons (.const (.str "abcdefghi")) (.cons (.tup .nil) .nil))) .nil)) (.cons (.tup (.cons (.tup (.cons (.const (.str "a")) (.cons (.const .non) .nil))) .nil)) .nil)))))) .nil))) (.cons (.expr (.meth "extend" (.var 1) (.cons (.lst false (.cons (.tup (.cons (.tup (.cons (.const (.str "a")) (.cons (.tup (.cons (.tup (.cons (.const (.str "y")) (.cons (.const (.str "c")) .nil))) .nil)) .nil))) (.cons (.tup (.cons (.const (.str "b")) (.cons (.tup .nil) .nil))) (.cons (.tup (.cons (.const (.str "c")) (.cons (.tup (.cons (.tup (.cons (.const (.str "z")) (.cons (.const (.str "a")) .nil))) .nil)) .nil))) .nil)))) (.cons (.tup (.cons (.tup (.cons (.const (.str "a")) (.cons (.tup .nil) .nil))) (.cons (.tup (.cons (.const (.str "b")) (.cons (.tup (.cons (.tup (.cons (.const (.str "z")) (.cons (.const (.str "nobody")) .nil))) .nil)) .nil))) .nil))) .nil))) .nil))) (.cons (.ret (.var 1)) .nil))))))))))))))
/-- _law_wide() -/
def B24 : Ss := (.cons (.set 0 (.const (.str "abcdefghijklmnopqrst"))) (.cons (.set 1 (.comp false (.bin false .Add (.idx (.var 0) (.bin false .FloorDiv (.var 5) (.const (.int 20)))) (.idx (.var 0) (.bin false .Mod (.bi false "int" (.cons (.var 5) .nil)) (.const (.int 20))))) (.name 5) (.rng1 (.const (.int 40))) .none)) (.cons (.set 2 (.bi false "tuple" (.cons (.comp false (.tup (.cons (.var 6) (.cons (.tup (.cons (.const (.int 0)) (.cons (.const (.int 1)) .nil))) .nil))) (.name 6) (.seq (.var 1)) .none) .nil))) (.cons (.set 3 (.bi false "tuple" (.cons (.comp false (.tup (.cons (.var 6) (.cons (.tup (.cons (.tup (.cons (.const (.str "up")) (.cons (.idx (.var 1) (.const (.int 0))) .nil))) .nil)) .nil))) (.name 6) (.seq (.var 1)) .none) .nil))) (.cons (.set 4 (.lst true (.cons (.var 2) (.cons (.bin false .Add (.var 2) (.slice false (.var 2) (.some (.neg (.const (.int 1)))) .none)) (.cons (.bin false .Add (.slice false (.var 2) .none (.some (.neg (.const (.int 1))))) (.tup (.cons (.tup (.cons (.const (.str "zz")) (.cons (.tup (.cons (.const (.int 1)) (.cons (.const (.int 0)) .nil))) .nil))) .nil))) (.cons (.bin false .Add (.slice false (.var 2) .none (.some (.neg (.const (.int 1))))) (.tup (.cons (.tup (.cons (.const (.str "Z")) (.cons (.tup (.cons (.const (.int 0)) (.cons (.const (.int 1)) .nil))) .nil))) .nil))) (.cons (.var 3) .nil))))))) (.cons (.expr (.meth "extend" (.var 4) (.cons (.lst false (.cons (.bin false .Add (.slice false (.var 3) .none (.some (.neg (.const (.int 1))))) (.tup (.cons (.tup (.cons (.const (.str "zz")) (.cons (.tup (.cons (.tup (.cons (.const (.str "up")) (.cons (.const (.str "zy")) .nil))) .nil)) .nil))) .nil))) (.cons (.bin false .Add (.var 3) (.slice false (.var 3) (.some (.neg (.const (.int 1)))) .none)) (.cons (.tup (.cons (.tup (.cons (.const (.str "aa")) (.cons (.var 2) .nil))) .nil)) (.cons (.tup (.cons (.tup (.cons (.const (.str "aa")) (.cons (.revT (.var 2)) .nil))) .nil)) .nil))))) .nil))) (.cons (.ret (.bin false .Add (.var 4) (.lst false (.cons (.tup (.cons (.tup (.cons (.const (.str "aa")) (.cons (.bin false .Add (.slice false (.var 2) .none (.some (.neg (.const (.int 1))))) (.tup (.cons (.tup (.cons (.const (.str "zz")) (.cons (.const (.str "zz")) .nil))) .nil))) .nil))) .nil)) (.cons (.bin false .Add (.slice false (.var 3) .none (.some (.neg (.const (.int 1))))) (.tup (.cons (.tup (.cons (.const (.str "zz")) (.cons (.bin false .Add (.var 2) (.slice false (.var 2) .none (.some (.const (.int 1))))) .nil))) .nil))) .nil))))) .nil)))))))
/-- _law_right(_law_item) -/
def B25 : Ss := (.cons (.set 1 (.lst false (.cons (.call 13 (.cons (.var 0) .nil)) (.cons (.call 15 (.cons (.var 0) .nil)) (.cons (.call 17 (.cons (.var 0) .nil)) (.cons (.call 18 (.cons (.var 0) .nil)) .nil)))))) (.cons (.ret (.cmp .Eq (.bi false "repr" (.cons (.lst false (.cons (.call 1 (.cons (.var 0) .nil)) (.cons (.call 4 (.cons (.var 0) .nil)) (.cons (.call 7 (.cons (.var 0) .nil)) (.cons (.call 9 (.cons (.var 0) .nil)) .nil))))) .nil)) (.bi false "repr" (.cons (.var 1) .nil)))) .nil))
/-- law(_law_script) -/
def B26 : Ss := (.cons (.set 1 (.call 10 (.cons (.var 0) .nil))) (.cons (.set 2 (.bin true .Add (.call 23 .nil) (.stepL false (.call 24 .nil) (.call 11 (.cons (.var 1) (.cons (.const (.int 4)) .nil))) 4))) (.cons (.for_ (.name 3) (.rng1 (.const (.int 2))) (.cons (.set 6 (.call 19 (.cons (.var 1) .nil))) (.cons (.set 7 (.lst true (.cons (.var 6) (.cons (.idx (.idx (.var 6) (.const (.int 0))) (.const (.int 1))) (.cons (.idx (.var 6) (.neg (.const (.int 1)))) (.cons (.slice false (.idx (.idx (.var 6) (.const (.int 0))) (.const (.int 1))) .none (.some (.const (.int 1)))) .nil)))))) (.cons (.expr (.meth "extend" (.var 7) (.cons (.comp false (.var 11) (.tup [10, 11]) (.seq (.idx (.idx (.var 6) (.neg (.const (.int 1)))) (.const (.int 1)))) .none) .nil))) (.cons (.for_ (.name 8) (.seq (.bin false .Add (.var 7) (.bin false .Mult (.lst false (.cons (.var 6) .nil)) (.const (.int 3))))) (.cons (.set 9 (.call 22 (.cons (.var 1) (.cons (.var 8) .nil)))) (.cons (.expr (.meth "extend" (.var 2) (.cons (.lst false (.cons (.var 8) (.cons (.var 9) (.cons (.call 22 (.cons (.var 1) (.cons (.var 9) .nil))) .nil)))) .nil))) .nil))) .nil))))) (.cons (.set 4 (.bi false "repr" (.cons (.var 2) .nil))) (.cons (.ifs (.or (.cons (.cmp .NotEq (.comp false (.var 8) (.name 8) (.seq (.var 2)) (.some (.not (.call 25 (.cons (.var 8) .nil))))) (.lst false .nil)) (.cons (.cmp .NotEq (.bi false "repr" (.cons (.var 2) .nil)) (.var 4)) .nil))) (.cons (.ret (.const (.bl false))) .nil) .nil) (.cons (.set 5 (.lst false (.cons (.callK 1 "thing" (.const (.str "none"))) (.cons (.callK 4 "thing" (.tup (.cons (.const (.int 3)) (.cons (.const (.int 3)) .nil)))) (.cons (.callK 7 "thing" (.tup .nil)) (.cons (.callK 9 "thing" (.tup (.cons (.tup (.cons (.const (.str "a")) (.cons (.tup .nil) .nil))) .nil))) .nil)))))) (.cons (.ret (.cmp .Eq (.bi false "repr" (.cons (.var 5) .nil)) (.bi false "repr" (.cons (.bin false .Mult (.lst false (.cons (.const (.bl true)) .nil)) (.const (.int 4))) .nil)))) .nil)))))))
def cfg : Cfg where
  fnm := ["is_integer", "is_name", "is_pair", "is_range", "is_kind", "rises", "is_named_rows", "is_form", "links_in", "is_schema", "_law_feed", "_law_draw", "_law_integer", "_law_named", "_law_rises", "_law_kinded", "_law_pairs_of", "_law_formed", "_law_schemed", "_law_schema", "_law_ordered", "_law_odd", "_law_bent", "_law_values", "_law_wide", "_law_right", "law"]
  ps := fun i => match i with
    | 0 => ["thing"]
    | 1 => ["thing"]
    | 2 => ["thing", "first", "second"]
    | 3 => ["thing"]
    | 4 => ["thing"]
    | 5 => ["names"]
    | 6 => ["thing", "check"]
    | 7 => ["thing"]
    | 8 => ["schema"]
    | 9 => ["thing"]
    | 10 => ["_law_script"]
    | 11 => ["_law_feed_here", "_law_many"]
    | 12 => ["_law_item"]
    | 13 => ["_law_item"]
    | 14 => ["_law_some"]
    | 15 => ["_law_item"]
    | 16 => ["_law_item"]
    | 17 => ["_law_item"]
    | 18 => ["_law_item"]
    | 19 => ["_law_feed_here"]
    | 20 => ["_law_entries"]
    | 21 => ["_law_feed_here"]
    | 22 => ["_law_feed_here", "_law_item"]
    | 23 => []
    | 24 => []
    | 25 => ["_law_item"]
    | 26 => ["_law_script"]
    | _ => []
  gl := [("int", (.ty "int")), ("bool", (.ty "bool")), ("str", (.ty "str")), ("LONGEST", (.int 8)), ("LETTERS", (.str "abcdefghijklmnopqrstuvwxyz")), ("tuple", (.ty "tuple")), ("is_integer", (.fn 0)), ("is_name", (.fn 1)), ("is_kind", (.fn 4)), ("is_form", (.fn 7))]
  bis := ["all", "dict", "int", "isinstance", "len", "list", "ord", "range", "repr", "sorted", "str", "tuple", "zip"]
abbrev N0 : List Str := ["thing"]
abbrev N1 : List Str := ["thing", "sign"]
abbrev N2 : List Str := ["thing", "first", "second"]
abbrev N3 : List Str := ["thing"]
abbrev N4 : List Str := ["thing"]
abbrev N5 : List Str := ["names", "one", "other"]
abbrev N6 : List Str := ["thing", "check", "own"]
abbrev N7 : List Str := ["thing"]
abbrev N8 : List Str := ["schema", "found", "cls", "form", "field", "kind"]
abbrev N9 : List Str := ["thing", "classes", "cls", "form"]
abbrev N10 : List Str := ["_law_script"]
abbrev N11 : List Str := ["_law_feed_here", "_law_many", "_law_spot", "_law_cell", "_law_mixed", "_law_digit"]
abbrev N12 : List Str := ["_law_item"]
abbrev N13 : List Str := ["_law_item", "_law_sign"]
abbrev N14 : List Str := ["_law_some", "_law_k"]
abbrev N15 : List Str := ["_law_item"]
abbrev N16 : List Str := ["_law_item", "_law_one"]
abbrev N17 : List Str := ["_law_item", "_law_one"]
abbrev N18 : List Str := ["_law_item", "_law_names", "_law_title", "_law_entries", "_law_one", "_law_slot", "_law_sort"]
abbrev N19 : List Str := ["_law_feed_here", "_law_names", "_law_title", "_law_pool", "_law_found", "_law_k", "_law_slots", "_law_entries", "_law_slot", "_law_low", "_law_sort"]
abbrev N20 : List Str := ["_law_entries", "_law_known", "_law_slot"]
abbrev N21 : List Str := ["_law_feed_here", "_law_odd_here"]
abbrev N22 : List Str := ["_law_feed_here", "_law_item", "_law_way", "_law_spot", "_law_some"]
abbrev N23 : List Str := ["_law_far", "_law_found"]
abbrev N24 : List Str := ["_law_signs", "_law_names", "_law_slots", "_law_some", "_law_found", "_law_k", "_law_name"]
abbrev N25 : List Str := ["_law_item", "_law_due_in"]
abbrev N26 : List Str := ["_law_script", "_law_feed_here", "_law_items", "_law_turn", "_law_kept", "_law_told", "_law_scheme", "_law_lot", "_law_item", "_law_once", "_law_slot", "_law_sort"]
def T : Nat → Option Fn
  | 0 => some ⟨1, 1, B0⟩
  | 1 => some ⟨1, 2, B1⟩
  | 2 => some ⟨3, 3, B2⟩
  | 3 => some ⟨1, 1, B3⟩
  | 4 => some ⟨1, 1, B4⟩
  | 5 => some ⟨1, 3, B5⟩
  | 6 => some ⟨2, 3, B6⟩
  | 7 => some ⟨1, 1, B7⟩
  | 8 => some ⟨1, 6, B8⟩
  | 9 => some ⟨1, 4, B9⟩
  | 10 => some ⟨1, 1, B10⟩
  | 11 => some ⟨2, 6, B11⟩
  | 12 => some ⟨1, 1, B12⟩
  | 13 => some ⟨1, 2, B13⟩
  | 14 => some ⟨1, 2, B14⟩
  | 15 => some ⟨1, 1, B15⟩
  | 16 => some ⟨1, 2, B16⟩
  | 17 => some ⟨1, 2, B17⟩
  | 18 => some ⟨1, 7, B18⟩
  | 19 => some ⟨1, 11, B19⟩
  | 20 => some ⟨1, 3, B20⟩
  | 21 => some ⟨1, 2, B21⟩
  | 22 => some ⟨2, 5, B22⟩
  | 23 => some ⟨0, 2, B23⟩
  | 24 => some ⟨0, 7, B24⟩
  | 25 => some ⟨1, 2, B25⟩
  | 26 => some ⟨1, 12, B26⟩
  | _ => none
abbrev S0 : Stmt := topS 3
theorem sc0 : FnScope N0 (cfg.ps 0) (defScope S0) := ⟨rfl, rfl, rfl, by decide +kernel, rfl, by decide +kernel, by decide +kernel⟩
theorem chk0 : mSs cfg N0 (defScope S0) B0 (defBody S0) = true := by decide +kernel
abbrev S1 : Stmt := topS 4
theorem sc1 : FnScope N1 (cfg.ps 1) (defScope S1) := ⟨rfl, rfl, rfl, by decide +kernel, rfl, by decide +kernel, by decide +kernel⟩
theorem chk1 : mSs cfg N1 (defScope S1) B1 (defBody S1) = true := by decide +kernel
abbrev S2 : Stmt := topS 5
theorem sc2 : FnScope N2 (cfg.ps 2) (defScope S2) := ⟨rfl, rfl, rfl, by decide +kernel, rfl, by decide +kernel, by decide +kernel⟩
theorem chk2 : mSs cfg N2 (defScope S2) B2 (defBody S2) = true := by decide +kernel
abbrev S3 : Stmt := topS 6
theorem sc3 : FnScope N3 (cfg.ps 3) (defScope S3) := ⟨rfl, rfl, rfl, by decide +kernel, rfl, by decide +kernel, by decide +kernel⟩
theorem chk3 : mSs cfg N3 (defScope S3) B3 (defBody S3) = true := by decide +kernel
abbrev S4 : Stmt := topS 7
theorem sc4 : FnScope N4 (cfg.ps 4) (defScope S4) := ⟨rfl, rfl, rfl, by decide +kernel, rfl, by decide +kernel, by decide +kernel⟩
theorem chk4 : mSs cfg N4 (defScope S4) B4 (defBody S4) = true := by decide +kernel
abbrev S5 : Stmt := topS 8
theorem sc5 : FnScope N5 (cfg.ps 5) (defScope S5) := ⟨rfl, rfl, rfl, by decide +kernel, rfl, by decide +kernel, by decide +kernel⟩
theorem chk5 : mSs cfg N5 (defScope S5) B5 (defBody S5) = true := by decide +kernel
abbrev S6 : Stmt := topS 9
theorem sc6 : FnScope N6 (cfg.ps 6) (defScope S6) := ⟨rfl, rfl, rfl, by decide +kernel, rfl, by decide +kernel, by decide +kernel⟩
theorem chk6 : mSs cfg N6 (defScope S6) B6 (defBody S6) = true := by decide +kernel
abbrev S7 : Stmt := topS 10
theorem sc7 : FnScope N7 (cfg.ps 7) (defScope S7) := ⟨rfl, rfl, rfl, by decide +kernel, rfl, by decide +kernel, by decide +kernel⟩
theorem chk7 : mSs cfg N7 (defScope S7) B7 (defBody S7) = true := by decide +kernel
abbrev S8 : Stmt := topS 11
theorem sc8 : FnScope N8 (cfg.ps 8) (defScope S8) := ⟨rfl, rfl, rfl, by decide +kernel, rfl, by decide +kernel, by decide +kernel⟩
theorem chk8 : mSs cfg N8 (defScope S8) B8 (defBody S8) = true := by decide +kernel
abbrev S9 : Stmt := topS 12
theorem sc9 : FnScope N9 (cfg.ps 9) (defScope S9) := ⟨rfl, rfl, rfl, by decide +kernel, rfl, by decide +kernel, by decide +kernel⟩
theorem chk9 : mSs cfg N9 (defScope S9) B9 (defBody S9) = true := by decide +kernel
abbrev S10 : Stmt := topS 14
theorem sc10 : FnScope N10 (cfg.ps 10) (defScope S10) := ⟨rfl, rfl, rfl, by decide +kernel, rfl, by decide +kernel, by decide +kernel⟩
theorem chk10 : mSs cfg N10 (defScope S10) B10 (defBody S10) = true := by decide +kernel
abbrev S11 : Stmt := topS 15
theorem sc11 : FnScope N11 (cfg.ps 11) (defScope S11) := ⟨rfl, rfl, rfl, by decide +kernel, rfl, by decide +kernel, by decide +kernel⟩
theorem chk11 : mSs cfg N11 (defScope S11) B11 (defBody S11) = true := by decide +kernel
abbrev S12 : Stmt := topS 16
theorem sc12 : FnScope N12 (cfg.ps 12) (defScope S12) := ⟨rfl, rfl, rfl, by decide +kernel, rfl, by decide +kernel, by decide +kernel⟩
theorem chk12 : mSs cfg N12 (defScope S12) B12 (defBody S12) = true := by decide +kernel
abbrev S13 : Stmt := topS 17
theorem sc13 : FnScope N13 (cfg.ps 13) (defScope S13) := ⟨rfl, rfl, rfl, by decide +kernel, rfl, by decide +kernel, by decide +kernel⟩
theorem chk13 : mSs cfg N13 (defScope S13) B13 (defBody S13) = true := by decide +kernel
abbrev S14 : Stmt := topS 18
theorem sc14 : FnScope N14 (cfg.ps 14) (defScope S14) := ⟨rfl, rfl, rfl, by decide +kernel, rfl, by decide +kernel, by decide +kernel⟩
theorem chk14 : mSs cfg N14 (defScope S14) B14 (defBody S14) = true := by decide +kernel
abbrev S15 : Stmt := topS 19
theorem sc15 : FnScope N15 (cfg.ps 15) (defScope S15) := ⟨rfl, rfl, rfl, by decide +kernel, rfl, by decide +kernel, by decide +kernel⟩
theorem chk15 : mSs cfg N15 (defScope S15) B15 (defBody S15) = true := by decide +kernel
abbrev S16 : Stmt := topS 20
theorem sc16 : FnScope N16 (cfg.ps 16) (defScope S16) := ⟨rfl, rfl, rfl, by decide +kernel, rfl, by decide +kernel, by decide +kernel⟩
theorem chk16 : mSs cfg N16 (defScope S16) B16 (defBody S16) = true := by decide +kernel
abbrev S17 : Stmt := topS 21
theorem sc17 : FnScope N17 (cfg.ps 17) (defScope S17) := ⟨rfl, rfl, rfl, by decide +kernel, rfl, by decide +kernel, by decide +kernel⟩
theorem chk17 : mSs cfg N17 (defScope S17) B17 (defBody S17) = true := by decide +kernel
abbrev S18 : Stmt := topS 22
theorem sc18 : FnScope N18 (cfg.ps 18) (defScope S18) := ⟨rfl, rfl, rfl, by decide +kernel, rfl, by decide +kernel, by decide +kernel⟩
theorem chk18 : mSs cfg N18 (defScope S18) B18 (defBody S18) = true := by decide +kernel
abbrev S19 : Stmt := topS 23
theorem sc19 : FnScope N19 (cfg.ps 19) (defScope S19) := ⟨rfl, rfl, rfl, by decide +kernel, rfl, by decide +kernel, by decide +kernel⟩
theorem chk19 : mSs cfg N19 (defScope S19) B19 (defBody S19) = true := by decide +kernel
abbrev S20 : Stmt := topS 24
theorem sc20 : FnScope N20 (cfg.ps 20) (defScope S20) := ⟨rfl, rfl, rfl, by decide +kernel, rfl, by decide +kernel, by decide +kernel⟩
theorem chk20 : mSs cfg N20 (defScope S20) B20 (defBody S20) = true := by decide +kernel
abbrev S21 : Stmt := topS 25
theorem sc21 : FnScope N21 (cfg.ps 21) (defScope S21) := ⟨rfl, rfl, rfl, by decide +kernel, rfl, by decide +kernel, by decide +kernel⟩
theorem chk21 : mSs cfg N21 (defScope S21) B21 (defBody S21) = true := by decide +kernel
abbrev S22 : Stmt := topS 26
theorem sc22 : FnScope N22 (cfg.ps 22) (defScope S22) := ⟨rfl, rfl, rfl, by decide +kernel, rfl, by decide +kernel, by decide +kernel⟩
theorem chk22 : mSs cfg N22 (defScope S22) B22 (defBody S22) = true := by decide +kernel
abbrev S23 : Stmt := topS 27
theorem sc23 : FnScope N23 (cfg.ps 23) (defScope S23) := ⟨rfl, rfl, rfl, by decide +kernel, rfl, by decide +kernel, by decide +kernel⟩
theorem chk23 : mSs cfg N23 (defScope S23) B23 (defBody S23) = true := by decide +kernel
abbrev S24 : Stmt := topS 28
theorem sc24 : FnScope N24 (cfg.ps 24) (defScope S24) := ⟨rfl, rfl, rfl, by decide +kernel, rfl, by decide +kernel, by decide +kernel⟩
theorem chk24 : mSs cfg N24 (defScope S24) B24 (defBody S24) = true := by decide +kernel
abbrev S25 : Stmt := topS 29
theorem sc25 : FnScope N25 (cfg.ps 25) (defScope S25) := ⟨rfl, rfl, rfl, by decide +kernel, rfl, by decide +kernel, by decide +kernel⟩
theorem chk25 : mSs cfg N25 (defScope S25) B25 (defBody S25) = true := by decide +kernel
abbrev S26 : Stmt := topS 30
theorem sc26 : FnScope N26 (cfg.ps 26) (defScope S26) := ⟨rfl, rfl, rfl, by decide +kernel, rfl, by decide +kernel, by decide +kernel⟩
theorem chk26 : mSs cfg N26 (defScope S26) B26 (defBody S26) = true := by decide +kernel
theorem T_ok : ∀ i f, T i = some f → f.np = (cfg.ps i).length ∧ ∃ x, cfg.fnm[i]? = some x := by
  intro i f h
  match i, h with
  | 0, h => cases h; exact ⟨rfl, _, rfl⟩
  | 1, h => cases h; exact ⟨rfl, _, rfl⟩
  | 2, h => cases h; exact ⟨rfl, _, rfl⟩
  | 3, h => cases h; exact ⟨rfl, _, rfl⟩
  | 4, h => cases h; exact ⟨rfl, _, rfl⟩
  | 5, h => cases h; exact ⟨rfl, _, rfl⟩
  | 6, h => cases h; exact ⟨rfl, _, rfl⟩
  | 7, h => cases h; exact ⟨rfl, _, rfl⟩
  | 8, h => cases h; exact ⟨rfl, _, rfl⟩
  | 9, h => cases h; exact ⟨rfl, _, rfl⟩
  | 10, h => cases h; exact ⟨rfl, _, rfl⟩
  | 11, h => cases h; exact ⟨rfl, _, rfl⟩
  | 12, h => cases h; exact ⟨rfl, _, rfl⟩
  | 13, h => cases h; exact ⟨rfl, _, rfl⟩
  | 14, h => cases h; exact ⟨rfl, _, rfl⟩
  | 15, h => cases h; exact ⟨rfl, _, rfl⟩
  | 16, h => cases h; exact ⟨rfl, _, rfl⟩
  | 17, h => cases h; exact ⟨rfl, _, rfl⟩
  | 18, h => cases h; exact ⟨rfl, _, rfl⟩
  | 19, h => cases h; exact ⟨rfl, _, rfl⟩
  | 20, h => cases h; exact ⟨rfl, _, rfl⟩
  | 21, h => cases h; exact ⟨rfl, _, rfl⟩
  | 22, h => cases h; exact ⟨rfl, _, rfl⟩
  | 23, h => cases h; exact ⟨rfl, _, rfl⟩
  | 24, h => cases h; exact ⟨rfl, _, rfl⟩
  | 25, h => cases h; exact ⟨rfl, _, rfl⟩
  | 26, h => cases h; exact ⟨rfl, _, rfl⟩
  | _ + 27, h => cases h
section
theorem facts {K : PySem.W.Frag} {h : Heap} {mg : Str → Option Value} {f0 f1 f2 f3 f4 f5 f6 f7 f8 f9 f10 f11 f12 f13 f14 f15 f16 f17 f18 f19 f20 f21 f22 f23 f24 f25 f26 : Addr} (X : K.In h) (G : h.Ns mainGlobals mg)
    {od0 an0 od1 an1 od2 an2 od3 an3 od4 an4 od5 an5 od6 an6 od7 an7 od8 an8 od9 an9 od10 an10 od11 an11 od12 an12 od13 an13 od14 an14 od15 an15 od16 an16 od17 an17 od18 an18 od19 an19 od20 an20 od21 an21 od22 an22 od23 an23 od24 an24 od25 an25 od26 an26 : Option Addr} {sl0 sl1 sl2 sl3 sl4 sl5 sl6 sl7 sl8 sl9 sl10 sl11 sl12 sl13 sl14 sl15 sl16 sl17 sl18 sl19 sl20 sl21 sl22 sl23 sl24 sl25 sl26 : Array (Option Value)} {oc0 kV0 dc0 pm0 cd0 ct0 oc1 kV1 dc1 pm1 cd1 ct1 oc2 kV2 dc2 pm2 cd2 ct2 oc3 kV3 dc3 pm3 cd3 ct3 oc4 kV4 dc4 pm4 cd4 ct4 oc5 kV5 dc5 pm5 cd5 ct5 oc6 kV6 dc6 pm6 cd6 ct6 oc7 kV7 dc7 pm7 cd7 ct7 oc8 kV8 dc8 pm8 cd8 ct8 oc9 kV9 dc9 pm9 cd9 ct9 oc10 kV10 dc10 pm10 cd10 ct10 oc11 kV11 dc11 pm11 cd11 ct11 oc12 kV12 dc12 pm12 cd12 ct12 oc13 kV13 dc13 pm13 cd13 ct13 oc14 kV14 dc14 pm14 cd14 ct14 oc15 kV15 dc15 pm15 cd15 ct15 oc16 kV16 dc16 pm16 cd16 ct16 oc17 kV17 dc17 pm17 cd17 ct17 oc18 kV18 dc18 pm18 cd18 ct18 oc19 kV19 dc19 pm19 cd19 ct19 oc20 kV20 dc20 pm20 cd20 ct20 oc21 kV21 dc21 pm21 cd21 ct21 oc22 kV22 dc22 pm22 cd22 ct22 oc23 kV23 dc23 pm23 cd23 ct23 oc24 kV24 dc24 pm24 cd24 ct24 oc25 kV25 dc25 pm25 cd25 ct25 oc26 kV26 dc26 pm26 cd26 ct26 : Value}
    (a0 : PySem.W.nsIn K mainGlobals "is_integer" = some (some (.ref f0))) (l0 : K.lookup f0 = some ⟨oc0, od0, .func (PySem.W.fnOf "is_integer" "is_integer" (defArgs S0) (defBody S0) (defScope S0) .none kV0 dc0 pm0 an0 cd0 ct0), sl0⟩) (c0 : PySem.W.codeIn K cd0 "is_integer" = true) (k0 : PySem.W.keepIn K (.ref f0) = true)
    (a1 : PySem.W.nsIn K mainGlobals "is_name" = some (some (.ref f1))) (l1 : K.lookup f1 = some ⟨oc1, od1, .func (PySem.W.fnOf "is_name" "is_name" (defArgs S1) (defBody S1) (defScope S1) .none kV1 dc1 pm1 an1 cd1 ct1), sl1⟩) (c1 : PySem.W.codeIn K cd1 "is_name" = true) (k1 : PySem.W.keepIn K (.ref f1) = true)
    (a2 : PySem.W.nsIn K mainGlobals "is_pair" = some (some (.ref f2))) (l2 : K.lookup f2 = some ⟨oc2, od2, .func (PySem.W.fnOf "is_pair" "is_pair" (defArgs S2) (defBody S2) (defScope S2) .none kV2 dc2 pm2 an2 cd2 ct2), sl2⟩) (c2 : PySem.W.codeIn K cd2 "is_pair" = true) (k2 : PySem.W.keepIn K (.ref f2) = true)
    (a3 : PySem.W.nsIn K mainGlobals "is_range" = some (some (.ref f3))) (l3 : K.lookup f3 = some ⟨oc3, od3, .func (PySem.W.fnOf "is_range" "is_range" (defArgs S3) (defBody S3) (defScope S3) .none kV3 dc3 pm3 an3 cd3 ct3), sl3⟩) (c3 : PySem.W.codeIn K cd3 "is_range" = true) (k3 : PySem.W.keepIn K (.ref f3) = true)
    (a4 : PySem.W.nsIn K mainGlobals "is_kind" = some (some (.ref f4))) (l4 : K.lookup f4 = some ⟨oc4, od4, .func (PySem.W.fnOf "is_kind" "is_kind" (defArgs S4) (defBody S4) (defScope S4) .none kV4 dc4 pm4 an4 cd4 ct4), sl4⟩) (c4 : PySem.W.codeIn K cd4 "is_kind" = true) (k4 : PySem.W.keepIn K (.ref f4) = true)
    (a5 : PySem.W.nsIn K mainGlobals "rises" = some (some (.ref f5))) (l5 : K.lookup f5 = some ⟨oc5, od5, .func (PySem.W.fnOf "rises" "rises" (defArgs S5) (defBody S5) (defScope S5) .none kV5 dc5 pm5 an5 cd5 ct5), sl5⟩) (c5 : PySem.W.codeIn K cd5 "rises" = true) (k5 : PySem.W.keepIn K (.ref f5) = true)
    (a6 : PySem.W.nsIn K mainGlobals "is_named_rows" = some (some (.ref f6))) (l6 : K.lookup f6 = some ⟨oc6, od6, .func (PySem.W.fnOf "is_named_rows" "is_named_rows" (defArgs S6) (defBody S6) (defScope S6) .none kV6 dc6 pm6 an6 cd6 ct6), sl6⟩) (c6 : PySem.W.codeIn K cd6 "is_named_rows" = true) (k6 : PySem.W.keepIn K (.ref f6) = true)
    (a7 : PySem.W.nsIn K mainGlobals "is_form" = some (some (.ref f7))) (l7 : K.lookup f7 = some ⟨oc7, od7, .func (PySem.W.fnOf "is_form" "is_form" (defArgs S7) (defBody S7) (defScope S7) .none kV7 dc7 pm7 an7 cd7 ct7), sl7⟩) (c7 : PySem.W.codeIn K cd7 "is_form" = true) (k7 : PySem.W.keepIn K (.ref f7) = true)
    (a8 : PySem.W.nsIn K mainGlobals "links_in" = some (some (.ref f8))) (l8 : K.lookup f8 = some ⟨oc8, od8, .func (PySem.W.fnOf "links_in" "links_in" (defArgs S8) (defBody S8) (defScope S8) .none kV8 dc8 pm8 an8 cd8 ct8), sl8⟩) (c8 : PySem.W.codeIn K cd8 "links_in" = true) (k8 : PySem.W.keepIn K (.ref f8) = true)
    (a9 : PySem.W.nsIn K mainGlobals "is_schema" = some (some (.ref f9))) (l9 : K.lookup f9 = some ⟨oc9, od9, .func (PySem.W.fnOf "is_schema" "is_schema" (defArgs S9) (defBody S9) (defScope S9) .none kV9 dc9 pm9 an9 cd9 ct9), sl9⟩) (c9 : PySem.W.codeIn K cd9 "is_schema" = true) (k9 : PySem.W.keepIn K (.ref f9) = true)
    (a10 : PySem.W.nsIn K mainGlobals "_law_feed" = some (some (.ref f10))) (l10 : K.lookup f10 = some ⟨oc10, od10, .func (PySem.W.fnOf "_law_feed" "_law_feed" (defArgs S10) (defBody S10) (defScope S10) .none kV10 dc10 pm10 an10 cd10 ct10), sl10⟩) (c10 : PySem.W.codeIn K cd10 "_law_feed" = true) (k10 : PySem.W.keepIn K (.ref f10) = true)
    (a11 : PySem.W.nsIn K mainGlobals "_law_draw" = some (some (.ref f11))) (l11 : K.lookup f11 = some ⟨oc11, od11, .func (PySem.W.fnOf "_law_draw" "_law_draw" (defArgs S11) (defBody S11) (defScope S11) .none kV11 dc11 pm11 an11 cd11 ct11), sl11⟩) (c11 : PySem.W.codeIn K cd11 "_law_draw" = true) (k11 : PySem.W.keepIn K (.ref f11) = true)
    (a12 : PySem.W.nsIn K mainGlobals "_law_integer" = some (some (.ref f12))) (l12 : K.lookup f12 = some ⟨oc12, od12, .func (PySem.W.fnOf "_law_integer" "_law_integer" (defArgs S12) (defBody S12) (defScope S12) .none kV12 dc12 pm12 an12 cd12 ct12), sl12⟩) (c12 : PySem.W.codeIn K cd12 "_law_integer" = true) (k12 : PySem.W.keepIn K (.ref f12) = true)
    (a13 : PySem.W.nsIn K mainGlobals "_law_named" = some (some (.ref f13))) (l13 : K.lookup f13 = some ⟨oc13, od13, .func (PySem.W.fnOf "_law_named" "_law_named" (defArgs S13) (defBody S13) (defScope S13) .none kV13 dc13 pm13 an13 cd13 ct13), sl13⟩) (c13 : PySem.W.codeIn K cd13 "_law_named" = true) (k13 : PySem.W.keepIn K (.ref f13) = true)
    (a14 : PySem.W.nsIn K mainGlobals "_law_rises" = some (some (.ref f14))) (l14 : K.lookup f14 = some ⟨oc14, od14, .func (PySem.W.fnOf "_law_rises" "_law_rises" (defArgs S14) (defBody S14) (defScope S14) .none kV14 dc14 pm14 an14 cd14 ct14), sl14⟩) (c14 : PySem.W.codeIn K cd14 "_law_rises" = true) (k14 : PySem.W.keepIn K (.ref f14) = true)
    (a15 : PySem.W.nsIn K mainGlobals "_law_kinded" = some (some (.ref f15))) (l15 : K.lookup f15 = some ⟨oc15, od15, .func (PySem.W.fnOf "_law_kinded" "_law_kinded" (defArgs S15) (defBody S15) (defScope S15) .none kV15 dc15 pm15 an15 cd15 ct15), sl15⟩) (c15 : PySem.W.codeIn K cd15 "_law_kinded" = true) (k15 : PySem.W.keepIn K (.ref f15) = true)
    (a16 : PySem.W.nsIn K mainGlobals "_law_pairs_of" = some (some (.ref f16))) (l16 : K.lookup f16 = some ⟨oc16, od16, .func (PySem.W.fnOf "_law_pairs_of" "_law_pairs_of" (defArgs S16) (defBody S16) (defScope S16) .none kV16 dc16 pm16 an16 cd16 ct16), sl16⟩) (c16 : PySem.W.codeIn K cd16 "_law_pairs_of" = true) (k16 : PySem.W.keepIn K (.ref f16) = true)
    (a17 : PySem.W.nsIn K mainGlobals "_law_formed" = some (some (.ref f17))) (l17 : K.lookup f17 = some ⟨oc17, od17, .func (PySem.W.fnOf "_law_formed" "_law_formed" (defArgs S17) (defBody S17) (defScope S17) .none kV17 dc17 pm17 an17 cd17 ct17), sl17⟩) (c17 : PySem.W.codeIn K cd17 "_law_formed" = true) (k17 : PySem.W.keepIn K (.ref f17) = true)
    (a18 : PySem.W.nsIn K mainGlobals "_law_schemed" = some (some (.ref f18))) (l18 : K.lookup f18 = some ⟨oc18, od18, .func (PySem.W.fnOf "_law_schemed" "_law_schemed" (defArgs S18) (defBody S18) (defScope S18) .none kV18 dc18 pm18 an18 cd18 ct18), sl18⟩) (c18 : PySem.W.codeIn K cd18 "_law_schemed" = true) (k18 : PySem.W.keepIn K (.ref f18) = true)
    (a19 : PySem.W.nsIn K mainGlobals "_law_schema" = some (some (.ref f19))) (l19 : K.lookup f19 = some ⟨oc19, od19, .func (PySem.W.fnOf "_law_schema" "_law_schema" (defArgs S19) (defBody S19) (defScope S19) .none kV19 dc19 pm19 an19 cd19 ct19), sl19⟩) (c19 : PySem.W.codeIn K cd19 "_law_schema" = true) (k19 : PySem.W.keepIn K (.ref f19) = true)
    (a20 : PySem.W.nsIn K mainGlobals "_law_ordered" = some (some (.ref f20))) (l20 : K.lookup f20 = some ⟨oc20, od20, .func (PySem.W.fnOf "_law_ordered" "_law_ordered" (defArgs S20) (defBody S20) (defScope S20) .none kV20 dc20 pm20 an20 cd20 ct20), sl20⟩) (c20 : PySem.W.codeIn K cd20 "_law_ordered" = true) (k20 : PySem.W.keepIn K (.ref f20) = true)
    (a21 : PySem.W.nsIn K mainGlobals "_law_odd" = some (some (.ref f21))) (l21 : K.lookup f21 = some ⟨oc21, od21, .func (PySem.W.fnOf "_law_odd" "_law_odd" (defArgs S21) (defBody S21) (defScope S21) .none kV21 dc21 pm21 an21 cd21 ct21), sl21⟩) (c21 : PySem.W.codeIn K cd21 "_law_odd" = true) (k21 : PySem.W.keepIn K (.ref f21) = true)
    (a22 : PySem.W.nsIn K mainGlobals "_law_bent" = some (some (.ref f22))) (l22 : K.lookup f22 = some ⟨oc22, od22, .func (PySem.W.fnOf "_law_bent" "_law_bent" (defArgs S22) (defBody S22) (defScope S22) .none kV22 dc22 pm22 an22 cd22 ct22), sl22⟩) (c22 : PySem.W.codeIn K cd22 "_law_bent" = true) (k22 : PySem.W.keepIn K (.ref f22) = true)
    (a23 : PySem.W.nsIn K mainGlobals "_law_values" = some (some (.ref f23))) (l23 : K.lookup f23 = some ⟨oc23, od23, .func (PySem.W.fnOf "_law_values" "_law_values" (defArgs S23) (defBody S23) (defScope S23) .none kV23 dc23 pm23 an23 cd23 ct23), sl23⟩) (c23 : PySem.W.codeIn K cd23 "_law_values" = true) (k23 : PySem.W.keepIn K (.ref f23) = true)
    (a24 : PySem.W.nsIn K mainGlobals "_law_wide" = some (some (.ref f24))) (l24 : K.lookup f24 = some ⟨oc24, od24, .func (PySem.W.fnOf "_law_wide" "_law_wide" (defArgs S24) (defBody S24) (defScope S24) .none kV24 dc24 pm24 an24 cd24 ct24), sl24⟩) (c24 : PySem.W.codeIn K cd24 "_law_wide" = true) (k24 : PySem.W.keepIn K (.ref f24) = true)
    (a25 : PySem.W.nsIn K mainGlobals "_law_right" = some (some (.ref f25))) (l25 : K.lookup f25 = some ⟨oc25, od25, .func (PySem.W.fnOf "_law_right" "_law_right" (defArgs S25) (defBody S25) (defScope S25) .none kV25 dc25 pm25 an25 cd25 ct25), sl25⟩) (c25 : PySem.W.codeIn K cd25 "_law_right" = true) (k25 : PySem.W.keepIn K (.ref f25) = true)
    (a26 : PySem.W.nsIn K mainGlobals "law" = some (some (.ref f26))) (l26 : K.lookup f26 = some ⟨oc26, od26, .func (PySem.W.fnOf "law" "law" (defArgs S26) (defBody S26) (defScope S26) .none kV26 dc26 pm26 an26 cd26 ct26), sl26⟩) (c26 : PySem.W.codeIn K cd26 "law" = true) (k26 : PySem.W.keepIn K (.ref f26) = true)
    {t0 : Tok} (gq0 : PySem.W.nsIn K mainGlobals "LONGEST" = some (some (.int 8 t0)))
    {t1 : Tok} (gq1 : PySem.W.nsIn K mainGlobals "LETTERS" = some (some (.str "abcdefghijklmnopqrstuvwxyz" t1)))
    (zq0 : PySem.W.nsIn K mainGlobals "all" = some none)
    (zq1 : PySem.W.nsIn K mainGlobals "bool" = some none)
    (zq2 : PySem.W.nsIn K mainGlobals "dict" = some none)
    (zq3 : PySem.W.nsIn K mainGlobals "int" = some none)
    (zq4 : PySem.W.nsIn K mainGlobals "isinstance" = some none)
    (zq5 : PySem.W.nsIn K mainGlobals "len" = some none)
    (zq6 : PySem.W.nsIn K mainGlobals "list" = some none)
    (zq7 : PySem.W.nsIn K mainGlobals "ord" = some none)
    (zq8 : PySem.W.nsIn K mainGlobals "range" = some none)
    (zq9 : PySem.W.nsIn K mainGlobals "repr" = some none)
    (zq10 : PySem.W.nsIn K mainGlobals "sorted" = some none)
    (zq11 : PySem.W.nsIn K mainGlobals "str" = some none)
    (zq12 : PySem.W.nsIn K mainGlobals "tuple" = some none)
    (zq13 : PySem.W.nsIn K mainGlobals "zip" = some none)
    : ∃ ad : Nat → Addr, (∀ i x, cfg.fnm[i]? = some x → DefOk cfg ⟨ad, K⟩ T K mg i x) ∧ (∀ p ∈ cfg.gl, GOk mg ⟨ad, K⟩ p.1 p.2) ∧ ∀ x ∈ cfg.bis, mg x = none := by
  have F0 := fun_mk (st := S0) l0 c0 k0
  have F1 := fun_mk (st := S1) l1 c1 k1
  have F2 := fun_mk (st := S2) l2 c2 k2
  have F3 := fun_mk (st := S3) l3 c3 k3
  have F4 := fun_mk (st := S4) l4 c4 k4
  have F5 := fun_mk (st := S5) l5 c5 k5
  have F6 := fun_mk (st := S6) l6 c6 k6
  have F7 := fun_mk (st := S7) l7 c7 k7
  have F8 := fun_mk (st := S8) l8 c8 k8
  have F9 := fun_mk (st := S9) l9 c9 k9
  have F10 := fun_mk (st := S10) l10 c10 k10
  have F11 := fun_mk (st := S11) l11 c11 k11
  have F12 := fun_mk (st := S12) l12 c12 k12
  have F13 := fun_mk (st := S13) l13 c13 k13
  have F14 := fun_mk (st := S14) l14 c14 k14
  have F15 := fun_mk (st := S15) l15 c15 k15
  have F16 := fun_mk (st := S16) l16 c16 k16
  have F17 := fun_mk (st := S17) l17 c17 k17
  have F18 := fun_mk (st := S18) l18 c18 k18
  have F19 := fun_mk (st := S19) l19 c19 k19
  have F20 := fun_mk (st := S20) l20 c20 k20
  have F21 := fun_mk (st := S21) l21 c21 k21
  have F22 := fun_mk (st := S22) l22 c22 k22
  have F23 := fun_mk (st := S23) l23 c23 k23
  have F24 := fun_mk (st := S24) l24 c24 k24
  have F25 := fun_mk (st := S25) l25 c25 k25
  have F26 := fun_mk (st := S26) l26 c26 k26
  refine ⟨fun i => [f0, f1, f2, f3, f4, f5, f6, f7, f8, f9, f10, f11, f12, f13, f14, f15, f16, f17, f18, f19, f20, f21, f22, f23, f24, f25, f26].getD i 0, ?_, ?_, ?_⟩
  · intro i x h
    match i, h with
    | 0, h => cases h; exact ⟨PySem.W.mg_of X G a0, S0, N0, _, ⟨1, 1, B0⟩, F0, sc0, rfl, rfl, rfl, chk0, F0.binds (ps := ["thing"]) (fun _ _ _ _ _ _ us hl => match us, hl with | [_], _ => rfl), fun y hy s u => by cases hy; exact .of_eq rfl⟩
    | 1, h => cases h; exact ⟨PySem.W.mg_of X G a1, S1, N1, _, ⟨1, 2, B1⟩, F1, sc1, rfl, rfl, rfl, chk1, F1.binds (ps := ["thing"]) (fun _ _ _ _ _ _ us hl => match us, hl with | [_], _ => rfl), fun y hy s u => by cases hy; exact .of_eq rfl⟩
    | 2, h => cases h; exact ⟨PySem.W.mg_of X G a2, S2, N2, _, ⟨3, 3, B2⟩, F2, sc2, rfl, rfl, rfl, chk2, F2.binds (ps := ["thing", "first", "second"]) (fun _ _ _ _ _ _ us hl => match us, hl with | [_, _, _], _ => rfl), fun y hy => by cases hy⟩
    | 3, h => cases h; exact ⟨PySem.W.mg_of X G a3, S3, N3, _, ⟨1, 1, B3⟩, F3, sc3, rfl, rfl, rfl, chk3, F3.binds (ps := ["thing"]) (fun _ _ _ _ _ _ us hl => match us, hl with | [_], _ => rfl), fun y hy s u => by cases hy; exact .of_eq rfl⟩
    | 4, h => cases h; exact ⟨PySem.W.mg_of X G a4, S4, N4, _, ⟨1, 1, B4⟩, F4, sc4, rfl, rfl, rfl, chk4, F4.binds (ps := ["thing"]) (fun _ _ _ _ _ _ us hl => match us, hl with | [_], _ => rfl), fun y hy s u => by cases hy; exact .of_eq rfl⟩
    | 5, h => cases h; exact ⟨PySem.W.mg_of X G a5, S5, N5, _, ⟨1, 3, B5⟩, F5, sc5, rfl, rfl, rfl, chk5, F5.binds (ps := ["names"]) (fun _ _ _ _ _ _ us hl => match us, hl with | [_], _ => rfl), fun y hy s u => by cases hy; exact .of_eq rfl⟩
    | 6, h => cases h; exact ⟨PySem.W.mg_of X G a6, S6, N6, _, ⟨2, 3, B6⟩, F6, sc6, rfl, rfl, rfl, chk6, F6.binds (ps := ["thing", "check"]) (fun _ _ _ _ _ _ us hl => match us, hl with | [_, _], _ => rfl), fun y hy => by cases hy⟩
    | 7, h => cases h; exact ⟨PySem.W.mg_of X G a7, S7, N7, _, ⟨1, 1, B7⟩, F7, sc7, rfl, rfl, rfl, chk7, F7.binds (ps := ["thing"]) (fun _ _ _ _ _ _ us hl => match us, hl with | [_], _ => rfl), fun y hy s u => by cases hy; exact .of_eq rfl⟩
    | 8, h => cases h; exact ⟨PySem.W.mg_of X G a8, S8, N8, _, ⟨1, 6, B8⟩, F8, sc8, rfl, rfl, rfl, chk8, F8.binds (ps := ["schema"]) (fun _ _ _ _ _ _ us hl => match us, hl with | [_], _ => rfl), fun y hy s u => by cases hy; exact .of_eq rfl⟩
    | 9, h => cases h; exact ⟨PySem.W.mg_of X G a9, S9, N9, _, ⟨1, 4, B9⟩, F9, sc9, rfl, rfl, rfl, chk9, F9.binds (ps := ["thing"]) (fun _ _ _ _ _ _ us hl => match us, hl with | [_], _ => rfl), fun y hy s u => by cases hy; exact .of_eq rfl⟩
    | 10, h => cases h; exact ⟨PySem.W.mg_of X G a10, S10, N10, _, ⟨1, 1, B10⟩, F10, sc10, rfl, rfl, rfl, chk10, F10.binds (ps := ["_law_script"]) (fun _ _ _ _ _ _ us hl => match us, hl with | [_], _ => rfl), fun y hy s u => by cases hy; exact .of_eq rfl⟩
    | 11, h => cases h; exact ⟨PySem.W.mg_of X G a11, S11, N11, _, ⟨2, 6, B11⟩, F11, sc11, rfl, rfl, rfl, chk11, F11.binds (ps := ["_law_feed_here", "_law_many"]) (fun _ _ _ _ _ _ us hl => match us, hl with | [_, _], _ => rfl), fun y hy => by cases hy⟩
    | 12, h => cases h; exact ⟨PySem.W.mg_of X G a12, S12, N12, _, ⟨1, 1, B12⟩, F12, sc12, rfl, rfl, rfl, chk12, F12.binds (ps := ["_law_item"]) (fun _ _ _ _ _ _ us hl => match us, hl with | [_], _ => rfl), fun y hy s u => by cases hy; exact .of_eq rfl⟩
    | 13, h => cases h; exact ⟨PySem.W.mg_of X G a13, S13, N13, _, ⟨1, 2, B13⟩, F13, sc13, rfl, rfl, rfl, chk13, F13.binds (ps := ["_law_item"]) (fun _ _ _ _ _ _ us hl => match us, hl with | [_], _ => rfl), fun y hy s u => by cases hy; exact .of_eq rfl⟩
    | 14, h => cases h; exact ⟨PySem.W.mg_of X G a14, S14, N14, _, ⟨1, 2, B14⟩, F14, sc14, rfl, rfl, rfl, chk14, F14.binds (ps := ["_law_some"]) (fun _ _ _ _ _ _ us hl => match us, hl with | [_], _ => rfl), fun y hy s u => by cases hy; exact .of_eq rfl⟩
    | 15, h => cases h; exact ⟨PySem.W.mg_of X G a15, S15, N15, _, ⟨1, 1, B15⟩, F15, sc15, rfl, rfl, rfl, chk15, F15.binds (ps := ["_law_item"]) (fun _ _ _ _ _ _ us hl => match us, hl with | [_], _ => rfl), fun y hy s u => by cases hy; exact .of_eq rfl⟩
    | 16, h => cases h; exact ⟨PySem.W.mg_of X G a16, S16, N16, _, ⟨1, 2, B16⟩, F16, sc16, rfl, rfl, rfl, chk16, F16.binds (ps := ["_law_item"]) (fun _ _ _ _ _ _ us hl => match us, hl with | [_], _ => rfl), fun y hy s u => by cases hy; exact .of_eq rfl⟩
    | 17, h => cases h; exact ⟨PySem.W.mg_of X G a17, S17, N17, _, ⟨1, 2, B17⟩, F17, sc17, rfl, rfl, rfl, chk17, F17.binds (ps := ["_law_item"]) (fun _ _ _ _ _ _ us hl => match us, hl with | [_], _ => rfl), fun y hy s u => by cases hy; exact .of_eq rfl⟩
    | 18, h => cases h; exact ⟨PySem.W.mg_of X G a18, S18, N18, _, ⟨1, 7, B18⟩, F18, sc18, rfl, rfl, rfl, chk18, F18.binds (ps := ["_law_item"]) (fun _ _ _ _ _ _ us hl => match us, hl with | [_], _ => rfl), fun y hy s u => by cases hy; exact .of_eq rfl⟩
    | 19, h => cases h; exact ⟨PySem.W.mg_of X G a19, S19, N19, _, ⟨1, 11, B19⟩, F19, sc19, rfl, rfl, rfl, chk19, F19.binds (ps := ["_law_feed_here"]) (fun _ _ _ _ _ _ us hl => match us, hl with | [_], _ => rfl), fun y hy s u => by cases hy; exact .of_eq rfl⟩
    | 20, h => cases h; exact ⟨PySem.W.mg_of X G a20, S20, N20, _, ⟨1, 3, B20⟩, F20, sc20, rfl, rfl, rfl, chk20, F20.binds (ps := ["_law_entries"]) (fun _ _ _ _ _ _ us hl => match us, hl with | [_], _ => rfl), fun y hy s u => by cases hy; exact .of_eq rfl⟩
    | 21, h => cases h; exact ⟨PySem.W.mg_of X G a21, S21, N21, _, ⟨1, 2, B21⟩, F21, sc21, rfl, rfl, rfl, chk21, F21.binds (ps := ["_law_feed_here"]) (fun _ _ _ _ _ _ us hl => match us, hl with | [_], _ => rfl), fun y hy s u => by cases hy; exact .of_eq rfl⟩
    | 22, h => cases h; exact ⟨PySem.W.mg_of X G a22, S22, N22, _, ⟨2, 5, B22⟩, F22, sc22, rfl, rfl, rfl, chk22, F22.binds (ps := ["_law_feed_here", "_law_item"]) (fun _ _ _ _ _ _ us hl => match us, hl with | [_, _], _ => rfl), fun y hy => by cases hy⟩
    | 23, h => cases h; exact ⟨PySem.W.mg_of X G a23, S23, N23, _, ⟨0, 2, B23⟩, F23, sc23, rfl, rfl, rfl, chk23, F23.binds (ps := []) (fun _ _ _ _ _ _ us hl => match us, hl with | [], _ => rfl), fun y hy => by cases hy⟩
    | 24, h => cases h; exact ⟨PySem.W.mg_of X G a24, S24, N24, _, ⟨0, 7, B24⟩, F24, sc24, rfl, rfl, rfl, chk24, F24.binds (ps := []) (fun _ _ _ _ _ _ us hl => match us, hl with | [], _ => rfl), fun y hy => by cases hy⟩
    | 25, h => cases h; exact ⟨PySem.W.mg_of X G a25, S25, N25, _, ⟨1, 2, B25⟩, F25, sc25, rfl, rfl, rfl, chk25, F25.binds (ps := ["_law_item"]) (fun _ _ _ _ _ _ us hl => match us, hl with | [_], _ => rfl), fun y hy s u => by cases hy; exact .of_eq rfl⟩
    | 26, h => cases h; exact ⟨PySem.W.mg_of X G a26, S26, N26, _, ⟨1, 12, B26⟩, F26, sc26, rfl, rfl, rfl, chk26, F26.binds (ps := ["_law_script"]) (fun _ _ _ _ _ _ us hl => match us, hl with | [_], _ => rfl), fun y hy s u => by cases hy; exact .of_eq rfl⟩
    | _ + 27, h => cases h
  · intro p hp
    simp only [cfg, List.mem_cons, List.not_mem_nil, or_false] at hp
    rcases hp with rfl | rfl | rfl | rfl | rfl | rfl | rfl | rfl | rfl | rfl
    · exact ⟨PySem.W.mg_none_of X G zq3, by decide +kernel, by decide⟩
    · exact ⟨PySem.W.mg_none_of X G zq1, by decide +kernel, by decide⟩
    · exact ⟨PySem.W.mg_none_of X G zq11, by decide +kernel, by decide⟩
    · exact ⟨_, PySem.W.mg_of X G gq0⟩
    · exact ⟨_, PySem.W.mg_of X G gq1⟩
    · exact ⟨PySem.W.mg_none_of X G zq12, by decide +kernel, by decide⟩
    · exact PySem.W.mg_of X G a0
    · exact PySem.W.mg_of X G a1
    · exact PySem.W.mg_of X G a4
    · exact PySem.W.mg_of X G a7
  · intro x hx
    simp only [cfg, List.mem_cons, List.not_mem_nil, or_false] at hx
    rcases hx with rfl | rfl | rfl | rfl | rfl | rfl | rfl | rfl | rfl | rfl | rfl | rfl | rfl
    · exact PySem.W.mg_none_of X G zq0
    · exact PySem.W.mg_none_of X G zq2
    · exact PySem.W.mg_none_of X G zq3
    · exact PySem.W.mg_none_of X G zq4
    · exact PySem.W.mg_none_of X G zq5
    · exact PySem.W.mg_none_of X G zq6
    · exact PySem.W.mg_none_of X G zq7
    · exact PySem.W.mg_none_of X G zq8
    · exact PySem.W.mg_none_of X G zq9
    · exact PySem.W.mg_none_of X G zq10
    · exact PySem.W.mg_none_of X G zq11
    · exact PySem.W.mg_none_of X G zq12
    · exact PySem.W.mg_none_of X G zq13
end
end Law
namespace Law
open PySem PySem.Spec PyProof.Rows L2 Mi

/-- plain data -/
def plain : D → Bool
  | .fn _ => false
  | .ref _ => false
  | .ty _ => false
  | .scr _ => false
  | _ => true
/-- texts and tuples that the model can hold -/
def fits : D → Prop
  | .str x => x.length ≤ sizeLine
  | _ => True
def intB : D → Bool
  | .int _ => true
  | _ => false
theorem c_is_integer (n : Nat) (d : D) (M : MH) (h : plain d = true) : callN T (n + 1) 0 [d] M = .ok (.bl (intB d)) M := by
  cases d <;> first | rfl | cases h
theorem c_law_integer (n : Nat) (d : D) (M : MH) (h : plain d = true) : callN T (n + 1) 12 [d] M = .ok (.bl (intB d)) M := by
  cases d <;> first | rfl | cases h
def lowC (c : Nat) : Bool := decide (97 ≤ c) && decide (c ≤ 122)
def nameS (x : Str) : Bool := (decide (1 ≤ x.length) && decide (x.length ≤ 8)) && x.cps.toList.all lowC
def nameB : D → Bool
  | .str x => nameS x
  | _ => false
theorem occ_letters (c : Nat) : (!(Builtin.Str.occurrences (Str.ofString "abcdefghijklmnopqrstuvwxyz") ⟨#[c]⟩ 0 (Str.ofString "abcdefghijklmnopqrstuvwxyz").length 1).isEmpty) = lowC c := by
  rw [PySem.StrLaws.found_one]
  have e : (Str.ofString "abcdefghijklmnopqrstuvwxyz").cps.toList = [97, 98, 99, 100, 101, 102, 103, 104, 105, 106, 107, 108, 109, 110, 111, 112, 113, 114, 115, 116, 117, 118, 119, 120, 121, 122] := by decide +kernel
  rw [e]
  unfold lowC
  rw [Bool.eq_iff_iff]
  simp
  omega
def chD (c : Nat) : D := .str ⟨#[c]⟩
theorem len_str {x : Str} {M : MH} (h : x.length ≤ sizeLine) : biD false "len" [.str x] M = .ok (.int x.length) M := by
  rw [bq_len]
  simp [biLen, h]
theorem src_str {x : Str} {M : MH} (h : x.length ≤ sizeLine) : srcOf M (.str x) = some (.vals (x.cps.toList.map chD)) := by
  simp only [srcOf, h, if_true]
  rfl
theorem all_id {α : Type} (p : α → Bool) (xs : List α) : (xs.map p).all id = xs.all p := by
  rw [List.all_map]
  rfl
theorem all_of {ds : List D} {bs : List Bool} {M : MH} (h : boolsOf ds = some bs) : biD false "all" [.lst ds] M = .ok (.bl (bs.all id)) M := by
  rw [bq_all]
  simp [biAll, h]
theorem bools_of (p : D → Bool) (xs : List D) : boolsOf (xs.map fun d => .bl (p d)) = some (xs.map p) := bools_map p xs
theorem filter_tt {α : Type} (xs : List α) : xs.filter (fun _ => true) = xs := List.filter_eq_self.mpr (by simp)
theorem c_is_name (n : Nat) (d : D) (M : MH) (h : plain d = true) (hf : fits d) : callN T (n + 1) 1 [d] M = .ok (.bl (nameB d)) M := by
  cases d with
  | str x =>
    have hx : x.length ≤ sizeLine := hf
    refine c_rt (T := T) (np := 1) (ns := 2) (body := B1) rfl rfl ?_
    have c1 : evT (callN T n) (.or (.cons (.not (.bi false "isinstance" (.cons (.var 0) (.cons (.glob "str" (.ty "str")) .nil)))) (.cons (.not (.chain .LtE .LtE (.const (.int 1)) (.bi false "len" (.cons (.var 0) .nil)) (.glob "LONGEST" (.int 8)))) .nil))) [some (.str x), none] M = .ok (!(decide (1 ≤ x.length) && decide (x.length ≤ 8))) M := by
      refine t_or' (or_f (t_not' (k := true) (t_bi (ds := [.str x, .ty "str"]) rfl rfl)) (or_1 (t_not' ?_)))
      have q := t_chain' (cl := callN T n) (ρ := [some (D.str x), none]) (M := M) (op := .LtE) (op' := .LtE) (a := .const (.int 1)) (b := .bi false "len" (.cons (.var 0) .nil)) (c := .glob "LONGEST" (.int 8)) (M1 := M) (M2 := M) (x := .int 1) (y := .int x.length) (z := .int 8) rfl (e_bi (ds := [.str x]) rfl (len_str hx)) (cmp_le_int _ _ _) rfl (cmp_le_int _ _ _)
      rw [q]
      congr 1
      rw [Bool.eq_iff_iff]
      simp
      omega
    by_cases hn : (decide (1 ≤ x.length) && decide (x.length ≤ 8)) = true
    · rw [hn] at c1
      refine x_if_f c1 (x_ret ?_)
      have cm := comp_all (M := M) (bind := fun d => bindT (.name 1) d (wipeR [some (D.str x), none] (Tg.name 1).own)) (cond := evIf (callN T n) .none) (elt := ev (callN T n) (.cmp .In (.var 1) (.glob "LETTERS" (.str "abcdefghijklmnopqrstuvwxyz")))) (fun _ => true) (fun d => .bl (match d with | .str y => lowC (y.cps.getD 0 0) | _ => false)) (fun d => [some (D.str x), some d]) (x.cps.toList.map chD) (by
        intro d hd
        obtain ⟨c, _, rfl⟩ := List.mem_map.mp hd
        refine ⟨rfl, rfl, fun _ => ?_⟩
        exact e_cmp (x := chD c) (y := .str "abcdefghijklmnopqrstuvwxyz") rfl rfl (congrArg some (occ_letters c)))
      refine e_bi (l_cons' (e_comp (i_seq' (d := .str x) rfl (src_str hx)) cm rfl) l_nil') ?_
      rw [filter_tt, all_of (bools_of _ _)]
      congr 2
      show _ = nameS x
      unfold nameS
      rw [hn, Bool.true_and, List.map_map, all_id]
      rfl
    · have hn' : (decide (1 ≤ x.length) && decide (x.length ≤ 8)) = false := by simpa using hn
      rw [hn'] at c1
      have e : nameB (.str x) = false := by
        show nameS x = false
        unfold nameS
        rw [hn', Bool.false_and]
      rw [e]
      exact x_if_rt c1 (x_ret rfl)
  | _ => first | rfl | cases h
def pairB (f g : D → Bool) : D → Bool
  | .tup [a, b] => f a && g b
  | _ => false
theorem c_is_pair (n k1 k2 : Nat) (f g : D → Bool) (d : D) (M : MH) (hd : plain d = true) (h1 : ∀ a b, d = .tup [a, b] → callN T n k1 [a] M = .ok (.bl (f a)) M) (h2 : ∀ a b, d = .tup [a, b] → f a = true → callN T n k2 [b] M = .ok (.bl (g b)) M) :
    callN T (n + 1) 2 [d, .fn k1, .fn k2] M = .ok (.bl (pairB f g d)) M := by
  cases d with
  | tup xs =>
    refine c_rt (T := T) (np := 3) (ns := 3) (body := B2) rfl rfl (x_ret (e_and (va_t rfl ?_)))
    match xs with
    | [] => rfl
    | [a] => rfl
    | [a, b] =>
      refine va_t rfl (va_2 (e_callV rfl (l_cons' (e_idx rfl rfl (atI_0 _ _)) l_nil') (h1 a b rfl)) fun hf => va_1 (e_callV rfl (l_cons' (e_idx rfl rfl (atI_1 _ _ _)) l_nil') (h2 a b rfl hf)))
    | a :: b :: c :: r =>
      refine va_f (e_cmp (x := .int (a :: b :: c :: r).length) (y := .int 2) rfl rfl ?_)
      rw [cmp_eq_int]
      simp
      omega
  | _ => first | rfl | cases hd
def rangeB : D → Bool
  | .tup [.int i, .int j] => decide (i ≤ j)
  | _ => false
theorem pair_int (d : D) : pairB intB intB d = true → ∃ i j, d = .tup [.int i, .int j] := by
  intro h
  unfold pairB at h
  split at h
  · rename_i a b
    cases a <;> cases b <;> first | exact ⟨_, _, rfl⟩ | cases h
  · cases h
/-- the parts of a pair -/
def subs : D → List D
  | .tup xs => xs
  | _ => []
theorem c_is_range (n : Nat) (d : D) (M : MH) (hd : plain d = true) (hs : ∀ e ∈ subs d, plain e = true) : callN T (n + 3) 3 [d] M = .ok (.bl (rangeB d)) M := by
  have hp := c_is_pair (n + 1) 0 0 intB intB d M hd (fun a b e => c_is_integer n a M (hs a (by subst e; simp [subs]))) (fun a b e _ => c_is_integer n b M (hs b (by subst e; simp [subs])))
  refine c_rt (T := T) (np := 1) (ns := 1) (body := B3) rfl rfl (x_ret (e_and ?_))
  cases hb : pairB intB intB d with
  | false =>
    rw [hb] at hp
    have e : rangeB d = false := by
      unfold rangeB
      split
      · simp [pairB, intB] at hb
      · rfl
    rw [e]
    exact va_f (e_call (ds := [d, .fn 0, .fn 0]) rfl hp)
  | true =>
    rw [hb] at hp
    obtain ⟨i, j, rfl⟩ := pair_int d hb
    exact va_t (e_call (ds := [.tup [.int i, .int j], .fn 0, .fn 0]) rfl hp) (va_1 (e_cmp (e_idx rfl rfl (atI_0 _ _)) (e_idx rfl rfl (atI_1 _ _ _)) (cmp_le_int _ _ _)))
def kindB (d : D) : Bool := rangeB d || nameB d
theorem c_is_kind (n : Nat) (d : D) (M : MH) (hd : plain d = true) (hf : fits d) (hs : ∀ e ∈ subs d, plain e = true) : callN T (n + 4) 4 [d] M = .ok (.bl (kindB d)) M := by
  refine c_rt (T := T) (np := 1) (ns := 1) (body := B4) rfl rfl (x_ret (e_or ?_))
  exact vo_2 (e_call (ds := [d]) rfl (c_is_range n d M hd hs)) fun _ => vo_1 (e_call (ds := [d]) rfl (c_is_name (n + 2) d M hd hf))
end Law
namespace Law
open PySem PySem.Spec PyProof.Rows L2 Mi

/-- data of depth at most n -/
inductive Ok : Nat → D → Prop where
  | non {n : Nat} : Ok n .non
  | bl {n : Nat} (b : Bool) : Ok n (.bl b)
  | int {n : Nat} (i : Int) : Ok n (.int i)
  | str {n : Nat} {x : Str} : x.length ≤ 100000 → PyData.strOk x = true → Ok n (.str x)
  | tup {n : Nat} {xs : List D} : (∀ d ∈ xs, Ok n d) → xs.length ≤ 1000 → Ok (n + 1) (.tup xs)
  | lst {n : Nat} {xs : List D} : (∀ d ∈ xs, Ok n d) → xs.length ≤ 1000 → Ok (n + 1) (.lst xs)
theorem Ok.plain {n : Nat} {d : D} (h : Ok n d) : plain d = true := by cases h <;> rfl
theorem Ok.fits {n : Nat} {d : D} (h : Ok n d) : fits d := by
  cases h with
  | str h _ => exact Nat.le_trans h (by decide)
  | _ => trivial
theorem Ok.sub {n : Nat} {xs : List D} (h : Ok (n + 1) (.tup xs)) : ∀ d ∈ xs, Ok n d := by cases h; assumption
theorem Ok.mono {n : Nat} {d : D} (h : Ok n d) : ∀ {m : Nat}, n ≤ m → Ok m d := by
  induction h with
  | non => intro m _; exact .non
  | bl b => intro m _; exact .bl b
  | int i => intro m _; exact .int i
  | str a b => intro m _; exact .str a b
  | tup _ hl ih =>
    intro m hm
    cases m with
    | zero => omega
    | succ m => exact .tup (fun d hd => ih d hd (by omega)) hl
  | lst _ hl ih =>
    intro m hm
    cases m with
    | zero => omega
    | succ m => exact .lst (fun d hd => ih d hd (by omega)) hl
theorem py_all {n : Nat} : ∀ {xs : List D}, (∀ d ∈ xs, ∃ p, py0 d = some p ∧ p.canLay0 = true ∧ p.depth ≤ n) → ∃ ps, py0s xs = some ps ∧ PyData.canLayAll0 ps = true ∧ PyData.depthAll ps ≤ n ∧ ps.length = xs.length
  | [], _ => ⟨[], rfl, rfl, by simp [PyData.depthAll], rfl⟩
  | x :: xs, h => by
    obtain ⟨p, h1, h2, h3⟩ := h x (by simp)
    obtain ⟨ps, k1, k2, k3, k4⟩ := py_all (xs := xs) fun d hd => h d (List.mem_cons_of_mem _ hd)
    refine ⟨p :: ps, by simp only [py0s, h1, k1], by simp only [PyData.canLayAll0, h2, k2]; rfl, ?_, by simp [k4]⟩
    simp only [PyData.depthAll]
    omega
theorem Ok.py {n : Nat} {d : D} (h : Ok n d) : ∃ p, py0 d = some p ∧ p.canLay0 = true ∧ p.depth ≤ n := by
  induction h with
  | non => exact ⟨_, rfl, rfl, by simp [PyData.depth]⟩
  | bl b => exact ⟨_, rfl, rfl, by simp [PyData.depth]⟩
  | int i => exact ⟨_, rfl, rfl, by simp [PyData.depth]⟩
  | str a b => exact ⟨_, rfl, b, by simp [PyData.depth]⟩
  | tup _ _ ih =>
    obtain ⟨ps, k1, k2, k3, _⟩ := py_all ih
    exact ⟨.tuple ps, by simp only [py0, k1], k2, by simp only [PyData.depth]; omega⟩
  | lst _ _ ih =>
    obtain ⟨ps, k1, k2, k3, _⟩ := py_all ih
    exact ⟨.list ps, by simp only [py0, k1], k2, by simp only [PyData.depth]; omega⟩
theorem eqvAll_nil (ps : List PyData) : PyData.eqvAll ps [] = ps.isEmpty := by cases ps <;> simp [PyData.eqvAll]
theorem eq_nil_l {n : Nat} {xs : List D} {M : MH} (hn : n ≤ 60) (h : ∀ d ∈ xs, Ok n d) : eqD M (.lst xs) (.lst []) = some xs.isEmpty := by
  obtain ⟨ps, k1, k2, k3, k4⟩ := py_all fun d hd => (h d hd).py
  have s1 : SeqAt.shaped (.list ps) = true := by
    unfold SeqAt.shaped
    have : PyData.depth (.list ps) ≤ 64 := by simp only [PyData.depth]; omega
    rw [show PyData.canLay0 (.list ps) = true from k2, decide_eq_true this]; rfl
  have e1 : pyM M (.lst xs) = some (.list ps) := by simp only [pyM, py0, k1]
  unfold eqD
  rw [e1]
  show (if (SeqAt.shaped (.list ps) && SeqAt.shaped (.list [])) = true then some (PyData.eqv (.list ps) (.list [])) else none) = _
  rw [s1]
  show some (PyData.eqvAll ps []) = _
  rw [eqvAll_nil]
  cases ps <;> cases xs <;> first | rfl | simp at k4
theorem eq_nil_t {n : Nat} {xs : List D} {M : MH} (hn : n ≤ 60) (h : ∀ d ∈ xs, Ok n d) : eqD M (.tup xs) (.tup []) = some xs.isEmpty := by
  obtain ⟨ps, k1, k2, k3, k4⟩ := py_all fun d hd => (h d hd).py
  have s1 : SeqAt.shaped (.tuple ps) = true := by
    unfold SeqAt.shaped
    have : PyData.depth (.tuple ps) ≤ 64 := by simp only [PyData.depth]; omega
    rw [show PyData.canLay0 (.tuple ps) = true from k2, decide_eq_true this]; rfl
  have e1 : pyM M (.tup xs) = some (.tuple ps) := by simp only [pyM, py0, k1]
  unfold eqD
  rw [e1]
  show (if (SeqAt.shaped (.tuple ps) && SeqAt.shaped (.tuple [])) = true then some (PyData.eqv (.tuple ps) (.tuple [])) else none) = _
  rw [s1]
  show some (PyData.eqvAll ps []) = _
  rw [eqvAll_nil]
  cases ps <;> cases xs <;> first | rfl | simp at k4
theorem isEmpty_filter {α : Type} (p : α → Bool) (xs : List α) : (xs.filter p).isEmpty = xs.all fun x => !p x := by
  induction xs with
  | nil => rfl
  | cons x r ih =>
    rw [List.filter_cons, List.all_cons, ← ih]
    cases p x <;> simp
/-! ### _law_named -/
theorem strOk_ch {x : Str} (h : PyData.strOk x = true) : ∀ c ∈ x.cps.toList, c < 0x110000 := by
  unfold PyData.strOk at h
  rw [Array.all_eq_true'] at h
  intro c hc
  have := h c (Array.mem_toList_iff.mp hc)
  simpa using this
theorem ok_ch {x : Str} (h : PyData.strOk x = true) {c : Nat} (hc : c ∈ x.cps.toList) : Ok 0 (chD c) := by
  refine .str (by show 1 ≤ 100000; decide) ?_
  have := strOk_ch h c hc
  unfold PyData.strOk
  simpa using this
theorem c_law_named {m : Nat} (n : Nat) (d : D) (M : MH) (h : Ok m d) : callN T (n + 1) 13 [d] M = .ok (.bl (nameB d)) M := by
  have hp := h.plain
  have hf := h.fits
  cases d with
  | str x =>
    have hok : PyData.strOk x = true := by cases h; assumption
    have hx : x.length ≤ sizeLine := hf
    refine c_rt (T := T) (np := 1) (ns := 2) (body := B13) rfl rfl ?_
    have c1 : evT (callN T n) (.or (.cons (.not (.bi false "isinstance" (.cons (.var 0) (.cons (.glob "str" (.ty "str")) .nil)))) (.cons (.not (.chain .Lt .Lt (.const (.int 0)) (.bi false "len" (.cons (.var 0) .nil)) (.const (.int 9)))) .nil))) [some (.str x), none] M = .ok (!(decide (1 ≤ x.length) && decide (x.length ≤ 8))) M := by
      refine t_or' (or_f (t_not' (k := true) (t_bi (ds := [.str x, .ty "str"]) rfl rfl)) (or_1 (t_not' ?_)))
      have q := t_chain' (cl := callN T n) (ρ := [some (D.str x), none]) (M := M) (op := .Lt) (op' := .Lt) (a := .const (.int 0)) (b := .bi false "len" (.cons (.var 0) .nil)) (c := .const (.int 9)) (M1 := M) (M2 := M) (x := .int 0) (y := .int x.length) (z := .int 9) rfl (e_bi (ds := [.str x]) rfl (len_str hx)) (cmp_lt_int _ _ _) rfl (cmp_lt_int _ _ _)
      rw [q]
      congr 1
      rw [Bool.eq_iff_iff]
      simp
      omega
    by_cases hn : (decide (1 ≤ x.length) && decide (x.length ≤ 8)) = true
    · rw [hn] at c1
      refine x_if_f c1 (x_ret (e_cmp (e_comp (i_seq' (d := .str x) rfl (src_str hx)) (comp_all (fun d => !(match d with | .str y => lowC (y.cps.getD 0 0) | _ => false)) id (fun d => [some (D.str x), some d]) (x.cps.toList.map chD) ?_) rfl) (y := .lst []) rfl ?_))
      · intro d hd
        obtain ⟨c, _, rfl⟩ := List.mem_map.mp hd
        refine ⟨rfl, ?_, fun _ => rfl⟩
        refine t_not' ?_
        have q := t_chain' (cl := callN T n) (ρ := [some (D.str x), some (chD c)]) (M := M) (op := .LtE) (op' := .LtE) (a := .const (.int 97)) (b := .bi false "ord" (.cons (.var 1) .nil)) (c := .const (.int 122)) (M1 := M) (M2 := M) (x := .int 97) (y := .int c) (z := .int 122) rfl rfl (cmp_le_int _ _ _) rfl (cmp_le_int _ _ _)
        rw [q]
        congr 1
        show _ = lowC c
        unfold lowC
        rw [Bool.eq_iff_iff]
        simp
        omega
      · rw [List.map_id]
        show eqD M _ _ = _
        rw [eq_nil_l (n := 0) (by omega) (fun d hd => by
          obtain ⟨hd, _⟩ := List.mem_filter.mp hd
          obtain ⟨c, hc, rfl⟩ := List.mem_map.mp hd
          exact ok_ch hok hc), isEmpty_filter]
        congr 1
        show _ = nameS x
        unfold nameS
        rw [hn, Bool.true_and, List.all_map]
        congr 1
        funext c
        show (!(!lowC c)) = lowC c
        rw [Bool.not_not]
    · have hn' : (decide (1 ≤ x.length) && decide (x.length ≤ 8)) = false := by simpa using hn
      rw [hn'] at c1
      have e : nameB (.str x) = false := by
        show nameS x = false
        unfold nameS
        rw [hn', Bool.false_and]
      rw [e]
      exact x_if_rt c1 (x_ret rfl)
  | _ => first | rfl | cases hp
/-! ### _law_kinded -/
theorem kind_len {xs : List D} (h : xs.length ≠ 2) : kindB (.tup xs) = false := by
  unfold kindB nameB rangeB
  rw [Bool.or_false]
  split
  · rename_i e; cases e; simp at h
  · rfl
theorem c_law_kinded {m : Nat} (n : Nat) (d : D) (M : MH) (h : Ok (m + 1) d) : callN T (n + 2) 15 [d] M = .ok (.bl (kindB d)) M := by
  have hp := h.plain
  cases d with
  | str x =>
    refine c_rt (T := T) (np := 1) (ns := 1) (body := B15) rfl rfl (x_if_rt (t_bi (ds := [.str x, .ty "str"]) rfl rfl) (x_ret (e_call (ds := [.str x]) rfl (c_law_named n _ M h))))
  | tup xs =>
    refine c_rt (T := T) (np := 1) (ns := 1) (body := B15) rfl rfl (x_if_f (t_bi (ds := [.tup xs, .ty "str"]) rfl rfl) ?_)
    match xs, h with
    | [], _ => rw [kind_len (by simp)]; exact x_if_rt (t_or' (or_f rfl (or_t rfl))) (x_ret rfl)
    | [a], _ => rw [kind_len (by simp)]; exact x_if_rt (t_or' (or_f rfl (or_t rfl))) (x_ret rfl)
    | [a, b], h =>
      have ha := (h.sub a (by simp)).plain
      have hb := (h.sub b (by simp)).plain
      have e1 := c_law_integer n a M ha
      have e2 := c_law_integer n b M hb
      cases hi : intB a with
      | false =>
        rw [hi] at e1
        have e : kindB (.tup [a, b]) = false := by
          unfold kindB rangeB nameB
          cases a <;> first | rfl | cases hi
        rw [e]
        exact x_if_rt (t_or' (or_f rfl (or_f rfl (or_1 (t_not' (k := false) (t_call (l_cons' (e_idx rfl rfl (atI_0 _ _)) l_nil') e1)))))) (x_ret rfl)
      | true =>
        rw [hi] at e1
        refine x_if_f (t_or' (or_f rfl (or_f rfl (or_1 (t_not' (k := true) (t_call (l_cons' (e_idx rfl rfl (atI_0 _ _)) l_nil') e1)))))) (x_ret (e_and ?_))
        have e : kindB (.tup [a, b]) = (intB b && rangeB (.tup [a, b])) := by
          unfold kindB nameB
          rw [Bool.or_false]
          cases a <;> cases b <;> rfl
        rw [e]
        refine va_2 (e_call (l_cons' (e_idx rfl rfl (atI_1 _ _ _)) l_nil') e2) fun hj => ?_
        cases a <;> first | cases hi | skip
        cases b <;> first | cases hj | skip
        exact va_1 (e_cmp (e_idx rfl rfl (atI_0 _ _)) (e_idx rfl rfl (atI_1 _ _ _)) (cmp_le_int _ _ _))
    | a :: b :: c :: r, _ =>
      have e : cmpD .NotEq (.int (a :: b :: c :: r).length) (.int 2) M = some true := by
        rw [cmp_ne_int]
        simp
        omega
      rw [kind_len (by simp)]
      exact x_if_rt (t_or' (or_f rfl (or_t (t_cmp' (x := .int (a :: b :: c :: r).length) (y := .int 2) rfl rfl e)))) (x_ret rfl)
  | _ => first | rfl | cases hp
end Law
namespace Law
open PySem PySem.Spec PyProof.Rows L2 Mi

def fstD : D → D
  | .tup (a :: _) => a
  | d => d
def sndD : D → D
  | .tup (_ :: b :: _) => b
  | d => d
def strOf : D → Str
  | .str x => x
  | _ => ⟨#[]⟩
def risesL (xs : List D) : Bool := (List.range (xs.length - 1)).all fun i => ltS (strOf (xs.getD i .non)) (strOf (xs.getD (i + 1) .non))
theorem e_slice {cl : Calls} {ρ : Rho} {M M1 M2 M3 M4 : MH} {a : C} {lo hi : Co} {m : Bool} {x d : D} {l h : Option D} {l' h' : Option Int} (h1 : ev cl a ρ M = .ok x M1) (h2 : evo cl lo ρ M1 = .ok l M2) (h3 : evo cl hi ρ M2 = .ok h M3) (o1 : optI l = some l') (o2 : optI h = some h') (h4 : sliceD m x l' h' M3 = .ok d M4) : ev cl (.slice m a lo hi) ρ M = .ok d M4 := by
  simp only [ev, h1, h2, h3, o1, o2, Res.bind, h4]
theorem i_zip' {cl : Calls} {ρ : Rho} {M M1 M2 : MH} {a b : C} {xs ys : List D} (h1 : ev cl a ρ M = .ok (.lst xs) M1) (h2 : ev cl b ρ M1 = .ok (.lst ys) M2) : evI cl (.zip a b) ρ M = .ok (.zipL xs ys) M2 := by
  simp only [evI, h1, h2, Res.bind]
theorem i_rng1' {cl : Calls} {ρ : Rho} {M M1 : MH} {a : C} {j : Int} (h1 : ev cl a ρ M = .ok (.int j) M1) (h : -(2 ^ 62) ≤ j ∧ j ≤ 10000) : evI cl (.rng1 a) ρ M = .ok (.vals ((List.range j.toNat).map fun (k : Nat) => D.int (0 + (k : Int)))) M1 := by
  simp only [evI, h1, Res.bind]
  rw [if_pos h]
theorem i_rng2' {cl : Calls} {ρ : Rho} {M M1 M2 : MH} {a b : C} {i j : Int} (h1 : ev cl a ρ M = .ok (.int i) M1) (h2 : ev cl b ρ M1 = .ok (.int j) M2) (h : (-10000 ≤ i ∧ i ≤ 10000) ∧ (-10000 ≤ j ∧ j ≤ 10000)) : evI cl (.rng2 a b) ρ M = .ok (.vals ((List.range (j - i).toNat).map fun (k : Nat) => D.int (i + (k : Int)))) M2 := by
  simp only [evI, h1, h2, Res.bind]
  rw [if_pos h]
theorem cut_from1 (xs : List D) : Mi.cutD xs (some 1) none = xs.drop 1 := by
  unfold Mi.cutD
  rw [show HT.sIx xs.length 0 (some 1) = min 1 xs.length from HT.sIx_nat xs.length 0 1, HT.sIx_none]
  cases xs with
  | nil => rfl
  | cons x r =>
    have : min 1 (x :: r).length = 1 := by rw [List.length_cons]; omega
    rw [this]
    show List.take ((x :: r).length - 1) r = r
    rw [List.length_cons, Nat.add_sub_cancel]
    exact List.take_length
def zpD (xs ys : List D) : List D := List.zipWith (fun a b => .tup [a, b]) xs ys
theorem comp_zip {bind : D → Option Rho} {cond : Rho → MH → Res Bool} {elt : Rho → MH → Res D} (xs ys : List D) : ∀ (k i : Nat) (acc : List D) (M : MH), compLoop (.zipL xs ys) bind cond elt k i acc M = compLoop (.vals (zpD xs ys)) bind cond elt k i acc M
  | 0, i, acc, M => by simp [compLoop, srcEnd]
  | k + 1, i, acc, M => by
    have e : srcAt M i (.zipL xs ys) = srcAt M i (.vals (zpD xs ys)) := by
      simp only [srcAt, zpD, List.getElem?_zipWith]
      cases xs[i]? <;> cases ys[i]? <;> rfl
    simp only [compLoop, e, comp_zip xs ys k]
theorem zp_range (f : D → D → Bool) (xs : List D) : List.zipWith f xs (xs.drop 1) = (List.range (xs.length - 1)).map fun i => f (xs.getD i .non) (xs.getD (i + 1) .non) := by
  apply List.ext_getElem?
  intro i
  rw [List.getElem?_zipWith, List.getElem?_map, List.getElem?_drop]
  by_cases h : i < xs.length - 1
  · rw [List.getElem?_range h, List.getElem?_eq_getElem (show i < xs.length by omega), List.getElem?_eq_getElem (show 1 + i < xs.length by omega)]
    simp [List.getD_eq_getElem?_getD, show i < xs.length by omega, show i + 1 < xs.length by omega, Nat.add_comm 1 i]
  · rw [List.getElem?_eq_none (l := List.range _) (by simpa using h), List.getElem?_eq_none (l := xs) (i := 1 + i) (by omega)]
    cases xs[i]? <;> rfl
theorem mem_zp : ∀ {xs ys : List D} {d : D}, d ∈ zpD xs ys → ∃ a ∈ xs, ∃ b ∈ ys, d = .tup [a, b]
  | [], _, _, h => by simp [zpD] at h
  | _ :: _, [], _, h => by simp [zpD] at h
  | x :: xs, y :: ys, d, h => by
    rcases List.mem_cons.mp (show d ∈ D.tup [x, y] :: zpD xs ys from h) with rfl | h
    · exact ⟨x, by simp, y, by simp, rfl⟩
    · obtain ⟨a, ha, b, hb, e⟩ := mem_zp h
      exact ⟨a, List.mem_cons_of_mem _ ha, b, List.mem_cons_of_mem _ hb, e⟩
theorem all_zp : ∀ (xs ys : List D), (zpD xs ys).all (fun d => ltS (strOf (fstD d)) (strOf (sndD d))) = (List.zipWith (fun a b => ltS (strOf a) (strOf b)) xs ys).all id
  | [], _ => rfl
  | _ :: _, [] => rfl
  | x :: xs, y :: ys => by
    show (_ && (zpD xs ys).all _) = (_ && (List.zipWith _ xs ys).all id)
    rw [all_zp xs ys]
    rfl
theorem c_rises (n : Nat) (xs : List D) (M : MH) (hs : ∀ d ∈ xs, ∃ s, d = .str s) : callN T (n + 1) 5 [.lst xs] M = .ok (.bl (risesL xs)) M := by
  refine c_rt (T := T) (np := 1) (ns := 3) (body := B5) rfl rfl (x_ret ?_)
  have cm := comp_all (M := M) (bind := fun d => bindT (.tup [1, 2]) d (wipeR [some (D.lst xs), none, none] (Tg.tup [1, 2]).own)) (cond := evIf (callN T n) .none) (elt := ev (callN T n) (.cmp .Lt (.var 1) (.var 2))) (fun _ => true) (fun d => .bl (ltS (strOf (fstD d)) (strOf (sndD d)))) (fun d => [some (D.lst xs), some (fstD d), some (sndD d)]) (zpD xs (xs.drop 1)) (by
    intro d hd
    obtain ⟨a, ha, b, hb, rfl⟩ := mem_zp hd
    obtain ⟨s1, rfl⟩ := hs a ha
    obtain ⟨s2, rfl⟩ := hs b (List.mem_of_mem_drop hb)
    exact ⟨rfl, rfl, fun _ => rfl⟩)
  rw [filter_tt] at cm
  have len : (zpD xs (xs.drop 1)).length = min xs.length (xs.drop 1).length := by unfold zpD; rw [List.length_zipWith]
  have q : ev (callN T n) (.slice false (.var 0) (.some (.const (.int 1))) .none) [some (D.lst xs), none, none] M = .ok (.lst (xs.drop 1)) M :=
    e_slice (x := .lst xs) (l' := some 1) (h' := none) rfl rfl rfl rfl rfl (by rw [← cut_from1]; rfl)
  have iz : evI (callN T n) (.zip (.var 0) (.slice false (.var 0) (.some (.const (.int 1))) .none)) [some (D.lst xs), none, none] M = .ok (.zipL xs (xs.drop 1)) M := i_zip' rfl q
  have e : risesL xs = ((zpD xs (xs.drop 1)).map fun d => ltS (strOf (fstD d)) (strOf (sndD d))).all id := by
    rw [all_id, all_zp, zp_range, all_id]
    rfl
  rw [e]
  refine e_bi (l_cons' (e_comp iz ?_ rfl) l_nil') (all_of (bools_of _ _))
  rw [comp_zip, srcLen_zip, ← len]
  exact cm
/-! ### for loops that search -/
theorem for_all {tg : Tg} {body : Rho → MH → Res Fl} {M : MH} {r : D} (p : D → Bool) (I : Rho → Prop) : ∀ (xs pre : List D) (ρ : Rho), I ρ →
    (∀ ρ d, d ∈ xs → I ρ → ∃ ρ1, bindT tg d ρ = some ρ1 ∧ ((p d = true ∧ ∃ ρ2, body ρ1 M = .ok (.nx ρ2) M ∧ I ρ2) ∨ (p d = false ∧ body ρ1 M = .ok (.rt r) M))) →
    (xs.all p = true ∧ ∃ ρ', forLoop (.vals (pre ++ xs)) (bindT tg) body xs.length pre.length ρ M = .ok (.nx ρ') M ∧ I ρ') ∨ (xs.all p = false ∧ forLoop (.vals (pre ++ xs)) (bindT tg) body xs.length pre.length ρ M = .ok (.rt r) M)
  | [], pre, ρ, hI, _ => .inl ⟨rfl, ρ, by simp [forLoop, srcEnd], hI⟩
  | x :: xs, pre, ρ, hI, h => by
    obtain ⟨ρ1, h1, h2⟩ := h ρ x (by simp) hI
    have hat : srcAt M pre.length (.vals (pre ++ x :: xs)) = some x := by simp [srcAt]
    rcases h2 with ⟨hp, ρ2, hb, hI2⟩ | ⟨hp, hb⟩
    · have ih := for_all (tg := tg) (body := body) (M := M) (r := r) p I xs (pre ++ [x]) ρ2 hI2 fun ρ d hd => h ρ d (List.mem_cons_of_mem _ hd)
      rw [List.append_assoc, List.singleton_append, List.length_append, List.length_singleton] at ih
      simp only [List.length_cons, forLoop, hat, h1, hb, Res.bind, List.all_cons, hp, Bool.true_and]
      exact ih
    · right
      simp only [List.length_cons, forLoop, hat, h1, hb, Res.bind, List.all_cons, hp, Bool.false_and, and_self]

theorem for_all0 {tg : Tg} {body : Rho → MH → Res Fl} {M : MH} {r : D} (p : D → Bool) (I : Rho → Prop) (xs : List D) (ρ : Rho) (hI : I ρ)
    (h : ∀ ρ d, d ∈ xs → I ρ → ∃ ρ1, bindT tg d ρ = some ρ1 ∧ ((p d = true ∧ ∃ ρ2, body ρ1 M = .ok (.nx ρ2) M ∧ I ρ2) ∨ (p d = false ∧ body ρ1 M = .ok (.rt r) M))) :
    (xs.all p = true ∧ ∃ ρ', forLoop (.vals xs) (bindT tg) body xs.length 0 ρ M = .ok (.nx ρ') M ∧ I ρ') ∨ (xs.all p = false ∧ forLoop (.vals xs) (bindT tg) body xs.length 0 ρ M = .ok (.rt r) M) := by
  simpa using for_all (tg := tg) (body := body) (M := M) (r := r) p I xs [] ρ hI h
/-! ### rows -/
def rowsB (check : D → Bool) : D → Bool
  | .tup xs => xs.all (pairB nameB check) && risesL (xs.map fstD)
  | _ => false
theorem pair_of {f g : D → Bool} {d : D} (h : pairB f g d = true) : ∃ a b, d = .tup [a, b] ∧ f a = true ∧ g b = true := by
  unfold pairB at h
  split at h
  · obtain ⟨h1, h2⟩ := Bool.and_eq_true_iff.mp h
    exact ⟨_, _, rfl, h1, h2⟩
  · cases h
theorem name_str {d : D} (h : nameB d = true) : ∃ s, d = .str s := by
  unfold nameB at h
  split at h
  · exact ⟨_, rfl⟩
  · cases h
theorem fst_strs {check : D → Bool} {xs : List D} (h : xs.all (pairB nameB check) = true) : ∀ d ∈ xs.map fstD, ∃ s, d = .str s := by
  intro d hd
  obtain ⟨r, hr, rfl⟩ := List.mem_map.mp hd
  obtain ⟨a, b, rfl, h1, _⟩ := pair_of (List.all_eq_true.mp h r hr)
  exact name_str h1
theorem c_is_named_rows {m : Nat} (n kc : Nat) (check : D → Bool) (d : D) (M : MH) (hd : Ok (m + 1) d) (hc : ∀ r ∈ subs d, ∀ a b, r = .tup [a, b] → nameB a = true → callN T (n + 1) kc [b] M = .ok (.bl (check b)) M) (hm : ∀ r ∈ subs d, ∀ a b, r = .tup [a, b] → Law.plain a = true ∧ Law.fits a) :
    callN T (n + 3) 6 [d, .fn kc] M = .ok (.bl (rowsB check d)) M := by
  have hp := hd.plain
  cases d with
  | tup xs =>
    have hsub := hd.sub
    refine c_rt (T := T) (np := 2) (ns := 3) (body := B6) rfl rfl ?_
    have pr : ∀ r ∈ xs, callN T (n + 2) 2 [r, .fn 1, .fn kc] M = .ok (.bl (pairB nameB check r)) M := fun r hr =>
      c_is_pair (n + 1) 1 kc nameB check r M (hsub r hr).plain (fun a b e => c_is_name n a M (hm r hr a b e).1 (hm r hr a b e).2) (fun a b e hn => hc r hr a b e hn)
    have c1 : evT (callN T (n + 2)) (.not (.bi false "all" (.cons (.comp false (.call 2 (.cons (.var 2) (.cons (.glob "is_name" (.fn 1)) (.cons (.var 1) .nil)))) (.name 2) (.seq (.var 0)) .none) .nil))) [some (.tup xs), some (.fn kc), none] M = .ok (!(xs.all (pairB nameB check))) M := by
      have q := e_comp (m := false) (d := .lst (xs.map fun r => .bl (pairB nameB check r))) (cl := callN T (n + 2)) (ρ := [some (.tup xs), some (.fn kc), none]) (M := M) (it := .seq (.var 0)) (tg := .name 2) (ifs := .none) (elt := .call 2 (.cons (.var 2) (.cons (.glob "is_name" (.fn 1)) (.cons (.var 1) .nil)))) (i_seq' (d := .tup xs) rfl rfl) (comp_all (fun _ => true) (fun r => .bl (pairB nameB check r)) (fun r => [some (.tup xs), some (.fn kc), some r]) xs (fun r hr => ⟨rfl, rfl, fun _ => e_call (ds := [r, .fn 1, .fn kc]) rfl (pr r hr)⟩)) (by rw [filter_tt]; rfl)
      refine t_not' (t_bi (l_cons' q l_nil') ?_)
      rw [all_of (bools_of _ _), all_id]
    cases hb : xs.all (pairB nameB check) with
    | false =>
      rw [hb] at c1
      have e : rowsB check (.tup xs) = false := by
        show (xs.all (pairB nameB check) && _) = false
        rw [hb, Bool.false_and]
      rw [e]
      exact x_if_rt (t_or' (or_f (t_not' (k := true) (t_bi (ds := [.tup xs, .ty "tuple"]) rfl rfl)) (or_1 c1))) (x_ret rfl)
    | true =>
      rw [hb] at c1
      refine x_if_f (t_or' (or_f (t_not' (k := true) (t_bi (ds := [.tup xs, .ty "tuple"]) rfl rfl)) (or_1 c1))) (x_ret ?_)
      have e : rowsB check (.tup xs) = risesL (xs.map fstD) := by
        show (xs.all (pairB nameB check) && _) = _
        rw [hb, Bool.true_and]
      rw [e]
      refine e_call (l_cons' (e_comp (i_seq' (d := .tup xs) rfl rfl) (comp_all (fun _ => true) fstD (fun r => [some (.tup xs), some (.fn kc), some r]) xs (fun r hr => ?_)) rfl) l_nil') ?_
      · obtain ⟨a, b, rfl, _, _⟩ := pair_of (List.all_eq_true.mp hb r hr)
        exact ⟨rfl, rfl, fun _ => e_idx rfl rfl (atI_0 _ _)⟩
      · rw [filter_tt]
        exact c_rises (n + 1) _ M (fst_strs hb)
  | _ => first | rfl | cases hp
def formB (d : D) : Bool := rowsB kindB d
theorem ok_pair {m : Nat} {a b : D} (h : Ok (m + 1) (.tup [a, b])) : Ok m a ∧ Ok m b := ⟨h.sub a (by simp), h.sub b (by simp)⟩
theorem row_ok {m : Nat} {d : D} (h : Ok (m + 2) d) : ∀ r ∈ subs d, ∀ a b, r = .tup [a, b] → Ok m a ∧ Ok m b := by
  intro r hr a b e
  subst e
  cases d with
  | tup xs => exact ok_pair (h.sub _ hr)
  | _ => simp [subs] at hr
theorem subs_plain {m : Nat} {d : D} (h : Ok m d) : ∀ e ∈ subs d, Law.plain e = true := by
  intro e he
  cases d with
  | tup xs =>
    cases h with
    | tup h _ => exact (h e he).plain
  | _ => simp [subs] at he
theorem c_is_form {m : Nat} (n : Nat) (d : D) (M : MH) (hd : Ok (m + 2) d) : callN T (n + 7) 7 [d] M = .ok (.bl (formB d)) M := by
  refine c_rt (T := T) (np := 1) (ns := 1) (body := B7) rfl rfl (x_ret (e_call (ds := [d, .fn 4]) rfl ?_))
  refine c_is_named_rows (m := m + 1) (n + 3) 4 kindB d M hd (fun r hr a b e _ => ?_) (fun r hr a b e => ?_)
  · have := (row_ok hd r hr a b e).2
    exact c_is_kind n b M this.plain this.fits (subs_plain this)
  · have := (row_ok hd r hr a b e).1
    exact ⟨this.plain, this.fits⟩
end Law
namespace Law
open PySem PySem.Spec PyProof.Rows L2 Mi

theorem ok_int {n : Nat} {xs : List Int} : ∀ d ∈ xs.map D.int, Ok n d := by
  intro d hd
  obtain ⟨i, _, rfl⟩ := List.mem_map.mp hd
  exact .int i
theorem nat_of {d : D} {k : Nat} : True := trivial
theorem c_law_rises (n : Nat) (xs : List D) (M : MH) (hs : ∀ d ∈ xs, ∃ s, d = .str s) (hl : xs.length ≤ 1000) : callN T (n + 1) 14 [.lst xs] M = .ok (.bl (risesL xs)) M := by
  refine c_rt (T := T) (np := 1) (ns := 2) (body := B14) rfl rfl (x_ret ?_)
  have ir : evI (callN T n) (.rng2 (.const (.int 1)) (.bi false "len" (.cons (.var 0) .nil))) [some (D.lst xs), none] M = .ok (.vals ((List.range ((xs.length : Int) - 1).toNat).map fun (k : Nat) => D.int (1 + (k : Int)))) M := i_rng2' (i := 1) (j := xs.length) rfl rfl (by omega)
  have e0 : ((xs.length : Int) - 1).toNat = xs.length - 1 := by omega
  rw [e0] at ir
  refine e_cmp (y := .lst []) (e_comp ir (comp_all (fun d => match d with | .int i => !ltS (strOf (xs.getD (i - 1).toNat .non)) (strOf (xs.getD i.toNat .non)) | _ => false) id (fun d => [some (D.lst xs), some d]) _ ?_) rfl) rfl ?_
  · intro d hd
    obtain ⟨k, hk, rfl⟩ := List.mem_map.mp hd
    have hk' : k < xs.length - 1 := List.mem_range.mp hk
    refine ⟨rfl, ?_, fun _ => rfl⟩
    have g1 : xs[k]? = some (xs[k]'(by omega)) := List.getElem?_eq_getElem (by omega)
    have g2 : xs[k + 1]? = some (xs[k + 1]'(by omega)) := List.getElem?_eq_getElem (by omega)
    obtain ⟨s1, q1⟩ := hs _ (List.getElem_mem (show k < xs.length by omega))
    obtain ⟨s2, q2⟩ := hs _ (List.getElem_mem (show k + 1 < xs.length by omega))
    rw [q1] at g1
    rw [q2] at g2
    have a1 : atI xs ((1 + (k : Int)) - 1) = some (.str s1) := by
      rw [atI_ok (by omega) (by omega), show ((1 + (k : Int)) - 1).toNat = k by omega]
      exact g1
    have a2 : atI xs (1 + (k : Int)) = some (.str s2) := by
      rw [atI_ok (by omega) (by omega), show (1 + (k : Int)).toNat = k + 1 by omega]
      exact g2
    have : evT (callN T n) (.cmp .GtE (.idx (.var 0) (.bin false .Sub (.var 1) (.const (.int 1)))) (.idx (.var 0) (.var 1))) [some (D.lst xs), some (.int (1 + (k : Int)))] M = .ok (!ltS s1 s2) M :=
      t_cmp' (e_idx (x := .lst xs) (y := .int ((1 + (k : Int)) - 1)) rfl rfl a1) (e_idx (x := .lst xs) (y := .int (1 + (k : Int))) rfl rfl a2) rfl
    refine this.trans ?_
    have r1 : (1 + (k : Int) - 1).toNat = k := by omega
    have r2 : (1 + (k : Int)).toNat = k + 1 := by omega
    show _ = Res.ok (!ltS (strOf (xs.getD (1 + (k : Int) - 1).toNat .non)) (strOf (xs.getD (1 + (k : Int)).toNat .non))) M
    rw [r1, r2, List.getD_eq_getElem?_getD, List.getD_eq_getElem?_getD, g1, g2]
    rfl
  · rw [List.map_id]
    refine (eq_nil_l (n := 0) (by omega) ?_).trans ?_
    · intro d hd
      obtain ⟨k, _, rfl⟩ := List.mem_map.mp (List.mem_filter.mp hd).1
      exact .int _
    · rw [isEmpty_filter, List.all_map]
      congr 1
      unfold risesL
      congr 1
      funext k
      show (!!ltS (strOf (xs.getD (1 + (k : Int) - 1).toNat .non)) (strOf (xs.getD (1 + (k : Int)).toNat .non))) = _
      rw [Bool.not_not, show (1 + (k : Int) - 1).toNat = k by omega, show (1 + (k : Int)).toNat = k + 1 by omega]
def tt : D → Bool := fun _ => true
theorem pair_tt_len {f g : D → Bool} {xs : List D} (h : xs.length ≠ 2) : pairB f g (.tup xs) = false := by
  unfold pairB
  split
  · rename_i e; cases e; exact absurd rfl h
  · rfl
theorem Ok.len {n : Nat} {xs : List D} (h : Ok n (.tup xs)) : xs.length ≤ 1000 := by cases h; assumption
theorem c_law_pairs_of {m : Nat} (n : Nat) (d : D) (M : MH) (hd : Ok (m + 2) d) : callN T (n + 2) 16 [d] M = .ok (.bl (rowsB tt d)) M := by
  have hp := hd.plain
  cases d with
  | tup xs =>
    refine c_rt (T := T) (np := 1) (ns := 2) (body := B16) rfl rfl (x_if_f (t_not' (k := true) (t_bi (ds := [.tup xs, .ty "tuple"]) rfl rfl)) ?_)
    have hb := for_all0 (tg := .name 1) (M := M) (r := .bl false) (body := exSs (callN T (n + 1)) (.cons (.ifs (.or (.cons (.not (.bi false "isinstance" (.cons (.var 1) (.cons (.glob "tuple" (.ty "tuple")) .nil)))) (.cons (.cmp .NotEq (.bi false "len" (.cons (.var 1) .nil)) (.const (.int 2))) (.cons (.not (.call 13 (.cons (.idx (.var 1) (.const (.int 0))) .nil))) .nil)))) (.cons (.ret (.const (.bl false))) .nil) .nil) .nil)) (pairB nameB tt) (fun ρ => ∃ o, ρ = [some (.tup xs), o]) xs [some (.tup xs), none] ⟨_, rfl⟩ (by
      rintro _ d hd' ⟨o, rfl⟩
      refine ⟨[some (.tup xs), some d], rfl, ?_⟩
      have okd := hd.sub d hd'
      have hpd := okd.plain
      cases d with
      | tup ys =>
        match ys, okd with
        | [], _ => exact .inr ⟨rfl, x_if_rt (t_or' (or_f rfl (or_t rfl))) (x_ret rfl)⟩
        | [a], _ => exact .inr ⟨rfl, x_if_rt (t_or' (or_f rfl (or_t rfl))) (x_ret rfl)⟩
        | [a, b], okd =>
          have e1 := c_law_named n a M (ok_pair okd).1
          have ep : pairB nameB tt (.tup [a, b]) = nameB a := by
            show (nameB a && true) = _
            rw [Bool.and_true]
          rw [ep]
          cases hn : nameB a with
          | false =>
            rw [hn] at e1
            exact .inr ⟨rfl, x_if_rt (t_or' (or_f rfl (or_f rfl (or_1 (t_not' (k := false) (t_call (l_cons' (e_idx rfl rfl (atI_0 _ _)) l_nil') e1)))))) (x_ret rfl)⟩
          | true =>
            rw [hn] at e1
            exact .inl ⟨rfl, _, x_if_f (t_or' (or_f rfl (or_f rfl (or_1 (t_not' (k := true) (t_call (l_cons' (e_idx rfl rfl (atI_0 _ _)) l_nil') e1)))))) x_nil, _, rfl⟩
        | a :: b :: c :: r, _ =>
          have e : cmpD .NotEq (.int (a :: b :: c :: r).length) (.int 2) M = some true := by
            rw [cmp_ne_int]
            simp
            omega
          exact .inr ⟨pair_tt_len (by simp), x_if_rt (t_or' (or_f rfl (or_t (t_cmp' (x := .int (a :: b :: c :: r).length) (y := .int 2) rfl rfl e)))) (x_ret rfl)⟩
      | _ => first | exact .inr ⟨rfl, x_if_rt (t_or' (or_t rfl)) (x_ret rfl)⟩ | cases hpd)
    have er : rowsB tt (.tup xs) = (xs.all (pairB nameB tt) && risesL (xs.map fstD)) := rfl
    rw [er]
    rcases hb with ⟨ha, ρ', hf, o, rfl⟩ | ⟨ha, hf⟩
    · rw [ha, Bool.true_and]
      refine x_for (i_seq' (d := .tup xs) rfl rfl) hf (x_ret (e_call (l_cons' (e_comp (i_seq' (d := .tup xs) rfl rfl) (comp_all (fun _ => true) fstD (fun r => [some (.tup xs), some r]) xs (fun r hr => ?_)) rfl) l_nil') ?_))
      · obtain ⟨a, b, rfl, _, _⟩ := pair_of (List.all_eq_true.mp ha r hr)
        exact ⟨rfl, rfl, fun _ => e_idx rfl rfl (atI_0 _ _)⟩
      · rw [filter_tt]
        exact c_law_rises n _ M (fst_strs ha) (by rw [List.length_map]; exact hd.len)
    · rw [ha, Bool.false_and]
      exact x_for_rt (i_seq' (d := .tup xs) rfl rfl) hf
  | _ => first | rfl | cases hp
theorem rows_split (f : D → Bool) (xs : List D) : rowsB f (.tup xs) = (rowsB tt (.tup xs) && xs.all (fun r => f (sndD r))) := by
  have : xs.all (pairB nameB f) = (xs.all (pairB nameB tt) && xs.all (fun r => f (sndD r))) := by
    induction xs with
    | nil => rfl
    | cons x r ih =>
      have h1 : pairB nameB f x = (pairB nameB tt x && f (sndD x)) := by
        unfold pairB
        split
        · show (nameB _ && f _) = ((nameB _ && true) && f _)
          rw [Bool.and_true]
          rfl
        · rfl
      rw [List.all_cons, List.all_cons, List.all_cons, ih, h1]
      cases pairB nameB tt x <;> cases f (sndD x) <;> cases r.all (pairB nameB tt) <;> rfl
  show (xs.all (pairB nameB f) && risesL (xs.map fstD)) = ((xs.all (pairB nameB tt) && risesL (xs.map fstD)) && _)
  rw [this]
  cases xs.all (pairB nameB tt) <;> cases risesL (xs.map fstD) <;> cases xs.all (fun r => f (sndD r)) <;> rfl
theorem rows_tt {f : D → Bool} {d : D} (h : rowsB f d = true) : ∃ xs, d = .tup xs ∧ ∀ r ∈ xs, ∃ a b, r = .tup [a, b] ∧ nameB a = true ∧ f b = true := by
  unfold rowsB at h
  split at h
  · rename_i xs
    exact ⟨xs, rfl, fun r hr => pair_of (List.all_eq_true.mp (Bool.and_eq_true_iff.mp h).1 r hr)⟩
  · cases h
theorem ok_filter {n : Nat} {xs : List D} {p : D → Bool} (h : ∀ d ∈ xs, Ok n d) : ∀ d ∈ xs.filter p, Ok n d := fun d hd => h d (List.mem_filter.mp hd).1
theorem c_law_formed {m : Nat} (n : Nat) (d : D) (M : MH) (hd : Ok (m + 3) d) (hm : m ≤ 50) : callN T (n + 3) 17 [d] M = .ok (.bl (formB d)) M := by
  have c1 := c_law_pairs_of (m := m + 1) n d M hd
  refine c_rt (T := T) (np := 1) (ns := 2) (body := B17) rfl rfl (x_ret (e_and ?_))
  cases hb : rowsB tt d with
  | false =>
    rw [hb] at c1
    have e : formB d = false := by
      unfold formB
      cases d with
      | tup xs => rw [rows_split, hb, Bool.false_and]
      | _ => rfl
    rw [e]
    exact va_f (e_call (ds := [d]) rfl c1)
  | true =>
    rw [hb] at c1
    obtain ⟨xs, rfl, hx⟩ := rows_tt hb
    have e : formB (.tup xs) = xs.all (fun r => kindB (sndD r)) := by
      unfold formB
      rw [rows_split, hb, Bool.true_and]
    rw [e]
    refine va_t (e_call (ds := [.tup xs]) rfl c1) (va_1 (e_cmp (y := .lst []) (e_comp (i_seq' (d := .tup xs) rfl rfl) (comp_all (fun r => !kindB (sndD r)) id (fun r => [some (.tup xs), some r]) xs (fun r hr => ?_)) rfl) rfl ?_))
    · obtain ⟨a, b, rfl, _, _⟩ := hx r hr
      refine ⟨rfl, t_not' (k := kindB b) (t_call (l_cons' (e_idx rfl rfl (atI_1 _ _ _)) l_nil') (c_law_kinded (m := m) n b M (ok_pair (hd.sub _ hr)).2)), fun _ => rfl⟩
    · rw [List.map_id]
      refine (eq_nil_l (n := m + 2) (by omega) (ok_filter hd.sub)).trans ?_
      rw [isEmpty_filter]
      simp
end Law
namespace Law
open PySem PySem.Spec PyProof.Rows L2 Mi

/-- a loop with a law that it keeps -/
theorem for_inv {tg : Tg} {body : Rho → MH → Res Fl} (P : List D → Rho → MH → Prop) : ∀ (xs pre : List D) (ρ : Rho) (M : MH), P pre ρ M →
    (∀ (pre' : List D) (d : D) (suf : List D) (ρ : Rho) (M : MH), pre ++ xs = pre' ++ d :: suf → P pre' ρ M → ∃ ρ1 ρ2 M2, bindT tg d ρ = some ρ1 ∧ body ρ1 M = .ok (.nx ρ2) M2 ∧ P (pre' ++ [d]) ρ2 M2) →
    ∃ ρ' M', forLoop (.vals (pre ++ xs)) (bindT tg) body xs.length pre.length ρ M = .ok (.nx ρ') M' ∧ P (pre ++ xs) ρ' M'
  | [], pre, ρ, M, hP, _ => ⟨ρ, M, by simp [forLoop, srcEnd], by simpa using hP⟩
  | x :: xs, pre, ρ, M, hP, h => by
    obtain ⟨ρ1, ρ2, M2, h1, h2, h3⟩ := h pre x xs ρ M rfl hP
    have hat : srcAt M pre.length (.vals (pre ++ x :: xs)) = some x := by simp [srcAt]
    have ih := for_inv (tg := tg) (body := body) P xs (pre ++ [x]) ρ2 M2 h3 fun pre' d suf ρ M e => h pre' d suf ρ M (by rw [← e]; simp)
    rw [List.append_assoc, List.singleton_append, List.length_append, List.length_singleton] at ih
    simp only [List.length_cons, forLoop, hat, h1, h2, Res.bind]
    exact ih
theorem for_inv0 {tg : Tg} {body : Rho → MH → Res Fl} (P : List D → Rho → MH → Prop) (xs : List D) (ρ : Rho) (M : MH) (hP : P [] ρ M)
    (h : ∀ (pre : List D) (d : D) (suf : List D) (ρ : Rho) (M : MH), xs = pre ++ d :: suf → P pre ρ M → ∃ ρ1 ρ2 M2, bindT tg d ρ = some ρ1 ∧ body ρ1 M = .ok (.nx ρ2) M2 ∧ P (pre ++ [d]) ρ2 M2) :
    ∃ ρ' M', forLoop (.vals xs) (bindT tg) body xs.length 0 ρ M = .ok (.nx ρ') M' ∧ P xs ρ' M' := by
  simpa using for_inv (tg := tg) (body := body) P xs [] ρ M hP h
theorem comp_inv {bind : D → Option Rho} {cond : Rho → MH → Res Bool} {elt : Rho → MH → Res D} (P : List D → List D → MH → Prop) : ∀ (xs pre acc : List D) (M : MH), P pre acc M →
    (∀ (pre' acc : List D) (d : D) (suf : List D) (M : MH), pre ++ xs = pre' ++ d :: suf → P pre' acc M → ∃ ρ1 M1, bind d = some ρ1 ∧ ((∃ e M2, cond ρ1 M = .ok true M1 ∧ elt ρ1 M1 = .ok e M2 ∧ P (pre' ++ [d]) (acc ++ [e]) M2) ∨ (cond ρ1 M = .ok false M1 ∧ P (pre' ++ [d]) acc M1))) →
    ∃ es M', compLoop (.vals (pre ++ xs)) bind cond elt xs.length pre.length acc M = .ok es M' ∧ P (pre ++ xs) es M'
  | [], pre, acc, M, hP, _ => ⟨acc, M, by simp [compLoop, srcEnd], by simpa using hP⟩
  | x :: xs, pre, acc, M, hP, h => by
    obtain ⟨ρ1, M1, h1, h2⟩ := h pre acc x xs M rfl hP
    have hat : srcAt M pre.length (.vals (pre ++ x :: xs)) = some x := by simp [srcAt]
    rcases h2 with ⟨e, M2, h2, h3, h4⟩ | ⟨h2, h4⟩
    · have ih := comp_inv (bind := bind) (cond := cond) (elt := elt) P xs (pre ++ [x]) (acc ++ [e]) M2 h4 fun pre' acc d suf M e => h pre' acc d suf M (by rw [← e]; simp)
      rw [List.append_assoc, List.singleton_append, List.length_append, List.length_singleton] at ih
      simp only [List.length_cons, compLoop, hat, h1, h2, h3, Res.bind, if_true]
      exact ih
    · have ih := comp_inv (bind := bind) (cond := cond) (elt := elt) P xs (pre ++ [x]) acc M1 h4 fun pre' acc d suf M e => h pre' acc d suf M (by rw [← e]; simp)
      rw [List.append_assoc, List.singleton_append, List.length_append, List.length_singleton] at ih
      simp only [List.length_cons, compLoop, hat, h1, h2, Res.bind, Bool.false_eq_true, if_false]
      exact ih
theorem comp_inv0 {bind : D → Option Rho} {cond : Rho → MH → Res Bool} {elt : Rho → MH → Res D} (P : List D → List D → MH → Prop) (xs : List D) (M : MH) (hP : P [] [] M)
    (h : ∀ (pre acc : List D) (d : D) (suf : List D) (M : MH), xs = pre ++ d :: suf → P pre acc M → ∃ ρ1 M1, bind d = some ρ1 ∧ ((∃ e M2, cond ρ1 M = .ok true M1 ∧ elt ρ1 M1 = .ok e M2 ∧ P (pre ++ [d]) (acc ++ [e]) M2) ∨ (cond ρ1 M = .ok false M1 ∧ P (pre ++ [d]) acc M1))) :
    ∃ es M', compLoop (.vals xs) bind cond elt xs.length 0 [] M = .ok es M' ∧ P xs es M' := by
  simpa using comp_inv (bind := bind) (cond := cond) (elt := elt) P xs [] [] M hP h

theorem comp_live' {bind : D → Option Rho} {cond : Rho → MH → Res Bool} {elt : Rho → MH → Res D} {M : MH} {N : Nat} (p : D → Bool) (e : D → D) (ρf : D → Rho) : ∀ (xs : List D) (pre acc : List D), M[N]? = some (.lst (pre ++ xs)) → (∀ d ∈ xs, bind d = some (ρf d) ∧ cond (ρf d) M = .ok (p d) M ∧ (p d = true → elt (ρf d) M = .ok (e d) M)) →
    compLoop (.live N (pre ++ xs).length) bind cond elt xs.length pre.length acc M = .ok (acc ++ (xs.filter p).map e) M
  | [], pre, acc, hM, _ => by simp [compLoop, srcEnd, hM]
  | x :: xs, pre, acc, hM, h => by
    obtain ⟨h1, h2, h3⟩ := h x (by simp)
    have ih := comp_live' (bind := bind) (cond := cond) (elt := elt) (M := M) (N := N) p e ρf xs (pre ++ [x]) (acc ++ (if p x = true then [e x] else [])) (by rw [hM]; simp) (fun d hd => h d (List.mem_cons_of_mem _ hd))
    have hat : srcAt M pre.length (.live N (pre ++ x :: xs).length) = some x := by simp [srcAt, hM]
    have eq : pre ++ [x] ++ xs = pre ++ x :: xs := by simp
    rw [eq, List.length_append (as := pre) (bs := [x]), List.length_singleton] at ih
    simp only [List.length_cons (as := xs), compLoop, hat, h1, h2, Res.bind]
    cases hp : p x with
    | true =>
      simp only [if_true, h3 hp, Res.bind]
      rw [hp, if_pos rfl] at ih
      rw [ih, List.filter_cons, hp]
      simp
    | false =>
      rw [hp, if_neg Bool.false_ne_true, List.append_nil] at ih
      simp only [Bool.false_eq_true, if_false]
      rw [ih, List.filter_cons, hp]
      simp
theorem comp_live {bind : D → Option Rho} {cond : Rho → MH → Res Bool} {elt : Rho → MH → Res D} {M : MH} {N : Nat} (p : D → Bool) (e : D → D) (ρf : D → Rho) (xs : List D) (hM : M[N]? = some (.lst xs)) (h : ∀ d ∈ xs, bind d = some (ρf d) ∧ cond (ρf d) M = .ok (p d) M ∧ (p d = true → elt (ρf d) M = .ok (e d) M)) :
    compLoop (.live N xs.length) bind cond elt xs.length 0 [] M = .ok ((xs.filter p).map e) M := by
  have := comp_live' (bind := bind) (cond := cond) (elt := elt) (M := M) (N := N) p e ρf xs [] [] hM h
  simpa using this
def isStr : D → Bool
  | .str _ => true
  | _ => false
def links1 (r : D) : List D := ((subs (sndD r)).map sndD).filter isStr
def linksL (xs : List D) : List D := xs.flatMap links1
theorem set_len {M : MH} {o p : MO} : (M ++ [o]).set M.length p = M ++ [p] := by simp
theorem get_len {M : MH} {o : MO} : (M ++ [o])[M.length]? = some o := by simp
theorem b_isStr {d : D} {M : MH} (h : plain d = true) : biD false "isinstance" [d, .ty "str"] M = .ok (.bl (isStr d)) M := by
  cases d <;> first | rfl | cases h
def twos (xs : List D) : Prop := ∀ r ∈ xs, ∃ a b, r = .tup [a, b]
theorem links_len {xs : List D} (h1 : ∀ r ∈ xs, (subs (sndD r)).length ≤ 1000) : (linksL xs).length ≤ xs.length * 1000 := by
  induction xs with
  | nil => simp [linksL]
  | cons x r ih =>
    have e : linksL (x :: r) = links1 x ++ linksL r := rfl
    have h2 : (links1 x).length ≤ (subs (sndD x)).length := by
      unfold links1
      refine Nat.le_trans (List.length_filter_le _ _) ?_
      simp
    have := h1 x (by simp)
    have := ih fun r hr => h1 r (List.mem_cons_of_mem _ hr)
    rw [e, List.length_append, List.length_cons, Nat.succ_mul]
    omega
theorem links_app (xs : List D) (d : D) : linksL (xs ++ [d]) = linksL xs ++ links1 d := by
  unfold linksL
  simp
theorem c_links_in (n : Nat) (xs : List D) (M : MH) (hl : xs.length ≤ 1000) (h : ∀ r ∈ xs, ∃ a ys, r = .tup [a, .tup ys] ∧ ys.length ≤ 1000 ∧ ∀ y ∈ ys, ∃ c e, y = .tup [c, e] ∧ plain e = true) :
    callN T (n + 1) 8 [.tup xs] M = .ok (.ref M.length) (M ++ [.lst (linksL xs)]) := by
  refine c_rt (T := T) (np := 1) (ns := 6) (body := B8) rfl rfl (x_set (M1 := M ++ [.lst []]) (d := .ref M.length) rfl ?_)
  have hlen : ∀ r ∈ xs, (subs (sndD r)).length ≤ 1000 := by
    intro r hr
    obtain ⟨a, ys, rfl, h1, _⟩ := h r hr
    exact h1
  obtain ⟨ρ', M', hf, ⟨o2, o3, rfl⟩, rfl⟩ := for_inv0 (tg := .tup [2, 3]) (body := exSs (callN T n) (.cons (.expr (.meth "extend" (.var 1) (.cons (.comp false (.var 5) (.tup [4, 5]) (.seq (.var 3)) (.some (.bi false "isinstance" (.cons (.var 5) (.cons (.glob "str" (.ty "str")) .nil))))) .nil))) .nil))
    (fun pre ρ M' => (∃ o2 o3, ρ = [some (.tup xs), some (.ref M.length), o2, o3, none, none]) ∧ M' = M ++ [.lst (linksL pre)]) xs [some (.tup xs), some (.ref M.length), none, none, none, none] (M ++ [.lst []]) ⟨⟨_, _, rfl⟩, rfl⟩ (by
    rintro pre d suf _ _ es ⟨⟨o2, o3, rfl⟩, rfl⟩
    have hd : d ∈ xs := by rw [es]; simp
    obtain ⟨a, ys, rfl, h1, h2⟩ := h d hd
    refine ⟨[some (.tup xs), some (.ref M.length), some a, some (.tup ys), none, none], [some (.tup xs), some (.ref M.length), some a, some (.tup ys), none, none], M ++ [.lst (linksL (pre ++ [.tup [a, .tup ys]]))], rfl, ?_, ⟨_, _, rfl⟩, rfl⟩
    have cm := comp_all (M := M ++ [.lst (linksL pre)]) (bind := fun d => bindT (.tup [4, 5]) d (wipeR [some (.tup xs), some (.ref M.length), some a, some (.tup ys), none, none] (Tg.tup [4, 5]).own)) (cond := evIf (callN T n) (.some (.bi false "isinstance" (.cons (.var 5) (.cons (.glob "str" (.ty "str")) .nil))))) (elt := ev (callN T n) (.var 5)) (fun r => isStr (sndD r)) sndD (fun r => [some (.tup xs), some (.ref M.length), some a, some (.tup ys), some (fstD r), some (sndD r)]) ys (by
      intro y hy
      obtain ⟨c, e, rfl, he⟩ := h2 y hy
      refine ⟨rfl, t_bi (ds := [e, .ty "str"]) rfl (b_isStr he), fun _ => rfl⟩)
    have e1 : (ys.filter fun r => isStr (sndD r)).map sndD = links1 (.tup [a, .tup ys]) := by
      show _ = (ys.map sndD).filter isStr
      rw [List.filter_map]
      rfl
    rw [e1] at cm
    have b1 : (linksL xs).length ≤ 1000000 := by
      have := links_len hlen
      omega
    have b2 : (linksL pre).length + (links1 (.tup [a, .tup ys])).length ≤ sizeLine := by
      have : (linksL (pre ++ .tup [a, .tup ys] :: suf)).length ≤ 1000000 := by rw [← es]; exact b1
      have e2 : linksL (pre ++ .tup [a, .tup ys] :: suf) = linksL pre ++ (links1 (.tup [a, .tup ys]) ++ linksL suf) := by
        unfold linksL
        rw [List.flatMap_append, List.flatMap_cons]
      rw [e2, List.length_append, List.length_append] at this
      have : (1000000 : Nat) ≤ sizeLine := by decide
      omega
    have ec := e_comp (m := false) (i_seq' (cl := callN T n) (ρ := [some (D.tup xs), some (D.ref M.length), some a, some (D.tup ys), none, none]) (M := M ++ [MO.lst (linksL pre)]) (a := .var 3) (d := .tup ys) rfl rfl) cm rfl
    refine x_expr (M1 := M ++ [MO.lst (linksL (pre ++ [.tup [a, .tup ys]]))]) (d := .non) (e_meth (x := .ref M.length) (M1 := M ++ [MO.lst (linksL pre)]) (M2 := M ++ [MO.lst (linksL pre)]) (ds := [.lst (links1 (.tup [a, .tup ys]))]) rfl ?_ (l_cons' ec l_nil') ?_) x_nil
    · show (getL (M ++ [.lst (linksL pre)]) (.ref M.length)).isSome = true
      simp [getL]
    · show mtExtend (.ref M.length) [.lst (links1 (.tup [a, .tup ys]))] (M ++ [.lst (linksL pre)]) = _
      simp only [mtExtend, get_len, getL, b2, if_true, set_len, links_app])
  exact x_for (i_seq' (d := .tup xs) rfl rfl) hf (x_ret rfl)
/-! ### is_schema -/
def inB (x : D) (xs : List D) : Bool := (inD [] x (.lst xs)).getD false
theorem in_ok {n : Nat} {x : D} {xs : List D} {M : MH} (hn : n ≤ 60) (hx : Ok n x) (h : ∀ d ∈ xs, Ok n d) : inD M x (.lst xs) = some (inB x xs) := by
  obtain ⟨p, q1, q2, q3⟩ := hx.py
  obtain ⟨ps, k1, k2, k3, k4⟩ := py_all fun d hd => (h d hd).py
  have s1 : SeqAt.shaped (.list ps) = true := by
    unfold SeqAt.shaped
    have : PyData.depth (.list ps) ≤ 64 := by simp only [PyData.depth]; omega
    rw [show PyData.canLay0 (.list ps) = true from k2, decide_eq_true this]; rfl
  have s2 : SeqAt.shaped p = true := by
    unfold SeqAt.shaped
    rw [q2, decide_eq_true (show PyData.depth p ≤ 64 by omega)]; rfl
  have e1 : ∀ M, pyM M (.lst xs) = some (.list ps) := fun M => by simp only [pyM, py0, k1]
  have e2 : ∀ M, inD M x (.lst xs) = some (ps.any fun z => PyData.eqv z p) := by
    intro M
    have : inD M x (.lst xs) = (match py0 x, pyM M (.lst xs) with
      | some p, some (.list qs) => if (SeqAt.shaped p && SeqAt.shaped (.list qs)) = true then some (qs.any fun z => PyData.eqv z p) else none
      | _, _ => none) := by cases x <;> rfl
    rw [this, q1, e1]
    show (if (SeqAt.shaped p && SeqAt.shaped (.list ps)) = true then some (ps.any fun z => PyData.eqv z p) else none) = _
    rw [s1, s2]
    rfl
  unfold inB
  rw [e2 M, e2 []]
  rfl
def rowOf (names : List D) (r : D) : Bool := (links1 r).all fun d => inB d names
def schemaB : D → Bool
  | .tup xs => rowsB formB (.tup xs) && !xs.isEmpty && (linksL xs).all fun d => inB d (xs.map fstD)
  | _ => false
theorem form_rows {xs : List D} (h : rowsB formB (.tup xs) = true) : ∀ r ∈ xs, ∃ a ys, r = .tup [a, .tup ys] ∧ ∀ y ∈ ys, ∃ c e, y = .tup [c, e] := by
  obtain ⟨_, e, hx⟩ := rows_tt h
  cases e
  intro r hr
  obtain ⟨a, b, rfl, _, hb⟩ := hx r hr
  obtain ⟨ys, rfl, hy⟩ := rows_tt (show rowsB kindB b = true from hb)
  exact ⟨a, ys, rfl, fun y hy' => let ⟨c, e, h1, _⟩ := hy y hy'; ⟨c, e, h1⟩⟩
theorem link_ok {m : Nat} {xs : List D} (h : Ok (m + 4) (.tup xs)) (hr : ∀ r ∈ xs, ∃ a ys, r = .tup [a, .tup ys] ∧ ∀ y ∈ ys, ∃ c e, y = .tup [c, e]) : ∀ d ∈ linksL xs, Ok (m + 4) d := by
  intro d hd
  obtain ⟨r, h1, h2⟩ := List.mem_flatMap.mp hd
  obtain ⟨a, ys, rfl, hy⟩ := hr r h1
  obtain ⟨y, hy1, rfl⟩ := List.mem_map.mp (List.mem_filter.mp h2).1
  obtain ⟨c, e, rfl⟩ := hy y hy1
  have o1 := (ok_pair (h.sub _ h1)).2
  have o2 := (ok_pair (o1.sub _ hy1)).2
  exact o2.mono (by omega)
theorem c_is_schema {m : Nat} (n : Nat) (d : D) (M : MH) (hd : Ok (m + 4) d) (hm : m ≤ 50) : ∃ J, callN T (n + 10) 9 [d] M = .ok (.bl (schemaB d)) (M ++ J) := by
  have c1 : callN T (n + 9) 6 [d, .fn 7] M = .ok (.bl (rowsB formB d)) M := by
    refine c_is_named_rows (m := m + 3) (n + 6) 7 formB d M hd (fun r hr a b e _ => ?_) (fun r hr a b e => ?_)
    · exact c_is_form (m := m) n b M (row_ok (m := m + 2) hd r hr a b e).2
    · have := (row_ok (m := m + 2) hd r hr a b e).1
      exact ⟨this.plain, this.fits⟩
  cases hb : rowsB formB d with
  | false =>
    rw [hb] at c1
    have e : schemaB d = false := by
      unfold schemaB
      split
      · rw [hb]; rfl
      · rfl
    rw [e]
    refine ⟨[], ?_⟩
    rw [List.append_nil]
    exact c_rt (T := T) (np := 1) (ns := 4) (body := B9) rfl rfl (x_if_rt (t_or' (or_t (t_not' (k := false) (t_call (ds := [d, .fn 7]) rfl c1)))) (x_ret rfl))
  | true =>
    rw [hb] at c1
    obtain ⟨xs, rfl, hx⟩ := rows_tt hb
    have hfr := form_rows hb
    have e0 : cmpD .Eq (.tup xs) (.tup []) M = some xs.isEmpty := eq_nil_t (n := m + 3) (by omega) hd.sub
    cases he : xs.isEmpty with
    | true =>
      rw [he] at e0
      have e : schemaB (.tup xs) = false := by
        show (rowsB formB (.tup xs) && !xs.isEmpty && _) = false
        rw [he, Bool.not_true, Bool.and_false, Bool.false_and]
      rw [e]
      refine ⟨[], ?_⟩
      rw [List.append_nil]
      exact c_rt (T := T) (np := 1) (ns := 4) (body := B9) rfl rfl (x_if_rt (t_or' (or_f (t_not' (k := true) (t_call (ds := [.tup xs, .fn 7]) rfl c1)) (or_1 (t_cmp' (x := .tup xs) (y := .tup []) rfl rfl e0)))) (x_ret rfl))
    | false =>
      rw [he] at e0
      have e : schemaB (.tup xs) = (linksL xs).all fun d => inB d (xs.map fstD) := by
        show (rowsB formB (.tup xs) && !xs.isEmpty && _) = _
        rw [he, hb]
        rfl
      rw [e]
      refine ⟨[.lst (linksL xs)], ?_⟩
      refine c_rt (T := T) (np := 1) (ns := 4) (body := B9) rfl rfl (x_if_f (t_or' (or_f (t_not' (k := true) (t_call (ds := [.tup xs, .fn 7]) rfl c1)) (or_1 (t_cmp' (x := .tup xs) (y := .tup []) rfl rfl e0)))) ?_)
      refine x_set (M1 := M) (d := .lst (xs.map fstD)) (e_comp (i_seq' (d := .tup xs) rfl rfl) (comp_all (fun _ => true) fstD (fun r => [some (.tup xs), none, some (fstD r), some (sndD r)]) xs (fun r hr => ?_)) (by rw [filter_tt]; rfl)) ?_
      · obtain ⟨a, ys, rfl, _⟩ := hfr r hr
        exact ⟨rfl, rfl, fun _ => rfl⟩
      · have cl := c_links_in (n + 8) xs M hd.len (fun r hr => by
          obtain ⟨a, ys, rfl, hy⟩ := hfr r hr
          have o1 := (ok_pair (hd.sub _ hr)).2
          refine ⟨a, ys, rfl, o1.len, fun y hy' => ?_⟩
          obtain ⟨c, e, rfl⟩ := hy y hy'
          exact ⟨c, e, rfl, (ok_pair (o1.sub _ hy')).2.plain⟩)
        have okl := link_ok hd hfr
        have okn : ∀ d ∈ xs.map fstD, Ok (m + 4) d := by
          intro d hd'
          obtain ⟨r, hr, rfl⟩ := List.mem_map.mp hd'
          obtain ⟨a, ys, rfl, _⟩ := hfr r hr
          exact (ok_pair (hd.sub _ hr)).1.mono (by omega)
        have cm := comp_live (M := M ++ [.lst (linksL xs)]) (N := M.length) (bind := fun d => bindT (.name 2) d (wipeR [some (.tup xs), some (.lst (xs.map fstD)), none, none] (Tg.name 2).own)) (cond := evIf (callN T (n + 9)) .none) (elt := ev (callN T (n + 9)) (.cmp .In (.var 2) (.var 1))) (fun _ => true) (fun d => .bl (inB d (xs.map fstD))) (fun d => [some (.tup xs), some (.lst (xs.map fstD)), some d, none]) (linksL xs) get_len (fun d hd' => ⟨rfl, rfl, fun _ => e_cmp (x := d) (y := .lst (xs.map fstD)) rfl rfl (in_ok (n := m + 4) (by omega) (okl d hd') okn)⟩)
        rw [filter_tt] at cm
        refine x_ret (e_bi (l_cons' (e_comp (i_seq' (e_call (ds := [.tup xs]) rfl cl) ?_) cm rfl) l_nil') ?_)
        · show (match (M ++ [.lst (linksL xs)])[M.length]? with | some (.lst ys) => some (Src.live M.length ys.length) | _ => none) = _
          rw [get_len]
        · rw [all_of (bools_of _ _), all_id]
end Law
namespace Law
open PySem PySem.Spec PyProof.Rows L2 Mi

theorem cmp_ne_nil {n : Nat} {xs : List D} {M : MH} (hn : n ≤ 60) (h : ∀ d ∈ xs, Ok n d) : cmpD .NotEq (.lst xs) (.lst []) M = some (!xs.isEmpty) := by
  show (eqD M (.lst xs) (.lst [])).map (!·) = _
  rw [eq_nil_l hn h]
  rfl
theorem links_all (xs : List D) (f : D → Bool) : (linksL xs).all f = xs.all fun r => (links1 r).all f := by
  unfold linksL
  rw [List.all_flatMap]
theorem links1_all (r : D) (f : D → Bool) : (links1 r).all f = (subs (sndD r)).all fun y => !(isStr (sndD y) && !f (sndD y)) := by
  unfold links1
  rw [List.all_filter, List.all_map]
  congr 1
  funext y
  show (!isStr (sndD y) || f (sndD y)) = _
  cases isStr (sndD y) <;> cases f (sndD y) <;> rfl
theorem all_and {α : Type} (f g : α → Bool) (xs : List α) : (xs.all fun x => f x && g x) = (xs.all f && xs.all g) := by
  induction xs with
  | nil => rfl
  | cons x r ih =>
    simp only [List.all_cons, ih]
    cases f x <;> cases g x <;> cases r.all f <;> cases r.all g <;> rfl
theorem schema_law (xs : List D) : schemaB (.tup xs) = (rowsB tt (.tup xs) && !xs.isEmpty && xs.all fun r => formB (sndD r) && rowOf (xs.map fstD) r) := by
  show (rowsB formB (.tup xs) && !xs.isEmpty && (linksL xs).all fun d => inB d (xs.map fstD)) = _
  rw [rows_split, links_all, all_and]
  show _ = (rowsB tt (.tup xs) && !xs.isEmpty && ((xs.all fun r => formB (sndD r)) && xs.all fun r => (links1 r).all fun d => inB d (xs.map fstD)))
  cases rowsB tt (.tup xs) <;> cases xs.isEmpty <;> cases (xs.all fun r => formB (sndD r)) <;> rfl
theorem c_law_schemed {m : Nat} (n : Nat) (d : D) (M : MH) (hd : Ok (m + 4) d) (hm : m ≤ 50) : callN T (n + 4) 18 [d] M = .ok (.bl (schemaB d)) M := by
  have c1 : callN T (n + 3) 16 [d] M = .ok (.bl (rowsB tt d)) M := c_law_pairs_of (m := m + 2) (n + 1) d M hd
  cases hb : rowsB tt d with
  | false =>
    rw [hb] at c1
    have e : schemaB d = false := by
      cases d with
      | tup xs => rw [schema_law, hb]; rfl
      | _ => rfl
    rw [e]
    exact c_rt (T := T) (np := 1) (ns := 7) (body := B18) rfl rfl (x_if_rt (t_or' (or_t (t_not' (k := false) (t_call (ds := [d]) rfl c1)))) (x_ret rfl))
  | true =>
    rw [hb] at c1
    obtain ⟨xs, rfl, hx⟩ := rows_tt hb
    have e0 : cmpD .Eq (.tup xs) (.tup []) M = some xs.isEmpty := eq_nil_t (n := m + 3) (by omega) hd.sub
    rw [schema_law, hb, Bool.true_and]
    cases he : xs.isEmpty with
    | true =>
      rw [he] at e0
      exact c_rt (T := T) (np := 1) (ns := 7) (body := B18) rfl rfl (x_if_rt (t_or' (or_f (t_not' (k := true) (t_call (ds := [.tup xs]) rfl c1)) (or_1 (t_cmp' (x := .tup xs) (y := .tup []) rfl rfl e0)))) (x_ret rfl))
    | false =>
      rw [he] at e0
      rw [Bool.not_false, Bool.true_and]
      refine c_rt (T := T) (np := 1) (ns := 7) (body := B18) rfl rfl (x_if_f (t_or' (or_f (t_not' (k := true) (t_call (ds := [.tup xs]) rfl c1)) (or_1 (t_cmp' (x := .tup xs) (y := .tup []) rfl rfl e0)))) ?_)
      refine x_set (M1 := M) (d := .lst (xs.map fstD)) (e_comp (i_seq' (d := .tup xs) rfl rfl) (comp_all (fun _ => true) fstD (fun r => [some (.tup xs), none, none, none, some r, none, none]) xs (fun r hr => ?_)) (by rw [filter_tt]; rfl)) ?_
      · obtain ⟨a, b, rfl, _⟩ := hx r hr
        exact ⟨rfl, rfl, fun _ => e_idx rfl rfl (atI_0 _ _)⟩
      · have okn : ∀ d ∈ xs.map fstD, Ok (m + 4) d := by
          intro d hd'
          obtain ⟨r, hr, rfl⟩ := List.mem_map.mp hd'
          obtain ⟨a, ys, rfl, _⟩ := hx r hr
          exact (ok_pair (hd.sub _ hr)).1.mono (by omega)
        have hf := for_all0 (tg := .tup [2, 3]) (M := M) (r := .bl false) (body := exSs (callN T (n + 3)) (.cons (.ifs (.not (.call 17 (.cons (.var 3) .nil))) (.cons (.ret (.const (.bl false))) .nil) .nil) (.cons (.ifs (.cmp .NotEq (.comp false (.var 6) (.tup [5, 6]) (.seq (.var 3)) (.some (.and (.cons (.bi false "isinstance" (.cons (.var 6) (.cons (.glob "str" (.ty "str")) .nil))) (.cons (.cmp .NotIn (.var 6) (.var 1)) .nil))))) (.lst false .nil)) (.cons (.ret (.const (.bl false))) .nil) .nil) .nil))) (fun r => formB (sndD r) && rowOf (xs.map fstD) r) (fun ρ => ∃ o2 o3, ρ = [some (.tup xs), some (.lst (xs.map fstD)), o2, o3, none, none, none]) xs [some (.tup xs), some (.lst (xs.map fstD)), none, none, none, none, none] ⟨_, _, rfl⟩ (by
          rintro _ r hr ⟨o2, o3, rfl⟩
          obtain ⟨a, b, rfl, _, _⟩ := hx r hr
          refine ⟨[some (.tup xs), some (.lst (xs.map fstD)), some a, some b, none, none, none], rfl, ?_⟩
          have okb := (ok_pair (hd.sub _ hr)).2
          have cf := c_law_formed (m := m) n b M (okb.mono (by omega)) hm
          show ((formB b && rowOf (xs.map fstD) (.tup [a, b])) = true ∧ _) ∨ ((formB b && rowOf (xs.map fstD) (.tup [a, b])) = false ∧ _)
          cases hfb : formB b with
          | false =>
            rw [hfb] at cf
            exact .inr ⟨rfl, x_if_rt (t_not' (k := false) (t_call (ds := [b]) rfl cf)) (x_ret rfl)⟩
          | true =>
            rw [hfb] at cf
            rw [Bool.true_and]
            obtain ⟨ys, rfl, hy⟩ := rows_tt (show rowsB kindB b = true from hfb)
            have cm := comp_all (M := M) (bind := fun d => bindT (.tup [5, 6]) d (wipeR [some (.tup xs), some (.lst (xs.map fstD)), some a, some (.tup ys), none, none, none] (Tg.tup [5, 6]).own)) (cond := evIf (callN T (n + 3)) (.some (.and (.cons (.bi false "isinstance" (.cons (.var 6) (.cons (.glob "str" (.ty "str")) .nil))) (.cons (.cmp .NotIn (.var 6) (.var 1)) .nil))))) (elt := ev (callN T (n + 3)) (.var 6)) (fun y => isStr (sndD y) && !inB (sndD y) (xs.map fstD)) sndD (fun y => [some (.tup xs), some (.lst (xs.map fstD)), some a, some (.tup ys), none, some (fstD y), some (sndD y)]) ys (by
              intro y hy'
              obtain ⟨c, e, rfl, _⟩ := hy y hy'
              have oke := (ok_pair (okb.sub _ hy')).2
              refine ⟨rfl, t_and' (and_2 (t_bi (ds := [e, .ty "str"]) rfl (b_isStr oke.plain)) fun _ => and_1 (t_cmp' (x := e) (y := .lst (xs.map fstD)) rfl rfl ?_)), fun _ => rfl⟩
              show (inD M e (.lst (xs.map fstD))).map (!·) = _
              rw [in_ok (n := m + 4) (by omega) (oke.mono (by omega)) okn]
              rfl)
            have ec := e_comp (m := false) (i_seq' (cl := callN T (n + 3)) (ρ := [some (D.tup xs), some (.lst (xs.map fstD)), some a, some (D.tup ys), none, none, none]) (M := M) (a := .var 3) (d := .tup ys) rfl rfl) cm rfl
            have en : cmpD .NotEq (.lst ((ys.filter fun y => isStr (sndD y) && !inB (sndD y) (xs.map fstD)).map sndD)) (.lst []) M = some (!rowOf (xs.map fstD) (.tup [a, .tup ys])) := by
              rw [cmp_ne_nil (n := m + 4) (by omega) (by
                intro d hd'
                obtain ⟨y, hy1, rfl⟩ := List.mem_map.mp hd'
                have hy2 := (List.mem_filter.mp hy1).1
                obtain ⟨c, e, rfl, _⟩ := hy y hy2
                exact (ok_pair (okb.sub _ hy2)).2.mono (by omega))]
              unfold rowOf
              rw [links1_all]
              show some (!((ys.filter _).map sndD).isEmpty) = _
              rw [List.isEmpty_map, isEmpty_filter]
              rfl
            have tc := t_cmp' ec (y := .lst []) (b := .lst false .nil) rfl en
            have t1 := t_not' (k := true) (t_call (cl := callN T (n + 3)) (as := .cons (.var 3) .nil) (ρ := [some (.tup xs), some (.lst (xs.map fstD)), some a, some (.tup ys), none, none, none]) (ds := [.tup ys]) rfl cf)
            cases hr' : rowOf (xs.map fstD) (.tup [a, .tup ys]) with
            | true =>
              rw [hr'] at tc
              exact .inl ⟨rfl, _, x_if_f t1 (x_if_f tc x_nil), _, _, rfl⟩
            | false =>
              rw [hr'] at tc
              exact .inr ⟨rfl, x_if_f t1 (x_if_rt tc (x_ret rfl))⟩)
        rcases hf with ⟨ha, ρ', hf, o2, o3, rfl⟩ | ⟨ha, hf⟩
        · rw [ha]
          exact x_for (i_seq' (d := .tup xs) rfl rfl) hf (x_ret rfl)
        · rw [ha]
          exact x_for_rt (i_seq' (d := .tup xs) rfl rfl) hf
/-! ### _law_right -/
def four (a b c d : Bool) : Str := (reprD (.lst [.bl a, .bl b, .bl c, .bl d]) []).getD ""
theorem repr4 (a b c d : Bool) (M : MH) : biD false "repr" [.lst [.bl a, .bl b, .bl c, .bl d]] M = .ok (.str (four a b c d)) M := by
  have h : reprD (.lst [.bl a, .bl b, .bl c, .bl d]) [] = some (four a b c d) := by
    cases a <;> cases b <;> cases c <;> cases d <;> decide +kernel
  have h2 : reprD (.lst [.bl a, .bl b, .bl c, .bl d]) M = some (four a b c d) := h
  rw [bq_repr]
  simp only [biRepr, h2, Option.map, resO]
theorem eq4 (a b c d : Bool) (M : MH) : cmpD .Eq (.str (four a b c d)) (.str (four a b c d)) M = some true := by
  show some (decide _) = _
  rw [decide_eq_true rfl]
theorem c_law_right {m : Nat} (n : Nat) (d : D) (M : MH) (hd : Ok (m + 4) d) (hm : m ≤ 40) : ∃ J, callN T (n + 11) 25 [d] M = .ok (.bl true) (M ++ J) := by
  obtain ⟨J, cs⟩ := c_is_schema n d M hd (by omega)
  refine ⟨J, ?_⟩
  have e1 : callN T (n + 10) 13 [d] M = .ok (.bl (nameB d)) M := c_law_named (n + 9) d M hd
  have e2 : callN T (n + 10) 15 [d] M = .ok (.bl (kindB d)) M := c_law_kinded (n + 8) d M hd
  have e3 : callN T (n + 10) 17 [d] M = .ok (.bl (formB d)) M := c_law_formed (m := m + 1) (n + 7) d M hd (by omega)
  have e4 : callN T (n + 10) 18 [d] M = .ok (.bl (schemaB d)) M := c_law_schemed (n + 6) d M hd (by omega)
  have f1 : callN T (n + 10) 1 [d] M = .ok (.bl (nameB d)) M := c_is_name (n + 9) d M hd.plain hd.fits
  have f2 : callN T (n + 10) 4 [d] M = .ok (.bl (kindB d)) M := c_is_kind (n + 6) d M hd.plain hd.fits (subs_plain hd)
  have f3 : callN T (n + 10) 7 [d] M = .ok (.bl (formB d)) M := c_is_form (m := m + 2) (n + 3) d M hd
  refine c_rt (T := T) (np := 1) (ns := 2) (body := B25) rfl rfl (x_set (M1 := M) (d := .lst [.bl (nameB d), .bl (kindB d), .bl (formB d), .bl (schemaB d)]) ?_ ?_)
  · exact e_lst (l_cons' (e_call (ds := [d]) rfl e1) (l_cons' (e_call (ds := [d]) rfl e2) (l_cons' (e_call (ds := [d]) rfl e3) (l_cons' (e_call (ds := [d]) rfl e4) l_nil')))) (by simp only [List.length_cons, List.length_nil]; decide) rfl
  · refine x_ret (e_cmp (M1 := M ++ J) (M2 := M ++ J) (x := .str (four (nameB d) (kindB d) (formB d) (schemaB d))) (y := .str (four (nameB d) (kindB d) (formB d) (schemaB d))) ?_ ?_ (eq4 _ _ _ _ (M ++ J)))
    · have hl := e_lst (m := false) (d := .lst [.bl (nameB d), .bl (kindB d), .bl (formB d), .bl (schemaB d)]) (l_cons' (e_call (cl := callN T (n + 10)) (ρ := [some d, some (.lst [.bl (nameB d), .bl (kindB d), .bl (formB d), .bl (schemaB d)])]) (as := .cons (.var 0) .nil) (ds := [d]) rfl f1) (l_cons' (e_call (as := .cons (.var 0) .nil) (ds := [d]) rfl f2) (l_cons' (e_call (as := .cons (.var 0) .nil) (ds := [d]) rfl f3) (l_cons' (e_call (as := .cons (.var 0) .nil) (ds := [d]) rfl cs) l_nil')))) (by simp only [List.length_cons, List.length_nil]; decide) rfl
      exact e_bi (l_cons' hl l_nil') (repr4 _ _ _ _ _)
    · exact e_bi (ds := [.lst [.bl (nameB d), .bl (kindB d), .bl (formB d), .bl (schemaB d)]]) rfl (repr4 _ _ _ _ _)
end Law
namespace Law
open PySem PySem.Spec PyProof.Rows L2 Mi

def feedO (ns : List Int) (a l c : Int) : MO := .dict [(.inr "cells", .lst (ns.map D.int)), (.inr "at", .int a), (.inr "left", .int l), (.inr "count", .int c)]
def Fed (ns : List Int) (R : MH) (M : MH) : Prop := ∃ a l c, 0 ≤ a ∧ M = feedO ns a l c :: R
section
variable (ns : List Int) (a l c : Int) (R : MH)
theorem f_cells : idxD (.ref 0) (.str "cells") (feedO ns a l c :: R) = some (.lst (ns.map D.int)) := rfl
theorem f_at : idxD (.ref 0) (.str "at") (feedO ns a l c :: R) = some (.int a) := rfl
theorem f_left : idxD (.ref 0) (.str "left") (feedO ns a l c :: R) = some (.int l) := rfl
theorem f_count : idxD (.ref 0) (.str "count") (feedO ns a l c :: R) = some (.int c) := rfl
theorem s_at (v : Int) : putD [(.inr "cells", .lst (ns.map D.int)), (.inr "at", .int a), (.inr "left", .int l), (.inr "count", .int c)] (.inr "at") (.int v) = [(.inr "cells", .lst (ns.map D.int)), (.inr "at", .int v), (.inr "left", .int l), (.inr "count", .int c)] := rfl
theorem s_left (v : Int) : putD [(.inr "cells", .lst (ns.map D.int)), (.inr "at", .int a), (.inr "left", .int l), (.inr "count", .int c)] (.inr "left") (.int v) = [(.inr "cells", .lst (ns.map D.int)), (.inr "at", .int a), (.inr "left", .int v), (.inr "count", .int c)] := rfl
theorem s_count (v : Int) : putD [(.inr "cells", .lst (ns.map D.int)), (.inr "at", .int a), (.inr "left", .int l), (.inr "count", .int c)] (.inr "count") (.int v) = [(.inr "cells", .lst (ns.map D.int)), (.inr "at", .int a), (.inr "left", .int l), (.inr "count", .int v)] := rfl
end
theorem b_mod {m : Bool} {i j : Int} {M : MH} (h : 0 < j) : binD m .Mod (.int i) (.int j) M = .ok (.int (i % j)) M := by
  simp only [binD, h, if_true]
theorem b_div {m : Bool} {i j : Int} {M : MH} (h : 0 < j ∧ j < 1073741824) : binD m .FloorDiv (.int i) (.int j) M = .ok (.int (i / j)) M := by
  simp only [binD, h, if_true, and_self]
theorem b_mul {m : Bool} {i j : Int} {M : MH} (h : mulOk i j = true) : binD m .Mult (.int i) (.int j) M = .ok (.int (i * j)) M := by
  simp only [binD, h, if_true]
theorem mulOk_l {i j : Int} (h : -(2 ^ 64) < i ∧ i < 2 ^ 64) : mulOk i j = true := by
  unfold mulOk
  rw [decide_eq_true h.1, decide_eq_true h.2]
  rfl
theorem ne_ints {ns : List Int} {M : MH} : cmpD .NotEq (.lst (ns.map D.int)) (.lst []) M = some (!ns.isEmpty) := by
  rw [cmp_ne_nil (n := 0) (by omega) ok_int, List.isEmpty_map]
theorem e_int {cl : Calls} {ρ : Rho} {M M1 : MH} {a : C} {i : Int} (h : ev cl a ρ M = .ok (.int i) M1) : ev cl (.bi false "int" (.cons a .nil)) ρ M = .ok (.int i) M1 := e_bi (l_cons' h l_nil') rfl
theorem c_draw (n : Nat) (ns : List Int) (R : MH) (M : MH) (m : Int) (hM : Fed ns R M) (hm : 0 < m ∧ m < 1073741824) : ∃ r M', callN T (n + 1) 11 [.ref 0, .int m] M = .ok (.int r) M' ∧ Fed ns R M' ∧ 0 ≤ r ∧ r < m := by
  obtain ⟨a, l, c, ha, rfl⟩ := hM
  by_cases hl : 0 < l
  · refine ⟨l % m, feedO ns a (l / m) (c + 1) :: R, ?_, ⟨_, _, _, ha, rfl⟩, Int.emod_nonneg _ (by omega), Int.emod_lt_of_pos _ hm.1⟩
    refine c_rt (T := T) (np := 2) (ns := 6) (body := B11) rfl rfl ?_
    refine x_setIx (d := .int (c + 1)) (M1 := feedO ns a l c :: R) (M2 := feedO ns a l c :: R) (n := 0) (e_bin (e_idx (x := .ref 0) (y := .str "count") rfl rfl (f_count ns a l c R)) (y := .int 1) rfl rfl) rfl rfl (show 4 < 1000 by decide) ?_
    rw [s_count]
    refine x_if_rt (M1 := feedO ns a l (c + 1) :: R) (t_cmp' (e_idx (x := .ref 0) (y := .str "left") rfl rfl (f_left ns a l (c + 1) R)) (y := .int 0) rfl (by rw [cmp_gt_int, decide_eq_true hl])) ?_
    refine x_set (d := .int (l % m)) (e_bin (y := .int m) (e_int (e_idx (x := .ref 0) (y := .str "left") rfl rfl (f_left ns a l (c + 1) R))) rfl (b_mod hm.1)) ?_
    refine x_setIx (d := .int (l / m)) (M1 := feedO ns a l (c + 1) :: R) (M2 := feedO ns a l (c + 1) :: R) (n := 0) (e_bin (y := .int m) (e_idx (x := .ref 0) (y := .str "left") rfl rfl (f_left ns a l (c + 1) R)) rfl (b_div hm)) rfl rfl (show 4 < 1000 by decide) ?_
    rw [s_left]
    exact x_ret rfl
  · have st : ∀ (v : D) (M' : MH), exSs (callN T n) (.cons (.set 3 (.ife (.cmp .NotEq (.idx (.var 0) (.const (.str "cells"))) (.lst false .nil)) (.idx (.idx (.var 0) (.const (.str "cells"))) (.bin false .Mod (.bi false "int" (.cons (.var 2) .nil)) (.bi false "len" (.cons (.idx (.var 0) (.const (.str "cells"))) .nil)))) (.const (.int 37)))) (match B11 with | .cons _ (.cons _ (.cons _ (.cons _ (.cons _ r)))) => r | _ => .nil)) [some (.ref 0), some (.int m), some (.int a), none, none, none] (feedO ns (a + 1) l (c + 1) :: R) = .ok (.rt v) M' → callN T (n + 1) 11 [.ref 0, .int m] (feedO ns a l c :: R) = .ok v M' := by
      intro v M' hv
      refine c_rt (T := T) (np := 2) (ns := 6) (body := B11) rfl rfl ?_
      refine x_setIx (d := .int (c + 1)) (M1 := feedO ns a l c :: R) (M2 := feedO ns a l c :: R) (n := 0) (e_bin (e_idx (x := .ref 0) (y := .str "count") rfl rfl (f_count ns a l c R)) (y := .int 1) rfl rfl) rfl rfl (show 4 < 1000 by decide) ?_
      rw [s_count]
      refine x_if_f (M1 := feedO ns a l (c + 1) :: R) (t_cmp' (e_idx (x := .ref 0) (y := .str "left") rfl rfl (f_left ns a l (c + 1) R)) (y := .int 0) rfl (by rw [cmp_gt_int, decide_eq_false hl])) ?_
      refine x_set (d := .int a) (e_idx (x := .ref 0) (y := .str "at") rfl rfl (f_at ns a l (c + 1) R)) ?_
      refine x_setIx (d := .int (a + 1)) (M1 := feedO ns a l (c + 1) :: R) (M2 := feedO ns a l (c + 1) :: R) (n := 0) (e_bin (x := .int a) (y := .int 1) rfl rfl rfl) rfl rfl (show 4 < 1000 by decide) ?_
      rw [s_at]
      exact hv
    have cell : ∃ z : Int, ev (callN T n) (.ife (.cmp .NotEq (.idx (.var 0) (.const (.str "cells"))) (.lst false .nil)) (.idx (.idx (.var 0) (.const (.str "cells"))) (.bin false .Mod (.bi false "int" (.cons (.var 2) .nil)) (.bi false "len" (.cons (.idx (.var 0) (.const (.str "cells"))) .nil)))) (.const (.int 37))) [some (.ref 0), some (.int m), some (.int a), none, none, none] (feedO ns (a + 1) l (c + 1) :: R) = .ok (.int z) (feedO ns (a + 1) l (c + 1) :: R) := by
      have t1 := t_cmp' (cl := callN T n) (e_idx (cl := callN T n) (ρ := [some (.ref 0), some (.int m), some (.int a), none, none, none]) (a := .var 0) (b := .const (.str "cells")) (x := .ref 0) (y := .str "cells") rfl rfl (f_cells ns (a + 1) l (c + 1) R)) (b := .lst false .nil) (y := .lst []) rfl ne_ints
      cases he : ns.isEmpty with
      | true =>
        rw [he] at t1
        exact ⟨37, e_ife_f t1 rfl⟩
      | false =>
        rw [he] at t1
        have hpos : 0 < ns.length := by cases ns <;> simp_all
        have h0 : 0 ≤ a % (ns.length : Int) := Int.emod_nonneg _ (by omega)
        have h1 : a % (ns.length : Int) < ns.length := Int.emod_lt_of_pos _ (by omega)
        have g : ns[(a % (ns.length : Int)).toNat]? = some (ns[(a % (ns.length : Int)).toNat]'(by omega)) := List.getElem?_eq_getElem _
        refine ⟨ns[(a % (ns.length : Int)).toNat]'(by omega), e_ife_t t1 (e_idx (e_idx (x := .ref 0) (y := .str "cells") rfl rfl (f_cells ns (a + 1) l (c + 1) R)) (y := .int (a % (ns.length : Int))) (e_bin (y := .int (ns.map D.int).length) (e_int (i := a) rfl) (e_bi (l_cons' (e_idx (x := .ref 0) (y := .str "cells") rfl rfl (f_cells ns (a + 1) l (c + 1) R)) l_nil') rfl) ?_) ?_)⟩
        · rw [List.length_map]
          exact b_mod (by omega)
        · rw [idx_lst, atI_ok h0 (by rw [List.length_map]; exact h1), List.getElem?_map, g]
          rfl
    obtain ⟨z, hz⟩ := cell
    by_cases hbig : 10 ^ 18 ≤ z ∧ a < ns.length
    · refine ⟨z % m, feedO ns (a + 1) (z / m) (c + 1) :: R, st _ _ ?_, ⟨_, _, _, by omega, rfl⟩, Int.emod_nonneg _ (by omega), Int.emod_lt_of_pos _ hm.1⟩
      refine x_set hz (x_if_rt (M1 := feedO ns (a + 1) l (c + 1) :: R) (t_and' (and_t (t_cmp' (x := .int z) (y := .int (10 ^ 18)) rfl rfl (by rw [cmp_ge_int, decide_eq_true hbig.1])) (and_1 (t_cmp' (x := .int a) (y := .int (ns.map D.int).length) rfl (e_bi (l_cons' (e_idx (x := .ref 0) (y := .str "cells") rfl rfl (f_cells ns (a + 1) l (c + 1) R)) l_nil') rfl) (by rw [cmp_lt_int, List.length_map, decide_eq_true hbig.2]))))) ?_)
      refine x_setIx (d := .int (z / m)) (M1 := feedO ns (a + 1) l (c + 1) :: R) (M2 := feedO ns (a + 1) l (c + 1) :: R) (n := 0) (e_bin (x := .int z) (y := .int m) rfl rfl (b_div hm)) rfl rfl (show 4 < 1000 by decide) ?_
      rw [s_left]
      exact x_ret (e_bin (y := .int m) (e_int (i := z) rfl) rfl (b_mod hm.1))
    · have tc : evT (callN T n) (.and (.cons (.cmp .GtE (.var 3) (.bin false .Pow (.const (.int 10)) (.const (.int 18)))) (.cons (.cmp .Lt (.var 2) (.bi false "len" (.cons (.idx (.var 0) (.const (.str "cells"))) .nil))) .nil))) [some (.ref 0), some (.int m), some (.int a), some (.int z), none, none] (feedO ns (a + 1) l (c + 1) :: R) = .ok false (feedO ns (a + 1) l (c + 1) :: R) := by
        refine t_and' ?_
        have q := and_2 (k := decide ((10 : Int) ^ 18 ≤ z)) (k' := decide (a < ns.length)) (cl := callN T n) (ρ := [some (.ref 0), some (.int m), some (.int a), some (.int z), none, none]) (M := feedO ns (a + 1) l (c + 1) :: R) (a := .cmp .GtE (.var 3) (.bin false .Pow (.const (.int 10)) (.const (.int 18)))) (b := .cmp .Lt (.var 2) (.bi false "len" (.cons (.idx (.var 0) (.const (.str "cells"))) .nil))) (r := .nil) (t_cmp' (x := .int z) (y := .int (10 ^ 18)) rfl rfl rfl) (fun _ => and_1 (t_cmp' (x := .int a) (y := .int (ns.map D.int).length) rfl (e_bi (l_cons' (e_idx (x := .ref 0) (y := .str "cells") rfl rfl (f_cells ns (a + 1) l (c + 1) R)) l_nil') rfl) (by rw [cmp_lt_int, List.length_map])))
        rw [q]
        congr 1
        by_cases h1 : (10 : Int) ^ 18 ≤ z
        · rw [decide_eq_true h1, decide_eq_false (fun h2 => hbig ⟨h1, h2⟩)]; rfl
        · rw [decide_eq_false h1]; rfl
      let m1 : Int := (z % 1000000531 + 150001 * (c + 1) + 73) % 2147483477
      let m2 : Int := (m1 * m1 + 4200013 * (c + 1) + 41) % 2147483423
      have hm1 : 0 ≤ m1 ∧ m1 < 2147483477 := ⟨Int.emod_nonneg _ (by omega), Int.emod_lt_of_pos _ (by omega)⟩
      have hm2 : 0 ≤ m2 ∧ m2 < 2147483423 := ⟨Int.emod_nonneg _ (by omega), Int.emod_lt_of_pos _ (by omega)⟩
      refine ⟨((m2 * m2 + 89 * m2) % 2147483353 / 16) % m, feedO ns (a + 1) l (c + 1) :: R, st _ _ ?_, ⟨_, _, _, by omega, rfl⟩, Int.emod_nonneg _ (by omega), Int.emod_lt_of_pos _ hm.1⟩
      refine x_set hz (x_if_f tc ?_)
      have fc := fun (ρ : Rho) (h : ρ[0]? = some (some (.ref 0))) => e_idx (cl := callN T n) (ρ := ρ) (a := .var 0) (b := .const (.str "count")) (x := .ref 0) (y := .str "count") (M := feedO ns (a + 1) l (c + 1) :: R) (e_var h) rfl (f_count ns (a + 1) l (c + 1) R)
      refine x_set (d := .int m1) (e_bin (e_int (e_bin (e_bin (e_bin (e_int (i := z) rfl) (y := .int 1000000531) rfl (b_mod (by omega))) (e_bin (x := .int 150001) rfl (fc _ rfl) (b_mul (mulOk_l (by omega)))) rfl) (y := .int 73) rfl rfl)) (y := .int 2147483477) rfl (b_mod (by omega))) ?_
      refine x_set (d := .int m2) (e_bin (e_int (e_bin (e_bin (e_bin (x := .int m1) (y := .int m1) rfl rfl (b_mul (mulOk_l (by omega)))) (e_bin (x := .int 4200013) rfl (fc _ rfl) (b_mul (mulOk_l (by omega)))) rfl) (y := .int 41) rfl rfl)) (y := .int 2147483423) rfl (b_mod (by omega))) ?_
      exact x_ret (e_bin (e_int (e_bin (e_bin (e_int (e_bin (e_bin (x := .int m2) (y := .int m2) rfl rfl (b_mul (mulOk_l (by omega)))) (e_bin (x := .int 89) (y := .int m2) rfl rfl (b_mul (mulOk_l (by omega)))) rfl)) (y := .int 2147483353) rfl (b_mod (by omega))) (y := .int 16) rfl (b_div (by omega)))) (y := .int m) rfl (b_mod hm.1))
end Law
namespace Law
open PySem PySem.Spec PyProof.Rows L2 Mi

/-! ### ASCII texts -/
def asc (x : Str) : Bool := x.cps.toList.all fun c => decide (c < 128)
theorem asc_app {x y : Str} : asc (x ++ y) = (asc x && asc y) := by
  unfold asc
  rw [PySem.Str.cps_append, Array.toList_append, List.all_append]
theorem len_app (x y : Str) : (x ++ y).length = x.length + y.length := by
  show (x ++ y).cps.size = _
  rw [PySem.Str.cps_append, Array.size_append]
  rfl
theorem upper_asc : ∀ (l : List Nat), l.all (fun c => decide (c < 128)) = true → (Txt.upper ⟨l.toArray⟩).length = l.length ∧ asc (Txt.upper ⟨l.toArray⟩) = true
  | [], _ => by decide +kernel
  | c :: r, h => by
    rw [List.all_cons, Bool.and_eq_true] at h
    have hc : c < 128 := by simpa using h.1
    obtain ⟨i1, i2⟩ := upper_asc r h.2
    have e : (⟨(c :: r).toArray⟩ : Str) = (⟨#[c]⟩ : Str) ++ (⟨r.toArray⟩ : Str) := by
      apply PySem.Str.ext'
      rw [PySem.Str.cps_append]
      simp
    rw [e, PySem.W.KOpn.upper_app, PySem.W.KOpn.upper_one hc, len_app, i1, asc_app, i2]
    refine ⟨?_, ?_⟩
    · show 1 + r.length = _
      rw [List.length_cons]; omega
    · rw [Bool.and_true]
      unfold asc
      simp
      split <;> omega
theorem upper_ok {x : Str} (h : asc x = true) : (Txt.upper x).length = x.length ∧ asc (Txt.upper x) = true := by
  have e : x = ⟨x.cps.toList.toArray⟩ := by cases x; simp
  have := upper_asc x.cps.toList h
  rw [← e] at this
  exact ⟨by rw [this.1]; simp [PySem.Str.length], this.2⟩
theorem cutS_asc {x : Str} {lo hi : Option Int} (h : asc x = true) : asc (cutS x lo hi) = true := by
  unfold asc at *
  rw [List.all_eq_true] at *
  intro c hc
  refine h c ?_
  unfold cutS at hc
  exact List.mem_of_mem_drop (List.mem_of_mem_take hc)
theorem asc_ok {x : Str} (h : asc x = true) : PyData.strOk x = true := by
  unfold PyData.strOk
  rw [Array.all_eq_true']
  unfold asc at h
  rw [List.all_eq_true] at h
  intro c hc
  have := h c (Array.mem_toList_iff.mpr hc)
  simp at this ⊢
  omega
/-! ### small data -/
inductive Sm : Nat → D → Prop where
  | non {n : Nat} : Sm n .non
  | bl {n : Nat} (b : Bool) : Sm n (.bl b)
  | int {n : Nat} {i : Int} : i.natAbs ≤ 1000 + n → Sm n (.int i)
  | str {n : Nat} {x : Str} : x.length ≤ 40 + 8 * n → asc x = true → Sm n (.str x)
  | tup {n : Nat} {xs : List D} : (∀ d ∈ xs, Sm n d) → xs.length ≤ 100 + n → Sm (n + 1) (.tup xs)
  | lst {n : Nat} {xs : List D} : (∀ d ∈ xs, Sm n d) → xs.length ≤ 100 + n → Sm (n + 1) (.lst xs)
theorem Sm.up {n : Nat} {d : D} (h : Sm n d) : Sm (n + 1) d := by
  induction h with
  | non => exact .non
  | bl b => exact .bl b
  | int h => exact .int (by omega)
  | str h1 h2 => exact .str (by omega) h2
  | tup _ h ih => exact .tup ih (by omega)
  | lst _ h ih => exact .lst ih (by omega)
theorem Sm.mono {n m : Nat} {d : D} (h : Sm n d) (hm : n ≤ m) : Sm m d := by
  induction m with
  | zero => rw [show n = 0 by omega] at h; exact h
  | succ m ih =>
    by_cases e : n = m + 1
    · subst e; exact h
    · exact (ih (by omega)).up
theorem Sm.ok {n : Nat} {d : D} (h : Sm n d) : n ≤ 100 → Ok n d := by
  induction h with
  | non => intro _; exact .non
  | bl b => intro _; exact .bl b
  | int h => intro _; exact .int _
  | str h1 h2 => intro _; exact .str (by omega) (asc_ok h2)
  | tup _ h ih => intro _; exact .tup (fun d hd => ih d hd (by omega)) (by omega)
  | lst _ h ih => intro _; exact .lst (fun d hd => ih d hd (by omega)) (by omega)
mutual
def wt : D → Nat
  | .str x => x.length
  | .tup xs => wts xs
  | .lst xs => wts xs
  | _ => 0
def wts : List D → Nat
  | [] => 0
  | d :: r => wt d + 1 + wts r
end
theorem wts_app : ∀ (xs ys : List D), wts (xs ++ ys) = wts xs + wts ys
  | [], ys => by simp [wts]
  | x :: xs, ys => by
    rw [List.cons_append, wts, wts, wts_app xs ys]
    omega
theorem wts_take (xs : List D) (k : Nat) : wts (xs.take k) ≤ wts xs := by
  have := wts_app (xs.take k) (xs.drop k)
  rw [List.take_append_drop] at this
  omega
theorem wts_drop (xs : List D) (k : Nat) : wts (xs.drop k) ≤ wts xs := by
  have := wts_app (xs.take k) (xs.drop k)
  rw [List.take_append_drop] at this
  omega
theorem wts_rev : ∀ xs : List D, wts xs.reverse = wts xs
  | [] => rfl
  | x :: xs => by
    rw [List.reverse_cons, wts_app, wts_rev xs]
    simp only [wts]
    omega
theorem wts_cut (xs : List D) (lo hi : Option Int) : wts (Mi.cutD xs lo hi) ≤ wts xs := by
  unfold Mi.cutD
  exact Nat.le_trans (wts_take _ _) (wts_drop _ _)
theorem mem_cut {xs : List D} {lo hi : Option Int} {d : D} (h : d ∈ Mi.cutD xs lo hi) : d ∈ xs := by
  unfold Mi.cutD at h
  exact List.mem_of_mem_drop (List.mem_of_mem_take h)
theorem len_cut (xs : List D) (lo hi : Option Int) : (Mi.cutD xs lo hi).length ≤ xs.length := by
  unfold Mi.cutD
  simp
  omega
theorem len_last (xs : List D) : (Mi.cutD xs (some (-1)) none).length ≤ 1 := by
  unfold Mi.cutD
  rw [HT.sIx_none, List.length_take, List.length_drop]
  show min (xs.length - HT.sIx xs.length 0 (some (-1))) (xs.length - HT.sIx xs.length 0 (some (-1))) ≤ 1
  have : HT.sIx xs.length 0 (some (-1)) = ((-1 : Int) + xs.length).toNat := rfl
  omega
mutual
def smB : Nat → D → Bool
  | _, .non => true
  | _, .bl _ => true
  | n, .int i => decide (i.natAbs ≤ 1000 + n)
  | n, .str x => decide (x.length ≤ 40 + 8 * n) && asc x
  | n, .tup xs => match n with
    | 0 => false
    | n + 1 => smBs n xs && decide (xs.length ≤ 100 + n)
  | n, .lst xs => match n with
    | 0 => false
    | n + 1 => smBs n xs && decide (xs.length ≤ 100 + n)
  | _, _ => false
def smBs : Nat → List D → Bool
  | _, [] => true
  | n, d :: r => smB n d && smBs n r
end
mutual
theorem smB_ok : ∀ (n : Nat) (d : D), smB n d = true → Sm n d
  | n, .non, _ => .non
  | n, .bl b, _ => .bl b
  | n, .int i, h => .int (by simpa [smB] using h)
  | n, .str x, h => by
    simp [smB] at h
    exact .str h.1 h.2
  | 0, .tup xs, h => by simp [smB] at h
  | n + 1, .tup xs, h => by
    simp [smB] at h
    exact .tup (smBs_ok n xs h.1) h.2
  | 0, .lst xs, h => by simp [smB] at h
  | n + 1, .lst xs, h => by
    simp [smB] at h
    exact .lst (smBs_ok n xs h.1) h.2
  | _, .ref _, h => by simp [smB] at h
  | _, .fn _, h => by simp [smB] at h
  | _, .ty _, h => by simp [smB] at h
  | _, .scr _, h => by simp [smB] at h
theorem smBs_ok : ∀ (n : Nat) (ds : List D), smBs n ds = true → ∀ d ∈ ds, Sm n d
  | _, [], _ => by simp
  | n, d :: r, h => by
    simp [smBs] at h
    intro e he
    rcases List.mem_cons.mp he with he | he
    · rw [he]
      exact smB_ok n d h.1
    · exact smBs_ok n r h.2 e he
end
end Law
namespace Law
open PySem PySem.Spec PyProof.Rows L2 Mi

theorem at_mem {L : List D} {i : Int} (h0 : 0 ≤ i) (h1 : i < L.length) : ∃ e ∈ L, atI L i = some e := by
  have g : L[i.toNat]? = some (L[i.toNat]'(by omega)) := List.getElem?_eq_getElem _
  exact ⟨_, List.getElem_mem _, by rw [atI_ok h0 h1, g]⟩
def oddL : List D := [.non, .bl true, .bl false, .int 0, .int (-1), .int 1, .str "", .str "a", .str "if", .tup [], .lst [], .tup [.str "self"], .tup [.str "none"], .tup [.str "x"], .str "X", .tup [.str "not", .int 1], .tup [.int 0, .int 1]]
theorem odd_ok : (oddL.all fun d => smB 1 d && decide (wt d ≤ 10)) = true := by decide +kernel
/-- what a bent thing is -/
structure Bent (ns : List Int) (R : MH) (n : Nat) (d r : D) (M' : MH) : Prop where
  fed : Fed ns R M'
  sm : Sm (n + 1) r
  wt : wt r ≤ 2 * Law.wt d + 10
theorem c_odd (n k : Nat) (ns : List Int) (R M : MH) (d : D) (hM : Fed ns R M) : ∃ r M', callN T (k + 2) 21 [.ref 0] M = .ok r M' ∧ Bent ns R n d r M' := by
  obtain ⟨i, M', hd, hF, h0, h1⟩ := c_draw k ns R M 17 hM (by omega)
  obtain ⟨e, he, ha⟩ := at_mem (L := oddL) h0 h1
  have := List.all_eq_true.mp odd_ok e he
  rw [Bool.and_eq_true] at this
  refine ⟨e, M', ?_, hF, (smB_ok 1 e this.1).mono (by omega), ?_⟩
  · exact c_rt (T := T) (np := 1) (ns := 2) (body := B21) rfl rfl (x_set (M1 := M) (d := .lst oddL) rfl (x_ret (e_idx (x := .lst oddL) (y := .int i) rfl (e_call (ds := [.ref 0, .int 17]) rfl hd) ha)))
  · have := of_decide_eq_true this.2
    omega
def restB : Ss := match B22 with | .cons _ r => r | _ => .nil
def rest2 : Ss := match restB with | .cons _ r => r | _ => .nil
def rest3 : Ss := match rest2 with | .cons _ r => r | _ => .nil
def rest4 : Ss := match rest3 with | .cons _ r => r | _ => .nil
def rest5 : Ss := match rest4 with | .cons _ r => r | _ => .nil
theorem str_int : ∀ k, k < 1020 → (decide ((Str.ofString (toString (Int.ofNat k))).length ≤ 6) && asc (Str.ofString (toString (Int.ofNat k))) && (decide ((Str.ofString (toString (-(Int.ofNat k)))).length ≤ 6) && asc (Str.ofString (toString (-(Int.ofNat k)))))) = true := by
  have : ((List.range 1020).all fun k => (decide ((Str.ofString (toString (Int.ofNat k))).length ≤ 6) && asc (Str.ofString (toString (Int.ofNat k))) && (decide ((Str.ofString (toString (-(Int.ofNat k)))).length ≤ 6) && asc (Str.ofString (toString (-(Int.ofNat k))))))) = true := by decide +kernel
  intro k hk
  exact List.all_eq_true.mp this k (List.mem_range.mpr hk)
theorem str_of_int {i : Int} (h : i.natAbs < 1020) : (Str.ofString (toString i)).length ≤ 6 ∧ asc (Str.ofString (toString i)) = true := by
  have := str_int i.natAbs h
  simp only [Bool.and_eq_true, decide_eq_true_eq] at this
  rcases Int.natAbs_eq i with e | e
  · have e' : i = Int.ofNat i.natAbs := e
    rw [e']
    exact this.1
  · have e' : i = -(Int.ofNat i.natAbs) := e
    rw [e']
    exact this.2
theorem b_isT {d : D} {M : MH} (h : plain d = true) : biD false "isinstance" [d, .ty "tuple"] M = .ok (.bl (match d with | .tup _ => true | _ => false)) M := by
  cases d <;> first | rfl | cases h
theorem x_odd (n k : Nat) (ns : List Int) (R M : MH) (d : D) (ρ : Rho) (h0 : ρ[0]? = some (some (.ref 0))) (hM : Fed ns R M) : ∃ r M', exSs (callN T (k + 2)) rest5 ρ M = .ok (.rt r) M' ∧ Bent ns R n d r M' := by
  obtain ⟨r, M', h1, h2⟩ := c_odd n k ns R M d hM
  exact ⟨r, M', x_ret (e_call (l_cons' (e_var h0) l_nil') h1), h2⟩
/-- ints and bools -/
theorem bent_num (n k : Nat) (ns : List Int) (R M : MH) (d : D) (i w : Int) (hn : n ≤ 9) (hd : d = .int i ∨ ∃ b, d = .bl b ∧ i = if b = true then 1 else 0) (hi : i.natAbs ≤ 1000 + n) (hM : Fed ns R M) (h0 : 0 ≤ w) : ∃ r M', exSs (callN T (k + 2)) rest4 [some (.ref 0), some d, some (.int w), none, none] M = .ok (.rt r) M' ∧ Bent ns R n d r M' := by
  have hw : wt d = 0 := by rcases hd with rfl | ⟨b, rfl, _⟩ <;> rfl
  have hs : Sm n d := by rcases hd with rfl | ⟨b, rfl, _⟩; exact .int hi; exact .bl b
  have hnum : numD d = some i := by rcases hd with rfl | ⟨b, rfl, rfl⟩ <;> rfl
  have his : biD false "isinstance" [d, .ty "int"] M = .ok (.bl true) M := by rcases hd with rfl | ⟨b, rfl, _⟩ <;> rfl
  by_cases hlt : w < 6
  · have hstr : ∃ x : Str, biD false "str" [d] M = .ok (.str x) M ∧ x.length ≤ 6 ∧ asc x = true := by
      rcases hd with rfl | ⟨b, rfl, _⟩
      · have := str_of_int (i := i) (by omega)
        refine ⟨Str.ofString (toString i), ?_, this⟩
        rw [bq_str]
        have hl : i.natAbs.log2 < 1920 := by
          have := Nat.log2_lt (n := i.natAbs) (k := 1920)
          by_cases h : i.natAbs = 0
          · rw [h]; decide
          · exact (this h).mpr (Nat.lt_of_lt_of_le (show i.natAbs < 2 ^ 10 by omega) (Nat.pow_le_pow_right (by omega) (by omega)))
        simp only [biStr, hl, if_true]
      · cases b
        · exact ⟨"False", rfl, by decide, by decide⟩
        · exact ⟨"True", rfl, by decide, by decide⟩
    obtain ⟨x, hx, hx1, hx2⟩ := hstr
    have heq : ∃ b, cmpD .Eq d (.int 1) M = some b := by
      rcases hd with rfl | ⟨b, rfl, _⟩
      · exact ⟨_, rfl⟩
      · cases b <;> exact ⟨_, rfl⟩
    obtain ⟨b, hb⟩ := heq
    have hadd : binD false .Add d (.int 1) M = .ok (.int (i + 1)) M := by
      rcases hd with rfl | ⟨b, rfl, rfl⟩ <;> rfl
    have hsub : binD false .Sub d (.int 1) M = .ok (.int (i - 1)) M := by
      rcases hd with rfl | ⟨b, rfl, rfl⟩ <;> rfl
    have hneg : binD false .Sub (.int 0) d M = .ok (.int (0 - i)) M := by
      rcases hd with rfl | ⟨b, rfl, rfl⟩ <;> rfl
    obtain ⟨e, he, ha⟩ := at_mem (L := [.int (i + 1), .int (i - 1), .bl b, .str x, .int (0 - i), .lst [d]]) h0 hlt
    refine ⟨e, M, ?_, hM, ?_, ?_⟩
    · refine x_if_rt (M1 := M) (t_and' (and_t (t_bi (ds := [d, .ty "int"]) rfl his) (and_1 (t_cmp' (x := .int w) (y := .int 6) rfl rfl (by rw [cmp_lt_int, decide_eq_true hlt]))))) (x_ret (e_idx (M1 := M) (x := .lst [.int (i + 1), .int (i - 1), .bl b, .str x, .int (0 - i), .lst [d]]) (y := .int w) ?_ rfl ha))
      exact e_lst (l_cons' (e_bin (x := d) (y := .int 1) rfl rfl hadd) (l_cons' (e_bin (x := d) (y := .int 1) rfl rfl hsub) (l_cons' (e_cmp (x := d) (y := .int 1) rfl rfl hb) (l_cons' (e_bi (ds := [d]) rfl hx) (l_cons' (e_bin (x := .int 0) (y := d) rfl rfl hneg) (l_cons' (d := .lst [d]) rfl l_nil')))))) (show 6 ≤ sizeLine by decide) rfl
    · simp only [List.mem_cons, List.not_mem_nil, or_false] at he
      rcases he with rfl | rfl | rfl | rfl | rfl | rfl
      · exact .int (by omega)
      · exact .int (by omega)
      · exact .bl b
      · exact .str (by omega) hx2
      · exact .int (by omega)
      · exact .lst (by simpa using hs) (show 1 ≤ _ by omega)
    · simp only [List.mem_cons, List.not_mem_nil, or_false] at he
      rcases he with rfl | rfl | rfl | rfl | rfl | rfl <;> simp only [wt, wts, hw] <;> omega
  · obtain ⟨r, M', h1, h2⟩ := x_odd n k ns R M d [some (.ref 0), some d, some (.int w), none, none] rfl hM
    refine ⟨r, M', ?_, h2⟩
    exact x_if_f (t_and' (and_t (t_bi (ds := [d, .ty "int"]) rfl his) (and_1 (t_cmp' (x := .int w) (y := .int 6) rfl rfl (by rw [cmp_lt_int, decide_eq_false hlt]))))) h1
theorem bent_str (n k : Nat) (ns : List Int) (R M : MH) (x : Str) (w : Int) (hn : n ≤ 9) (hd : Sm n (.str x)) (hM : Fed ns R M) (h0 : 0 ≤ w) : ∃ r M', exSs (callN T (k + 2)) rest3 [some (.ref 0), some (.str x), some (.int w), none, none] M = .ok (.rt r) M' ∧ Bent ns R n (.str x) r M' := by
  have hx : x.length ≤ 40 + 8 * n ∧ asc x = true := by cases hd; exact ⟨by assumption, by assumption⟩
  have hz : x.length ≤ sizeLine := Nat.le_trans hx.1 (Nat.le_trans (show 40 + 8 * n ≤ 200 by omega) (by decide))
  by_cases hlt : w < 6
  · obtain ⟨e, he, ha⟩ := at_mem (L := [.str (x ++ "a"), .str (cutS x none (some (-1))), .str (Txt.upper x), .str (x ++ " "), .lst [.str x], .str (x ++ "abcdefgh")]) h0 hlt
    have ad : ∀ y : Str, y.length ≤ 8 → binD false .Add (.str x) (.str y) M = .ok (.str (x ++ y)) M := by
      intro y hy
      have : x.length + y.length ≤ sizeLine := Nat.le_trans (show _ ≤ 200 by omega) (by decide)
      simp only [binD, this, if_true]
    have up := upper_ok hx.2
    have hup : mtD "upper" (.str x) [] M = .ok (.str (Txt.upper x)) M := by
      show mtUpper (.str x) [] M = _
      have : x.length ≤ 5592405 := by omega
      simp only [mtUpper, this, if_true]
    have hcut : ev (callN T (k + 2)) (.slice false (.var 1) .none (.some (.neg (.const (.int 1))))) [some (.ref 0), some (.str x), some (.int w), none, none] M = .ok (.str (cutS x none (some (-1)))) M := by
      refine e_slice (x := .str x) (l := none) (h := some (.int (-1))) (l' := none) (h' := some (-1)) rfl rfl rfl rfl rfl ?_
      simp only [sliceD, hz, if_true]
    refine ⟨e, M, ?_, hM, ?_, ?_⟩
    · refine x_if_rt (M1 := M) (t_and' (and_t (t_bi (ds := [.str x, .ty "str"]) rfl rfl) (and_1 (t_cmp' (x := .int w) (y := .int 6) rfl rfl (by rw [cmp_lt_int, decide_eq_true hlt]))))) (x_ret (e_idx (M1 := M) (x := .lst [.str (x ++ "a"), .str (cutS x none (some (-1))), .str (Txt.upper x), .str (x ++ " "), .lst [.str x], .str (x ++ "abcdefgh")]) (y := .int w) ?_ rfl ha))
      exact e_lst (l_cons' (e_bin (x := .str x) (y := .str "a") rfl rfl (ad "a" (by decide))) (l_cons' hcut (l_cons' (e_meth (x := .str x) (ds := []) rfl rfl rfl hup) (l_cons' (e_bin (x := .str x) (y := .str " ") rfl rfl (ad " " (by decide))) (l_cons' (d := .lst [.str x]) rfl (l_cons' (e_bin (x := .str x) (y := .str "abcdefgh") rfl rfl (ad "abcdefgh" (by decide))) l_nil')))))) (show 6 ≤ sizeLine by decide) rfl
    · simp only [List.mem_cons, List.not_mem_nil, or_false] at he
      rcases he with rfl | rfl | rfl | rfl | rfl | rfl
      · exact .str (by rw [len_app]; have : (Str.ofString "a").length = 1 := by decide
                       omega) (by rw [asc_app, hx.2]; decide)
      · exact .str (by have := cutS_length x none (some (-1)); omega) (cutS_asc hx.2)
      · exact .str (by rw [up.1]; omega) up.2
      · exact .str (by rw [len_app]; have : (Str.ofString " ").length = 1 := by decide
                       omega) (by rw [asc_app, hx.2]; decide)
      · exact .lst (by simpa using hd) (show 1 ≤ _ by omega)
      · exact .str (by rw [len_app]; have : (Str.ofString "abcdefgh").length = 8 := by decide
                       omega) (by rw [asc_app, hx.2]; decide)
    · have l1 : (Str.ofString "a").length = 1 := by decide
      have l2 : (Str.ofString " ").length = 1 := by decide
      have l8 : (Str.ofString "abcdefgh").length = 8 := by decide
      have lc := cutS_length x none (some (-1))
      simp only [List.mem_cons, List.not_mem_nil, or_false] at he
      rcases he with rfl | rfl | rfl | rfl | rfl | rfl <;> simp only [wt, wts, len_app, up.1] <;> omega
  · have tc : evT (callN T (k + 2)) (.and (.cons (.bi false "isinstance" (.cons (.var 1) (.cons (.glob "str" (.ty "str")) .nil))) (.cons (.cmp .Lt (.var 2) (.const (.int 6))) .nil))) [some (.ref 0), some (.str x), some (.int w), none, none] M = .ok false M := t_and' (and_t (t_bi (ds := [.str x, .ty "str"]) rfl rfl) (and_1 (t_cmp' (x := .int w) (y := .int 6) rfl rfl (by rw [cmp_lt_int, decide_eq_false hlt]))))
    obtain ⟨r, M', h1, h2⟩ := x_odd n k ns R M (.str x) [some (.ref 0), some (.str x), some (.int w), none, none] rfl hM
    exact ⟨r, M', x_if_f tc (x_if_f (t_and' (and_f (t_bi (ds := [.str x, .ty "int"]) rfl rfl))) h1), h2⟩
end Law
namespace Law
open PySem PySem.Spec PyProof.Rows L2 Mi

theorem sz_ok {k : Nat} (h : k ≤ 10000) : k ≤ sizeLine := Nat.le_trans h (by decide)
theorem add_tup {m : Bool} {xs ys : List D} {M : MH} (h : xs.length + ys.length ≤ 10000) : binD m .Add (.tup xs) (.tup ys) M = .ok (.tup (xs ++ ys)) M := by
  simp only [binD, sz_ok h, if_true]
theorem bent_tup (n k : Nat) (ns : List Int) (R M : MH) (xs : List D) (w : Int) (hn : n ≤ 9) (hs : ∀ d ∈ xs, Sm n d) (hl : xs.length ≤ 100 + n) (hM : Fed ns R M) (h0 : 0 ≤ w) : ∃ r M', exSs (callN T (k + 2)) rest2 [some (.ref 0), some (.tup xs), some (.int w), none, none] M = .ok (.rt r) M' ∧ Bent ns R (n + 1) (.tup xs) r M' := by
  by_cases hlt : w < 7
  · obtain ⟨e, he, ha⟩ := at_mem (L := [.lst xs, .tup (Mi.cutD xs (some 1) none), .tup (Mi.cutD xs none (some (-1))), .tup (xs ++ Mi.cutD xs (some (-1)) none), .tup xs.reverse, .tup [.tup xs], .tup (xs ++ [D.non])]) h0 hlt
    have ll := len_last xs
    refine ⟨e, M, ?_, hM, ?_, ?_⟩
    · refine x_if_rt (M1 := M) (t_and' (and_t (t_bi (ds := [.tup xs, .ty "tuple"]) rfl rfl) (and_1 (t_cmp' (x := .int w) (y := .int 7) rfl rfl (by rw [cmp_lt_int, decide_eq_true hlt]))))) (x_set (M1 := M) (d := .lst [.lst xs, .tup (Mi.cutD xs (some 1) none), .tup (Mi.cutD xs none (some (-1))), .tup (xs ++ Mi.cutD xs (some (-1)) none)]) ?_ (x_ret (e_idx (M1 := M) (x := .lst [.lst xs, .tup (Mi.cutD xs (some 1) none), .tup (Mi.cutD xs none (some (-1))), .tup (xs ++ Mi.cutD xs (some (-1)) none), .tup xs.reverse, .tup [.tup xs], .tup (xs ++ [D.non])]) (y := .int w) ?_ rfl ha)))
      · exact e_lst (l_cons' (d := .lst xs) rfl (l_cons' (d := .tup (Mi.cutD xs (some 1) none)) rfl (l_cons' (d := .tup (Mi.cutD xs none (some (-1)))) rfl (l_cons' (e_bin (x := .tup xs) (y := .tup (Mi.cutD xs (some (-1)) none)) rfl rfl (add_tup (by omega))) l_nil')))) (show 4 ≤ sizeLine by decide) rfl
      · exact e_bin (x := .lst [.lst xs, .tup (Mi.cutD xs (some 1) none), .tup (Mi.cutD xs none (some (-1))), .tup (xs ++ Mi.cutD xs (some (-1)) none)]) (y := .lst [.tup xs.reverse, .tup [.tup xs], .tup (xs ++ [D.non])]) rfl (e_lst (l_cons' (d := .tup xs.reverse) rfl (l_cons' (d := .tup [.tup xs]) rfl (l_cons' (e_bin (x := .tup xs) (y := .tup [.non]) rfl rfl (add_tup (show xs.length + 1 ≤ 10000 by omega))) l_nil'))) (show 3 ≤ sizeLine by decide) rfl) rfl
    · simp only [List.mem_cons, List.not_mem_nil, or_false] at he
      have hu : ∀ d ∈ xs, Sm (n + 1) d := fun d hd => (hs d hd).up
      rcases he with rfl | rfl | rfl | rfl | rfl | rfl | rfl
      · exact .lst hu (by omega)
      · exact .tup (fun d hd => hu d (mem_cut hd)) (by have := len_cut xs (some 1) none; omega)
      · exact .tup (fun d hd => hu d (mem_cut hd)) (by have := len_cut xs none (some (-1)); omega)
      · refine .tup (fun d hd => ?_) (by rw [List.length_append]; omega)
        rcases List.mem_append.mp hd with hd | hd
        · exact hu d hd
        · exact hu d (mem_cut hd)
      · exact .tup (fun d hd => hu d (List.mem_reverse.mp hd)) (by rw [List.length_reverse]; omega)
      · refine .tup (fun d hd => ?_) (show 1 ≤ _ by omega)
        rw [List.mem_singleton.mp hd]
        exact .tup hs hl
      · refine .tup (fun d hd => ?_) (by rw [List.length_append]; show xs.length + 1 ≤ _; omega)
        rcases List.mem_append.mp hd with hd | hd
        · exact hu d hd
        · rw [List.mem_singleton.mp hd]; exact .non
    · simp only [List.mem_cons, List.not_mem_nil, or_false] at he
      have w1 := wts_cut xs (some 1) none
      have w2 := wts_cut xs none (some (-1))
      have w3 := wts_cut xs (some (-1)) none
      rcases he with rfl | rfl | rfl | rfl | rfl | rfl | rfl <;> simp only [wt, wts, wts_app, wts_rev] <;> omega
  · have tc : evT (callN T (k + 2)) (.and (.cons (.bi false "isinstance" (.cons (.var 1) (.cons (.glob "tuple" (.ty "tuple")) .nil))) (.cons (.cmp .Lt (.var 2) (.const (.int 7))) .nil))) [some (.ref 0), some (.tup xs), some (.int w), none, none] M = .ok false M := t_and' (and_t (t_bi (ds := [.tup xs, .ty "tuple"]) rfl rfl) (and_1 (t_cmp' (x := .int w) (y := .int 7) rfl rfl (by rw [cmp_lt_int, decide_eq_false hlt]))))
    obtain ⟨r, M', h1, h2⟩ := x_odd (n + 1) k ns R M (.tup xs) [some (.ref 0), some (.tup xs), some (.int w), none, none] rfl hM
    exact ⟨r, M', x_if_f tc (x_if_f (t_and' (and_f (t_bi (ds := [.tup xs, .ty "str"]) rfl rfl))) (x_if_f (t_and' (and_f (t_bi (ds := [.tup xs, .ty "int"]) rfl rfl))) h1)), h2⟩
theorem bent_rest (n k : Nat) (ns : List Int) (R M : MH) (d : D) (hn : n ≤ 9) (hd : Sm n d) (hM : Fed ns R M) : ∃ r M', exSs (callN T (k + 2)) restB [some (.ref 0), some d, none, none, none] M = .ok (.rt r) M' ∧ Bent ns R n d r M' := by
  obtain ⟨w, M1, hw, hF, h0, h1⟩ := c_draw (k + 1) ns R M 9 hM (by omega)
  have go : ∀ (r : D) (M' : MH), exSs (callN T (k + 2)) rest2 [some (.ref 0), some d, some (.int w), none, none] M1 = .ok (.rt r) M' → exSs (callN T (k + 2)) restB [some (.ref 0), some d, none, none, none] M = .ok (.rt r) M' := fun r M' h => x_set (e_call (ds := [.ref 0, .int 9]) rfl hw) h
  have sk : ∀ (r : D) (M' : MH), (∀ xs, d ≠ .tup xs) → exSs (callN T (k + 2)) rest3 [some (.ref 0), some d, some (.int w), none, none] M1 = .ok (.rt r) M' → exSs (callN T (k + 2)) restB [some (.ref 0), some d, none, none, none] M = .ok (.rt r) M' := by
    intro r M' hx h
    refine go r M' (x_if_f (M1 := M1) (t_and' (and_f (t_bi (ds := [d, .ty "tuple"]) rfl ?_))) h)
    rw [b_isT (hd.ok (by omega)).plain]
    cases d <;> first | rfl | exact absurd rfl (hx _)
  have sk2 : ∀ (r : D) (M' : MH), (∀ xs, d ≠ .tup xs) → isStr d = false → exSs (callN T (k + 2)) rest4 [some (.ref 0), some d, some (.int w), none, none] M1 = .ok (.rt r) M' → exSs (callN T (k + 2)) restB [some (.ref 0), some d, none, none, none] M = .ok (.rt r) M' := by
    intro r M' hx hs h
    refine sk r M' hx (x_if_f (M1 := M1) (t_and' (and_f (t_bi (ds := [d, .ty "str"]) rfl ?_))) h)
    rw [b_isStr (hd.ok (by omega)).plain, hs]
  cases hd with
  | non =>
    obtain ⟨r, M', q1, q2⟩ := x_odd n k ns R M1 .non [some (.ref 0), some .non, some (.int w), none, none] rfl hF
    exact ⟨r, M', sk2 r M' (fun _ h => by cases h) rfl (x_if_f (t_and' (and_f (t_bi (ds := [.non, .ty "int"]) rfl rfl))) q1), q2⟩
  | bl b =>
    obtain ⟨r, M', q1, q2⟩ := bent_num n k ns R M1 (.bl b) (if b = true then 1 else 0) w (by omega) (.inr ⟨b, rfl, rfl⟩) (by split <;> simp <;> omega) hF h0
    exact ⟨r, M', sk2 r M' (fun _ h => by cases h) rfl q1, q2⟩
  | int hi =>
    obtain ⟨r, M', q1, q2⟩ := bent_num n k ns R M1 _ _ w (by omega) (.inl rfl) hi hF h0
    exact ⟨r, M', sk2 r M' (fun _ h => by cases h) rfl q1, q2⟩
  | str a b =>
    obtain ⟨r, M', q1, q2⟩ := bent_str n k ns R M1 _ w (by omega) (.str a b) hF h0
    exact ⟨r, M', sk r M' (fun _ h => by cases h) q1, q2⟩
  | tup hs hl =>
    obtain ⟨r, M', q1, q2⟩ := bent_tup _ k ns R M1 _ w (by omega) hs hl hF h0
    exact ⟨r, M', go r M' q1, q2⟩
  | lst hs hl =>
    rename_i n' xs
    obtain ⟨r, M', q1, q2⟩ := x_odd (n' + 1) k ns R M1 (.lst xs) [some (.ref 0), some (.lst xs), some (.int w), none, none] rfl hF
    exact ⟨r, M', sk2 r M' (fun _ h => by cases h) rfl (x_if_f (t_and' (and_f (t_bi (ds := [.lst xs, .ty "int"]) rfl rfl))) q1), q2⟩
theorem cut_to {xs : List D} {j : Nat} (h : j ≤ xs.length) : Mi.cutD xs none (some (j : Int)) = xs.take j := by
  unfold Mi.cutD
  rw [HT.sIx_none, HT.sIx_nat, Nat.min_eq_left h]
  rfl
theorem cut_from {xs : List D} {j : Nat} (h : j ≤ xs.length) : Mi.cutD xs (some (j : Int)) none = xs.drop j := by
  unfold Mi.cutD
  rw [HT.sIx_none, HT.sIx_nat, Nat.min_eq_left h]
  exact List.take_of_length_le (by simp)
theorem c_bent (ns : List Int) (R : MH) : ∀ (n : Nat) (d : D) (k : Nat) (M : MH), n ≤ 9 → Sm n d → Fed ns R M → ∃ r M', callN T (n + k + 3) 22 [.ref 0, d] M = .ok r M' ∧ Bent ns R n d r M' := by
  intro n
  induction n with
  | zero =>
    intro d k M hn hd hM
    obtain ⟨r, M', q1, q2⟩ := bent_rest 0 k ns R M d (by omega) hd hM
    refine ⟨r, M', ?_, q2⟩
    rw [show 0 + k + 3 = (k + 2) + 1 by omega]
    refine c_rt (T := T) (np := 2) (ns := 5) (body := B22) rfl rfl (x_if_f (M1 := M) (t_and' (and_f (t_bi (ds := [d, .ty "tuple"]) rfl ?_))) q1)
    cases hd <;> rfl
  | succ n ih =>
    intro d k M hn hd hM
    have alt : (∀ xs, d ≠ .tup xs) → ∃ r M', callN T (n + 1 + k + 3) 22 [.ref 0, d] M = .ok r M' ∧ Bent ns R (n + 1) d r M' := by
      intro hx
      obtain ⟨r, M', q1, q2⟩ := bent_rest (n + 1) (n + 1 + k) ns R M d (by omega) hd hM
      refine ⟨r, M', ?_, q2⟩
      refine c_rt (T := T) (np := 2) (ns := 5) (body := B22) rfl rfl (x_if_f (M1 := M) (t_and' (and_f (t_bi (ds := [d, .ty "tuple"]) rfl ?_))) q1)
      rw [b_isT (hd.ok (by omega)).plain]
      cases d <;> first | rfl | exact absurd rfl (hx _)
    cases d with
    | tup xs =>
      have hd' := hd
      cases hd' with
      | tup hs hl =>
        have t1 : ∀ M, cmpD .NotEq (.tup xs) (.tup []) M = some (!xs.isEmpty) := by
          intro M
          show (eqD M (.tup xs) (.tup [])).map (!·) = _
          rw [eq_nil_t (n := n) (by omega) fun d hd => (hs d hd).ok (by omega)]
          rfl
        cases he : xs.isEmpty with
        | true =>
          have t1 := t1 M
          rw [he] at t1
          obtain ⟨r, M', q1, q2⟩ := bent_rest (n + 1) (n + 1 + k) ns R M (.tup xs) (by omega) hd hM
          refine ⟨r, M', ?_, q2⟩
          exact c_rt (T := T) (np := 2) (ns := 5) (body := B22) rfl rfl (x_if_f (M1 := M) (t_and' (and_t (t_bi (ds := [.tup xs, .ty "tuple"]) rfl rfl) (and_f (t_cmp' (x := .tup xs) (y := .tup []) rfl rfl t1)))) q1)
        | false =>
          have t1 := t1 M
          rw [he] at t1
          obtain ⟨w, M1, hw, hF, w0, w1⟩ := c_draw (n + 1 + k + 1) ns R M 6 hM (by omega)
          by_cases hpos : 0 < w
          · have hlen : 0 < xs.length := by cases xs <;> simp_all
            obtain ⟨s, M2, hs2, hF2, s0, s1⟩ := c_draw (n + 1 + k + 1) ns R M1 xs.length hF (by omega)
            obtain ⟨j, rfl⟩ := Int.eq_ofNat_of_zero_le s0
            have hj : j < xs.length := by omega
            have gx : xs[j]? = some xs[j] := List.getElem?_eq_getElem hj
            obtain ⟨r, M3, hr, hB⟩ := ih xs[j] k M2 (by omega) (hs _ (List.getElem_mem hj)) hF2
            rw [show n + k + 3 = n + 1 + k + 2 by omega] at hr
            have hidx : idxD (.tup xs) (.int (j : Int)) M2 = some xs[j] := by
              rw [idx_tup, atI_ok (by omega) (by omega)]
              simpa using gx
            have sp : xs = xs.take j ++ xs[j] :: xs.drop (j + 1) := by simp
            refine ⟨.tup ((xs.take j ++ [r]) ++ xs.drop (j + 1)), M3, ?_, hB.fed, ?_, ?_⟩
            · refine c_rt (T := T) (np := 2) (ns := 5) (body := B22) rfl rfl (x_if_rt (M1 := M1) (t_and' (and_t (t_bi (ds := [.tup xs, .ty "tuple"]) rfl rfl) (and_t (t_cmp' (x := .tup xs) (y := .tup []) rfl rfl t1) (and_1 (t_cmp' (x := .int w) (y := .int 0) (e_call (ds := [.ref 0, .int 6]) rfl hw) rfl (by rw [cmp_gt_int, decide_eq_true hpos])))))) ?_)
              refine x_set (e_call (ds := [.ref 0, .int xs.length]) rfl hs2) (x_ret ?_)
              refine e_bin (x := .tup (xs.take j ++ [r])) (y := .tup (xs.drop (j + 1))) (M1 := M3) (M2 := M3) (e_bin (x := .tup (xs.take j)) (y := .tup [r]) (M1 := M2) (M2 := M3) ?_ ?_ (add_tup ?_)) ?_ (add_tup ?_)
              · refine e_slice (x := .tup xs) (l := none) (h := some (.int (j : Int))) (l' := none) (h' := some (j : Int)) rfl rfl rfl rfl rfl ?_
                rw [← cut_to (show j ≤ xs.length by omega)]
                rfl
              · exact e_tup (l_cons' (e_call (l_cons' (d := .ref 0) rfl (l_cons' (e_idx (x := .tup xs) (y := .int (j : Int)) rfl rfl hidx) l_nil')) hr) l_nil') (show 1 ≤ sizeLine by decide)
              · rw [List.length_take]; show _ + 1 ≤ _; omega
              · refine e_slice (x := .tup xs) (l := some (.int ((j : Int) + 1))) (h := none) (l' := some ((j : Int) + 1)) (h' := none) rfl rfl rfl rfl rfl ?_
                have := cut_from (xs := xs) (j := j + 1) (by omega)
                rw [← this]
                rfl
              · rw [List.length_append, List.length_take, List.length_drop]; show _ + 1 + _ ≤ _; omega
            · refine .tup (fun d hd => ?_) ?_
              · rcases List.mem_append.mp hd with hd | hd
                · rcases List.mem_append.mp hd with hd | hd
                  · exact (hs d (List.mem_of_mem_take hd)).up
                  · rw [List.mem_singleton.mp hd]; exact hB.sm
                · exact (hs d (List.mem_of_mem_drop hd)).up
              · rw [List.length_append, List.length_append, List.length_take, List.length_drop]; show _ + 1 + _ ≤ _; omega
            · have hwt := hB.wt
              have e1 : wts xs = wts (xs.take j) + (wt xs[j] + 1 + wts (xs.drop (j + 1))) := by
                conv => lhs; rw [sp]
                rw [wts_app, wts]
              simp only [wt, wts_app, wts]
              rw [e1]
              omega
          · obtain ⟨r, M', q1, q2⟩ := bent_rest (n + 1) (n + 1 + k) ns R M1 (.tup xs) (by omega) hd hF
            refine ⟨r, M', ?_, q2⟩
            exact c_rt (T := T) (np := 2) (ns := 5) (body := B22) rfl rfl (x_if_f (M1 := M1) (t_and' (and_t (t_bi (ds := [.tup xs, .ty "tuple"]) rfl rfl) (and_t (t_cmp' (x := .tup xs) (y := .tup []) rfl rfl t1) (and_1 (t_cmp' (x := .int w) (y := .int 0) (e_call (ds := [.ref 0, .int 6]) rfl hw) rfl (by rw [cmp_gt_int, decide_eq_false hpos])))))) q1)
    | _ => exact alt (fun _ h => by cases h)
end Law
namespace Law
open PySem PySem.Spec PyProof.Rows L2 Mi

def Nms (s : Str) : Prop := s.length ≤ 8 ∧ asc s = true
def Nm (d : D) : Prop := ∃ s, d = .str s ∧ Nms s
def Sort_ (d : D) : Prop := Nm d ∨ ∃ i j : Int, d = .tup [.int i, .int j] ∧ i.natAbs ≤ 1000 ∧ j.natAbs ≤ 1000
def Entry (d : D) : Prop := ∃ a b, d = .tup [a, b] ∧ Nm a ∧ Sort_ b
def Form (d : D) : Prop := ∃ ys, d = .tup ys ∧ ys.length ≤ 4 ∧ ∀ y ∈ ys, Entry y
def Row (d : D) : Prop := ∃ a f, d = .tup [a, f] ∧ Nm a ∧ Form f
def Schema (d : D) : Prop := ∃ x xs, d = .tup (x :: xs) ∧ xs.length ≤ 2 ∧ ∀ y ∈ x :: xs, Row y
theorem Nm.sm {d : D} (h : Nm d) (n : Nat) : Sm n d ∧ wt d ≤ 8 := by
  obtain ⟨s, rfl, h1, h2⟩ := h
  exact ⟨.str (by omega) h2, h1⟩
theorem Sort_.sm {d : D} (h : Sort_ d) (n : Nat) : Sm (n + 1) d ∧ wt d ≤ 8 := by
  rcases h with h | ⟨i, j, rfl, h1, h2⟩
  · exact h.sm _
  · refine ⟨.tup (fun d hd => ?_) (show 2 ≤ _ by omega), by simp [wt, wts]⟩
    simp only [List.mem_cons, List.not_mem_nil, or_false] at hd
    rcases hd with rfl | rfl
    · exact .int (by omega)
    · exact .int (by omega)
theorem Entry.sm {d : D} (h : Entry d) (n : Nat) : Sm (n + 2) d ∧ wt d ≤ 18 := by
  obtain ⟨a, b, rfl, h1, h2⟩ := h
  have q1 := h1.sm (n + 1)
  have q2 := h2.sm n
  refine ⟨.tup (fun d hd => ?_) (show 2 ≤ _ by omega), by simp only [wt, wts]; omega⟩
  simp only [List.mem_cons, List.not_mem_nil, or_false] at hd
  rcases hd with rfl | rfl
  · exact q1.1
  · exact q2.1
theorem wts_le {c : Nat} : ∀ {xs : List D}, (∀ x ∈ xs, wt x ≤ c) → wts xs ≤ xs.length * (c + 1)
  | [], _ => by simp [wts]
  | x :: xs, h => by
    have h1 := h x (by simp)
    have h2 := wts_le (xs := xs) fun y hy => h y (List.mem_cons_of_mem _ hy)
    rw [wts, List.length_cons, Nat.succ_mul]
    omega
theorem Form.sm {d : D} (h : Form d) (n : Nat) : Sm (n + 3) d ∧ wt d ≤ 76 := by
  obtain ⟨ys, rfl, h1, h2⟩ := h
  refine ⟨.tup (fun d hd => ((h2 d hd).sm n).1) (by omega), ?_⟩
  have := wts_le (c := 18) fun y hy => ((h2 y hy).sm 0).2
  simp only [wt]
  omega
theorem Row.sm {d : D} (h : Row d) (n : Nat) : Sm (n + 4) d ∧ wt d ≤ 86 := by
  obtain ⟨a, b, rfl, h1, h2⟩ := h
  have q1 := h1.sm (n + 3)
  have q2 := h2.sm n
  refine ⟨.tup (fun d hd => ?_) (show 2 ≤ _ by omega), by simp only [wt, wts]; omega⟩
  simp only [List.mem_cons, List.not_mem_nil, or_false] at hd
  rcases hd with rfl | rfl
  · exact q1.1
  · exact q2.1
theorem Schema.sm {d : D} (h : Schema d) (n : Nat) : Sm (n + 5) d ∧ wt d ≤ 261 := by
  obtain ⟨x, xs, rfl, h1, h2⟩ := h
  refine ⟨.tup (fun d hd => ((h2 d hd).sm n).1) (show xs.length + 1 ≤ _ by omega), ?_⟩
  have := wts_le (c := 86) fun y hy => ((h2 y hy).sm 0).2
  rw [List.length_cons] at this
  simp only [wt]
  omega
/-! ### sorting -/
theorem ins_mem {x y : Str} : ∀ {l : List Str}, y ∈ insS x l → y = x ∨ y ∈ l
  | [], h => by simpa [insS] using h
  | z :: r, h => by
    unfold insS at h
    split at h
    · rcases List.mem_cons.mp h with rfl | h
      · exact .inr (by simp)
      · rcases ins_mem h with h | h
        · exact .inl h
        · exact .inr (List.mem_cons_of_mem _ h)
    · rcases List.mem_cons.mp h with rfl | h
      · exact .inl rfl
      · exact .inr h
theorem sort_mem {y : Str} : ∀ {l : List Str}, y ∈ sortS l → y ∈ l
  | [], h => by simp [sortS] at h
  | x :: r, h => by
    rcases ins_mem (show y ∈ insS x (sortS r) from h) with rfl | h
    · simp
    · exact List.mem_cons_of_mem _ (sort_mem h)
theorem ins_len (x : Str) : ∀ (l : List Str), (insS x l).length = l.length + 1
  | [] => rfl
  | z :: r => by
    unfold insS
    split
    · rw [List.length_cons, ins_len x r, List.length_cons]
    · rfl
theorem sort_len : ∀ (l : List Str), (sortS l).length = l.length
  | [] => rfl
  | x :: r => by
    show (insS x (sortS r)).length = _
    rw [ins_len, sort_len r, List.length_cons]
theorem strs_of : ∀ {xs : List D}, (∀ x ∈ xs, Nm x) → ∃ ss : List Str, strsOf xs = some ss ∧ ss.length = xs.length ∧ ∀ s ∈ ss, Nms s
  | [], _ => ⟨[], rfl, rfl, by simp⟩
  | x :: xs, h => by
    obtain ⟨s, rfl, hs⟩ := h x (by simp)
    obtain ⟨ss, h1, h2, h3⟩ := strs_of (xs := xs) fun y hy => h y (List.mem_cons_of_mem _ hy)
    refine ⟨s :: ss, by simp [strsOf, h1], by simp [h2], fun t ht => ?_⟩
    rcases List.mem_cons.mp ht with rfl | ht
    · exact hs
    · exact h3 t ht
/-! ### dicts -/
def KV (kvs : List (Key × D)) : Prop := ∀ kv ∈ kvs, (∃ s, kv.1 = .inr s ∧ Nms s) ∧ Sort_ kv.2
theorem put_kv {kvs : List (Key × D)} {k : Key} {v : D} (h : KV kvs) (hk : ∃ s, k = .inr s ∧ Nms s) (hv : Sort_ v) : KV (putD kvs k v) ∧ (putD kvs k v).length ≤ kvs.length + 1 := by
  unfold putD
  split
  · refine ⟨fun kv hkv => ?_, by simp⟩
    obtain ⟨w, hw, rfl⟩ := List.mem_map.mp hkv
    split
    · exact ⟨(h w hw).1, hv⟩
    · exact h w hw
  · refine ⟨fun kv hkv => ?_, by simp⟩
    rcases List.mem_append.mp hkv with hkv | hkv
    · exact h kv hkv
    · rw [List.mem_singleton.mp hkv]; exact ⟨hk, hv⟩
theorem fold_kv : ∀ (ps kvs : List (Key × D)), KV ps → KV kvs → KV (ps.foldl (fun acc kv => putD acc kv.1 kv.2) kvs) ∧ (ps.foldl (fun acc kv => putD acc kv.1 kv.2) kvs).length ≤ kvs.length + ps.length
  | [], kvs, _, h => ⟨h, by simp⟩
  | p :: ps, kvs, hp, h => by
    have q := put_kv h (hp p (by simp)).1 (hp p (by simp)).2
    have r := fold_kv ps (putD kvs p.1 p.2) (fun kv hkv => hp kv (List.mem_cons_of_mem _ hkv)) q.1
    refine ⟨r.1, ?_⟩
    have := r.2
    rw [List.foldl_cons, List.length_cons]
    omega
theorem pairs_of : ∀ {es : List D}, (∀ e ∈ es, Entry e) → ∃ ps, pairsOf es = some ps ∧ KV ps ∧ ps.length = es.length
  | [], _ => ⟨[], rfl, by simp [KV], rfl⟩
  | e :: es, h => by
    obtain ⟨a, b, rfl, ⟨s, rfl, hs⟩, hb⟩ := h e (by simp)
    obtain ⟨ps, h1, h2, h3⟩ := pairs_of (es := es) fun y hy => h y (List.mem_cons_of_mem _ hy)
    refine ⟨(.inr s, b) :: ps, by simp [Mi.pairsOf, keyOf, h1], fun kv hkv => ?_, by simp [h3]⟩
    rcases List.mem_cons.mp hkv with rfl | hkv
    · exact ⟨⟨s, rfl, hs⟩, hb⟩
    · exact h2 kv hkv
theorem keys_of : ∀ {kvs : List (Key × D)}, KV kvs → ∃ ks, keysS kvs = some ks ∧ ks.length = kvs.length ∧ ∀ k ∈ ks, Nms k ∧ ∃ v, ((.inr k : Key), v) ∈ kvs
  | [], _ => ⟨[], rfl, rfl, by simp⟩
  | (k, v) :: r, h => by
    obtain ⟨s, hk, hs⟩ := (h (k, v) (by simp)).1
    have hk' : k = .inr s := hk
    subst hk'
    obtain ⟨ks, h1, h2, h3⟩ := keys_of (kvs := r) fun kv hkv => h kv (List.mem_cons_of_mem _ hkv)
    refine ⟨s :: ks, by simp [keysS, h1], by simp [h2], fun k hk => ?_⟩
    rcases List.mem_cons.mp hk with rfl | hk
    · exact ⟨hs, v, by simp⟩
    · obtain ⟨q1, w, q2⟩ := h3 k hk
      exact ⟨q1, w, List.mem_cons_of_mem _ q2⟩
theorem look_kv {kvs : List (Key × D)} (h : KV kvs) {k : Str} {v : D} (hm : ((.inr k : Key), v) ∈ kvs) : ∃ w, lookK kvs (.inr k) = some w ∧ Sort_ w := by
  unfold lookK
  cases hf : kvs.find? fun kv => decide (kv.1 = (.inr k : Key)) with
  | none =>
    have := List.find?_eq_none.mp hf _ hm
    simp at this
  | some kv => exact ⟨kv.2, rfl, (h kv (List.mem_of_find?_eq_some hf)).2⟩
theorem c_ordered (n p : Nat) (es : List D) (M : MH) (hp : M[p]? = some (.lst es)) (he : ∀ e ∈ es, Entry e) (hl : es.length ≤ 4) : ∃ f kvs, callN T (n + 1) 20 [.ref p] M = .ok f (M ++ [.dict kvs]) ∧ Form f := by
  obtain ⟨ps, h1, h2, h3⟩ := pairs_of he
  obtain ⟨k1, k2⟩ := fold_kv ps [] h2 (by simp [KV])
  let kvs := ps.foldl (fun acc kv => putD acc kv.1 kv.2) []
  have k1 : KV kvs := k1
  have k2 : kvs.length ≤ ps.length := by simpa using k2
  obtain ⟨ks, s1, s2, s3⟩ := keys_of k1
  have hd : biD false "dict" [.ref p] M = .ok (.ref M.length) (M ++ [.dict kvs]) := by
    rw [bq_dict]
    simp only [biDict, getL, hp, Option.bind_some, h1]
    rfl
  have hq : (M ++ [MO.dict kvs])[M.length]? = some (.dict kvs) := get_len
  have hs : biD false "sorted" [.ref M.length] (M ++ [.dict kvs]) = .ok (.lst ((sortS ks).map D.str)) (M ++ [.dict kvs]) := by
    rw [bq_sorted]
    have : ks.length < 64 := by omega
    simp only [biSorted, getL, hq, Option.bind_none, getDict, Option.bind_some, s1, this, if_true, newL_false]
  have cm := comp_all (M := M ++ [MO.dict kvs]) (bind := fun d => bindT (.name 2) d (wipeR [some (.ref p), some (.ref M.length), none] (Tg.name 2).own)) (cond := evIf (callN T n) .none) (elt := ev (callN T n) (.tup (.cons (.var 2) (.cons (.idx (.var 1) (.var 2)) .nil)))) (fun _ => true) (fun d => .tup [d, (lookK kvs (.inr (strOf d))).getD .non]) (fun d => [some (.ref p), some (.ref M.length), some d]) ((sortS ks).map D.str) (by
    intro d hd
    obtain ⟨k, hk, rfl⟩ := List.mem_map.mp hd
    obtain ⟨_, v, hv⟩ := s3 k (sort_mem hk)
    obtain ⟨w, hw, _⟩ := look_kv k1 hv
    refine ⟨rfl, rfl, fun _ => e_tup (l_cons' (d := .str k) rfl (l_cons' (e_idx (x := .ref M.length) (y := .str k) rfl rfl ?_) l_nil')) (show 2 ≤ sizeLine by decide)⟩
    simp only [idxD, getL, hq, getDict, keyOf, strOf, hw, Option.getD_some])
  rw [filter_tt] at cm
  refine ⟨.tup (((sortS ks).map D.str).map fun d => .tup [d, (lookK kvs (.inr (strOf d))).getD .non]), kvs, ?_, ?_⟩
  · refine c_rt (T := T) (np := 1) (ns := 3) (body := B20) rfl rfl (x_set (e_bi (ds := [.ref p]) rfl hd) (x_ret (e_bi (l_cons' (e_comp (i_seq' (e_bi (ds := [.ref M.length]) rfl hs) rfl) cm rfl) l_nil') rfl)))
  · refine ⟨_, rfl, by rw [List.length_map, List.length_map, sort_len]; omega, fun y hy => ?_⟩
    obtain ⟨d, hd, rfl⟩ := List.mem_map.mp hy
    obtain ⟨k, hk, rfl⟩ := List.mem_map.mp hd
    obtain ⟨hn, v, hv⟩ := s3 k (sort_mem hk)
    obtain ⟨w, hw, hw2⟩ := look_kv k1 hv
    exact ⟨_, _, rfl, ⟨k, rfl, hn⟩, by simp only [strOf, hw, Option.getD_some]; exact hw2⟩
end Law
namespace Law
open PySem PySem.Spec PyProof.Rows L2 Mi

section
variable {ns : List Int} {A B R M : MH} {xs : List D}
theorem fed_len (h : Fed ns R M) : M.length = R.length + 1 := by
  obtain ⟨a, l, c, _, rfl⟩ := h
  simp
theorem fed_get (h : Fed ns (A ++ .lst xs :: B) M) : M[A.length + 1]? = some (.lst xs) := by
  obtain ⟨a, l, c, _, rfl⟩ := h
  simp
theorem fed_set {o : MO} (h : Fed ns (A ++ .lst xs :: B) M) : Fed ns (A ++ o :: B) (M.set (A.length + 1) o) := by
  obtain ⟨a, l, c, h0, rfl⟩ := h
  exact ⟨a, l, c, h0, by simp⟩
theorem fed_new {o : MO} (h : Fed ns R M) : Fed ns (R ++ [o]) (M ++ [o]) := by
  obtain ⟨a, l, c, h0, rfl⟩ := h
  exact ⟨a, l, c, h0, rfl⟩
theorem fed_more {J : MH} (h : Fed ns R M) : Fed ns (R ++ J) (M ++ J) := by
  obtain ⟨a, l, c, h0, rfl⟩ := h
  exact ⟨a, l, c, h0, rfl⟩
theorem fed_kind {f : String} (hf : f ≠ "upper") (h : Fed ns (A ++ .lst xs :: B) M) : mtKind f (.ref (A.length + 1)) M = true := by
  unfold mtKind
  rw [if_neg hf]
  simp only [getL, fed_get h, Option.isSome]
theorem fed_append {d : D} (h : Fed ns (A ++ .lst xs :: B) M) (hl : xs.length < 10000) : ∃ M', mtD "append" (.ref (A.length + 1)) [d] M = .ok .non M' ∧ Fed ns (A ++ .lst (xs ++ [d]) :: B) M' := by
  refine ⟨_, ?_, fed_set h⟩
  show mtAppend (.ref (A.length + 1)) [d] M = _
  have : xs.length < sizeLine := Nat.lt_of_lt_of_le hl (by decide)
  simp only [mtAppend, fed_get h, this, if_true]
theorem fed_extend {ys : List D} (h : Fed ns (A ++ .lst xs :: B) M) (hl : xs.length + ys.length ≤ 10000) : ∃ M', mtD "extend" (.ref (A.length + 1)) [.lst ys] M = .ok .non M' ∧ Fed ns (A ++ .lst (xs ++ ys) :: B) M' := by
  refine ⟨_, ?_, fed_set h⟩
  show mtExtend (.ref (A.length + 1)) [.lst ys] M = _
  simp only [mtExtend, fed_get h, getL, sz_ok hl, if_true]
theorem fed_lenB (h : Fed ns (A ++ .lst xs :: B) M) : biD false "len" [.ref (A.length + 1)] M = .ok (.int xs.length) M := by
  rw [bq_len]
  simp only [biLen, getL, fed_get h]
end
theorem fed_any {ns : List Int} {A B M : MH} {xs : List D} {o : MO} (h : Fed ns (A ++ .lst xs :: B) M) : True := trivial
/-- x.pop(_law_draw(feed, len(x))) -/
theorem e_pop (n v : Nat) (ns : List Int) (A B M : MH) (xs : List D) (ρ : Rho) (h : Fed ns (A ++ .lst xs :: B) M) (h0 : ρ[0]? = some (some (.ref 0))) (hv : ρ[v]? = some (some (.ref (A.length + 1)))) (hx : 0 < xs.length) (hl : xs.length ≤ 1000) (hA : ∀ M', Fed ns (A ++ .lst xs :: B) M' → True) :
    ∃ y M' xs', ev (callN T (n + 1)) (.meth "pop" (.var v) (.cons (.call 11 (.cons (.var 0) (.cons (.bi false "len" (.cons (.var v) .nil)) .nil))) .nil)) ρ M = .ok y M' ∧ y ∈ xs ∧ Fed ns (A ++ .lst xs' :: B) M' ∧ (∀ x ∈ xs', x ∈ xs) ∧ xs'.length + 1 = xs.length := by
  obtain ⟨i, M1, hi, hF, i0, i1⟩ := c_draw n ns _ M xs.length h (by omega)
  have g : xs[i.toNat]? = some (xs[i.toNat]'(by omega)) := List.getElem?_eq_getElem _
  refine ⟨xs[i.toNat]'(by omega), M1.set (A.length + 1) (.lst (xs.eraseIdx i.toNat)), xs.eraseIdx i.toNat, ?_, List.getElem_mem _, fed_set hF, fun x hx => List.mem_of_mem_eraseIdx hx, ?_⟩
  · refine e_meth (x := .ref (A.length + 1)) (M1 := M) (M2 := M1) (ds := [.int i]) (e_var hv) (fed_kind (by decide) h) (l_cons' (e_call (l_cons' (e_var h0) (l_cons' (e_bi (l_cons' (e_var hv) l_nil') (fed_lenB h)) l_nil')) hi) l_nil') ?_
    show mtPop (.ref (A.length + 1)) [.int i] M1 = _
    have : 0 ≤ i ∧ i < xs.length ∧ xs.length ≤ sizeLine := ⟨i0, i1, sz_ok (by omega)⟩
    simp only [mtPop, fed_get hF, this, and_self, if_true, g]
  · rw [List.length_eraseIdx_of_lt (by omega)]
    omega
theorem lit_nm {s : String} (h : (Str.ofString s).length ≤ 8) (h2 : asc (Str.ofString s) = true) : Nm (.str (Str.ofString s)) := ⟨_, rfl, h, h2⟩
def pool : List D := [.str "a", .str "box", .str "get", .str "lid", .str "zzzzzzzz"]
def slots : List D := [.str "a", .str "if", .str "lid", .str "none", .str "of", .str "size", .str "x"]
theorem pool_nm : ∀ d ∈ pool, Nm d := by
  intro d hd
  simp only [pool, List.mem_cons, List.not_mem_nil, or_false] at hd
  rcases hd with rfl | rfl | rfl | rfl | rfl <;> exact lit_nm (by decide) (by decide)
theorem slots_nm : ∀ d ∈ slots, Nm d := by
  intro d hd
  simp only [slots, List.mem_cons, List.not_mem_nil, or_false] at hd
  rcases hd with rfl | rfl | rfl | rfl | rfl | rfl | rfl <;> exact lit_nm (by decide) (by decide)
def lows : List D := [.int 0, .int 0, .int (-3), .int 5, .int (-1000), .int 990]
def adds : List D := [.int 0, .int 1, .int 3, .int 9]
/-- one turn of the inner loop -/
def inner : Ss := (.cons (.set 8 (.meth "pop" (.var 6) (.cons (.call 11 (.cons (.var 0) (.cons (.bi false "len" (.cons (.var 6) .nil)) .nil))) .nil))) (.cons (.set 9 (.idx (.lst false (.cons (.const (.int 0)) (.cons (.const (.int 0)) (.cons (.neg (.const (.int 3))) (.cons (.const (.int 5)) (.cons (.neg (.const (.int 1000))) (.cons (.const (.int 990)) .nil))))))) (.call 11 (.cons (.var 0) (.cons (.const (.int 6)) .nil))))) (.cons (.set 10 (.tup (.cons (.var 9) (.cons (.bin false .Add (.var 9) (.idx (.lst false (.cons (.const (.int 0)) (.cons (.const (.int 1)) (.cons (.const (.int 3)) (.cons (.const (.int 9)) .nil))))) (.call 11 (.cons (.var 0) (.cons (.const (.int 4)) .nil))))) .nil)))) (.cons (.ifs (.cmp .Eq (.call 11 (.cons (.var 0) (.cons (.const (.int 2)) .nil))) (.const (.int 0))) (.cons (.set 10 (.idx (.var 1) (.call 11 (.cons (.var 0) (.cons (.bi false "len" (.cons (.var 1) .nil)) .nil))))) .nil) .nil) (.cons (.expr (.meth "append" (.var 7) (.cons (.tup (.cons (.var 8) (.cons (.var 10) .nil))) .nil))) .nil)))))
theorem sort_pair {e f : D} (he : e ∈ lows) (hf : f ∈ adds) : ∃ i j : Int, e = .int i ∧ f = .int j ∧ i.natAbs ≤ 1000 ∧ (i + j).natAbs ≤ 1000 := by
  simp only [lows, List.mem_cons, List.not_mem_nil, or_false] at he
  simp only [adds, List.mem_cons, List.not_mem_nil, or_false] at hf
  rcases he with rfl | rfl | rfl | rfl | rfl | rfl <;> rcases hf with rfl | rfl | rfl | rfl <;> exact ⟨_, _, rfl, rfl, by decide, by decide⟩
theorem x_inner (n : Nat) (ns : List Int) (A M : MH) (names sl es : List D) (p3 p4 : Nat) (t : D) (o5 o8 o9 o10 : Option D) (hF : Fed ns (A ++ [.lst sl, .lst es]) M) (hnm : ∀ d ∈ names, Nm d) (hn0 : 0 < names.length) (hn1 : names.length ≤ 3) (hsl : ∀ d ∈ sl, Nm d) (hs0 : 0 < sl.length) (hs1 : sl.length ≤ 7) (hes : ∀ d ∈ es, Entry d) (hel : es.length ≤ 4) :
    ∃ M' sl' es' u8 u9 u10, exSs (callN T (n + 1)) inner [some (.ref 0), some (.lst names), some t, some (.ref p3), some (.ref p4), o5, some (.ref (A.length + 1)), some (.ref (A.length + 2)), o8, o9, o10] M = .ok (.nx [some (.ref 0), some (.lst names), some t, some (.ref p3), some (.ref p4), o5, some (.ref (A.length + 1)), some (.ref (A.length + 2)), u8, u9, u10]) M' ∧ Fed ns (A ++ [.lst sl', .lst es']) M' ∧ (∀ d ∈ sl', Nm d) ∧ sl'.length + 1 = sl.length ∧ (∀ d ∈ es', Entry d) ∧ es'.length = es.length + 1 := by
  obtain ⟨y, M1, sl', hp, hy, hF1, hsub, hlen⟩ := e_pop n 6 ns A [.lst es] M sl [some (.ref 0), some (.lst names), some t, some (.ref p3), some (.ref p4), o5, some (.ref (A.length + 1)), some (.ref (A.length + 2)), o8, o9, o10] hF rfl rfl hs0 (by omega) (fun _ _ => trivial)
  obtain ⟨i, M2, hi, hF2, i0, i1⟩ := c_draw n ns _ M1 6 hF1 (by omega)
  obtain ⟨e, he, hea⟩ := at_mem (L := lows) i0 i1
  obtain ⟨j, M3, hj, hF3, j0, j1⟩ := c_draw n ns _ M2 4 hF2 (by omega)
  obtain ⟨f, hf, hfa⟩ := at_mem (L := adds) j0 j1
  obtain ⟨a, b, rfl, rfl, hab⟩ := sort_pair he hf
  obtain ⟨k, M4, hk, hF4, k0, k1⟩ := c_draw n ns _ M3 2 hF3 (by omega)
  have last : ∀ (M5 : MH) (s : D), Sort_ s → Fed ns (A ++ [.lst sl', .lst es]) M5 → ∃ M' es', exSs (callN T (n + 1)) (.cons (.expr (.meth "append" (.var 7) (.cons (.tup (.cons (.var 8) (.cons (.var 10) .nil))) .nil))) .nil) [some (.ref 0), some (.lst names), some t, some (.ref p3), some (.ref p4), o5, some (.ref (A.length + 1)), some (.ref (A.length + 2)), some y, some (.int a), some s] M5 = .ok (.nx [some (.ref 0), some (.lst names), some t, some (.ref p3), some (.ref p4), o5, some (.ref (A.length + 1)), some (.ref (A.length + 2)), some y, some (.int a), some s]) M' ∧ Fed ns (A ++ [.lst sl', .lst es']) M' ∧ (∀ d ∈ es', Entry d) ∧ es'.length = es.length + 1 := by
    intro M5 s hs h5
    have h5' : Fed ns ((A ++ [.lst sl']) ++ .lst es :: []) M5 := by simpa using h5
    have hl : (A ++ [MO.lst sl']).length + 1 = A.length + 2 := by simp
    obtain ⟨M', ha, hF'⟩ := fed_append (d := .tup [y, s]) h5' (by omega)
    have hkd := fed_kind (f := "append") (by decide) h5'
    rw [hl] at ha hkd
    refine ⟨M', es ++ [.tup [y, s]], x_expr (e_meth (x := .ref (A.length + 2)) (ds := [.tup [y, s]]) rfl hkd (l_cons' (d := .tup [y, s]) rfl l_nil') ha) x_nil, by simpa using hF', fun d hd => ?_, by simp⟩
    rcases List.mem_append.mp hd with hd | hd
    · exact hes d hd
    · rw [List.mem_singleton.mp hd]
      exact ⟨y, s, rfl, hsl y hy, hs⟩
  have head : ∀ (o : Fl) (M' : MH), exSs (callN T (n + 1)) (.cons (.ifs (.cmp .Eq (.call 11 (.cons (.var 0) (.cons (.const (.int 2)) .nil))) (.const (.int 0))) (.cons (.set 10 (.idx (.var 1) (.call 11 (.cons (.var 0) (.cons (.bi false "len" (.cons (.var 1) .nil)) .nil))))) .nil) .nil) (.cons (.expr (.meth "append" (.var 7) (.cons (.tup (.cons (.var 8) (.cons (.var 10) .nil))) .nil))) .nil)) [some (.ref 0), some (.lst names), some t, some (.ref p3), some (.ref p4), o5, some (.ref (A.length + 1)), some (.ref (A.length + 2)), some y, some (.int a), some (.tup [.int a, .int (a + b)])] M3 = .ok o M' → exSs (callN T (n + 1)) inner [some (.ref 0), some (.lst names), some t, some (.ref p3), some (.ref p4), o5, some (.ref (A.length + 1)), some (.ref (A.length + 2)), o8, o9, o10] M = .ok o M' := by
    intro o M' h
    refine x_set hp (x_set (d := .int a) (e_idx (M1 := M1) (x := .lst lows) (y := .int i) rfl (e_call (ds := [.ref 0, .int 6]) rfl hi) hea) (x_set (d := .tup [.int a, .int (a + b)]) (e_tup (l_cons' (d := .int a) rfl (l_cons' (e_bin (x := .int a) (y := .int b) rfl (e_idx (M1 := M2) (x := .lst adds) (y := .int j) rfl (e_call (ds := [.ref 0, .int 4]) rfl hj) hfa) rfl) l_nil')) (show 2 ≤ sizeLine by decide)) h))
  have hsub' : ∀ d ∈ sl', Nm d := fun d hd => hsl d (hsub d hd)
  by_cases hk0 : k = 0
  · obtain ⟨q, M5, hq, hF5, q0, q1⟩ := c_draw n ns _ M4 names.length hF4 (by omega)
    obtain ⟨g, hg, hga⟩ := at_mem (L := names) q0 q1
    obtain ⟨M', es', h1, h2, h3, h4⟩ := last M5 g (.inl (hnm g hg)) hF5
    refine ⟨M', sl', es', _, _, _, head _ M' (x_if_nx (M1 := M4) (t_cmp' (x := .int k) (y := .int 0) (e_call (ds := [.ref 0, .int 2]) rfl hk) rfl (by rw [cmp_eq_int, hk0]; rfl)) (x_set (d := g) (e_idx (M1 := M4) (x := .lst names) (y := .int q) rfl (e_call (ds := [.ref 0, .int names.length]) rfl hq) hga) x_nil) h1), h2, hsub', hlen, h3, h4⟩
  · obtain ⟨M', es', h1, h2, h3, h4⟩ := last M4 (.tup [.int a, .int (a + b)]) (.inr ⟨a, a + b, rfl, hab⟩) hF4
    refine ⟨M', sl', es', _, _, _, head _ M' (x_if_f (M1 := M4) (t_cmp' (x := .int k) (y := .int 0) (e_call (ds := [.ref 0, .int 2]) rfl hk) rfl (by rw [cmp_eq_int]; simpa using hk0)) h1), h2, hsub', hlen, h3, h4⟩
end Law
namespace Law
open PySem PySem.Spec PyProof.Rows L2 Mi

def outer : Ss := (.cons (.par 6 7 (.lst true (.cons (.const (.str "a")) (.cons (.const (.str "if")) (.cons (.const (.str "lid")) (.cons (.const (.str "none")) (.cons (.const (.str "of")) (.cons (.const (.str "size")) (.cons (.const (.str "x")) .nil)))))))) (.lst true .nil)) (.cons (.for_ (.name 5) (.rng1 (.call 11 (.cons (.var 0) (.cons (.const (.int 5)) .nil)))) inner) (.cons (.expr (.meth "append" (.var 4) (.cons (.tup (.cons (.var 2) (.cons (.call 20 (.cons (.var 7) .nil)) .nil))) .nil))) .nil)))
theorem x_outer (n : Nat) (ns : List Int) (A J M : MH) (names found : List D) (p3 : Nat) (t : D) (ht : Nm t) (o5 o6 o7 o8 o9 o10 : Option D) (hF : Fed ns (A ++ .lst found :: J) M) (hnm : ∀ d ∈ names, Nm d) (hn0 : 0 < names.length) (hn1 : names.length ≤ 3) (hfo : ∀ d ∈ found, Row d) (hfl : found.length ≤ 100) :
    ∃ M' J' row u5 u6 u7 u8 u9 u10, exSs (callN T (n + 1)) outer [some (.ref 0), some (.lst names), some t, some (.ref p3), some (.ref (A.length + 1)), o5, o6, o7, o8, o9, o10] M = .ok (.nx [some (.ref 0), some (.lst names), some t, some (.ref p3), some (.ref (A.length + 1)), u5, u6, u7, u8, u9, u10]) M' ∧ Fed ns (A ++ .lst (found ++ [row]) :: J') M' ∧ Row row := by
  have hX : Fed ns ((A ++ .lst found :: J) ++ [.lst slots, .lst []]) ((M ++ [.lst slots]) ++ [.lst []]) := by
    have := fed_new (o := .lst []) (fed_new (o := .lst slots) hF)
    simpa using this
  generalize hXe : A ++ MO.lst found :: J = X at hF hX
  have hl := fed_len hF
  obtain ⟨r, M1, hr, hF1, r0, r1⟩ := c_draw n ns _ _ 5 hX (by omega)
  obtain ⟨ρ', M2, hf, ⟨sl, es, u5, u8, u9, u10, rfl, hF2, -, -, hes, hel⟩⟩ := for_inv0 (tg := .name 5) (body := exSs (callN T (n + 1)) inner) (fun pre ρ M => ∃ sl es o5 o8 o9 o10, ρ = [some (.ref 0), some (.lst names), some t, some (.ref p3), some (.ref (A.length + 1)), o5, some (.ref (X.length + 1)), some (.ref (X.length + 2)), o8, o9, o10] ∧ Fed ns (X ++ [.lst sl, .lst es]) M ∧ (∀ d ∈ sl, Nm d) ∧ sl.length + pre.length = 7 ∧ (∀ d ∈ es, Entry d) ∧ es.length = pre.length) ((List.range r.toNat).map fun (k : Nat) => D.int (0 + (k : Int))) [some (.ref 0), some (.lst names), some t, some (.ref p3), some (.ref (A.length + 1)), o5, some (.ref (X.length + 1)), some (.ref (X.length + 2)), o8, o9, o10] M1 ⟨slots, [], o5, o8, o9, o10, rfl, hF1, slots_nm, rfl, by simp, rfl⟩ (by
    rintro pre d suf _ M ep ⟨sl, es, o5, o8, o9, o10, rfl, hF, h1, h2, h3, h4⟩
    have hlen : pre.length + (suf.length + 1) = r.toNat := by
      have := congrArg List.length ep
      simpa using this.symm
    obtain ⟨M', sl', es', u8, u9, u10, q1, q2, q3, q4, q5, q6⟩ := x_inner n ns X M names sl es p3 (A.length + 1) t (some d) o8 o9 o10 hF hnm hn0 hn1 h1 (by omega) (by omega) h3 (by omega)
    exact ⟨_, _, M', rfl, q1, sl', es', some d, u8, u9, u10, rfl, q2, q3, by rw [List.length_append, List.length_singleton]; omega, q5, by rw [List.length_append, List.length_singleton]; omega⟩)
  have hel' : es.length ≤ 4 := by
    rw [hel, List.length_map, List.length_range]
    omega
  have hF2' : Fed ns ((X ++ [.lst sl]) ++ .lst es :: []) M2 := by simpa using hF2
  have g2 := fed_get hF2'
  rw [show (X ++ [MO.lst sl]).length + 1 = X.length + 2 by simp] at g2
  obtain ⟨f, kvs, hc, hform⟩ := c_ordered n (X.length + 2) es M2 g2 hes hel'
  have hF3 : Fed ns (A ++ .lst found :: (J ++ [.lst sl, .lst es] ++ [.dict kvs])) (M2 ++ [.dict kvs]) := by
    have := fed_new (o := .dict kvs) hF2
    rw [← hXe] at this
    simpa using this
  have hF2'' : Fed ns (A ++ .lst found :: (J ++ [.lst sl, .lst es])) M2 := by
    rw [← hXe] at hF2
    simpa using hF2
  obtain ⟨M', ha, hF'⟩ := fed_append (d := .tup [t, f]) hF3 (by omega)
  have hlX : (M ++ [MO.lst slots]).length = X.length + 2 := by simp [hl]
  refine ⟨M', _, .tup [t, f], u5, some (.ref (X.length + 1)), some (.ref (X.length + 2)), u8, u9, u10, ?_, hF', ⟨t, f, rfl, ht, hform⟩⟩
  refine x_par (x := .ref (X.length + 1)) (y := .ref (X.length + 2)) (M1 := M ++ [.lst slots]) (M2 := (M ++ [.lst slots]) ++ [.lst []]) (by rw [← hl]; rfl) (by rw [← hlX]; rfl) ?_
  refine x_for (i_rng1' (e_call (ds := [.ref 0, .int 5]) rfl hr) (by omega)) (by rw [srcLen_vals]; exact hf) ?_
  exact x_expr (e_meth (x := .ref (A.length + 1)) (ds := [.tup [t, f]]) rfl (fed_kind (by decide) hF2'') (l_cons' (e_tup (l_cons' (d := t) rfl (l_cons' (e_call (ds := [.ref (X.length + 2)]) rfl hc) l_nil')) (show 2 ≤ sizeLine by decide)) l_nil') ha) x_nil
theorem c_schema (n : Nat) (ns : List Int) (R M : MH) (hM : Fed ns R M) : ∃ s M' J, callN T (n + 2) 19 [.ref 0] M = .ok s M' ∧ Fed ns (R ++ J) M' ∧ Schema s := by
  have hl := fed_len hM
  have hX : Fed ns (R ++ [.lst pool, .lst []]) ((M ++ [.lst pool]) ++ [.lst []]) := by
    have := fed_new (o := .lst []) (fed_new (o := .lst pool) hM)
    simpa using this
  have hlX : (M ++ [MO.lst pool]).length = R.length + 2 := by simp [hl]
  obtain ⟨r, M1, hr, hF1, r0, r1⟩ := c_draw n ns _ _ 3 hX (by omega)
  obtain ⟨acc, M2, hcomp, pl, hF2, _, hplen, hacc, hal⟩ := comp_inv0 (bind := fun d => bindT (.name 5) d (wipeR [some (.ref 0), none, none, some (.ref (R.length + 1)), some (.ref (R.length + 2)), none, none, none, none, none, none] (Tg.name 5).own)) (cond := evIf (callN T (n + 1)) .none) (elt := ev (callN T (n + 1)) (.meth "pop" (.var 3) (.cons (.call 11 (.cons (.var 0) (.cons (.bi false "len" (.cons (.var 3) .nil)) .nil))) .nil))) (fun pre acc M => ∃ xs, Fed ns (R ++ [.lst xs, .lst []]) M ∧ (∀ x ∈ xs, Nm x) ∧ xs.length + pre.length = 5 ∧ (∀ e ∈ acc, Nm e) ∧ acc.length = pre.length) ((List.range (1 + r).toNat).map fun (k : Nat) => D.int (0 + (k : Int))) M1 ⟨pool, hF1, pool_nm, rfl, by simp, rfl⟩ (by
    rintro pre acc d suf M ep ⟨xs, hF, h1, h2, h3, h4⟩
    have hlen : pre.length + (suf.length + 1) = (1 + r).toNat := by
      have := congrArg List.length ep
      simpa using this.symm
    obtain ⟨y, M', xs', q1, q2, q3, q4, q5⟩ := e_pop n 3 ns R [.lst []] M xs [some (.ref 0), none, none, some (.ref (R.length + 1)), some (.ref (R.length + 2)), some d, none, none, none, none, none] hF rfl rfl (by omega) (by omega) (fun _ _ => trivial)
    refine ⟨_, M, rfl, .inl ⟨y, M', rfl, q1, xs', q3, fun x hx => h1 x (q4 x hx), by rw [List.length_append, List.length_singleton]; omega, fun e he => ?_, by rw [List.length_append, List.length_append, List.length_singleton, List.length_singleton]; omega⟩⟩
    rcases List.mem_append.mp he with he | he
    · exact h3 e he
    · rw [List.mem_singleton.mp he]; exact h1 y q2)
  obtain ⟨ss, s1, s2, s3⟩ := strs_of hacc
  rw [List.length_map, List.length_range] at hal
  have hsrt : biD false "sorted" [.lst acc] M2 = .ok (.lst ((sortS ss).map D.str)) M2 := by
    rw [bq_sorted]
    have : ss.length < 64 := by omega
    simp only [biSorted, getL_lst, Option.bind_some, s1, this, if_true, newL_false]
  let names := (sortS ss).map D.str
  have hnm : ∀ d ∈ names, Nm d := by
    intro d hd
    obtain ⟨s, hs, rfl⟩ := List.mem_map.mp hd
    exact ⟨s, rfl, s3 s (sort_mem hs)⟩
  have hnl : names.length = (1 + r).toNat := by
    show ((sortS ss).map D.str).length = _
    rw [List.length_map, sort_len]
    omega
  obtain ⟨ρ', M3, hf, found, J, u2, u5, u6, u7, u8, u9, u10, rfl, hF3, hrows, hfl⟩ := for_inv0 (tg := .name 2) (body := exSs (callN T (n + 1)) outer) (fun pre ρ M => ∃ found J u2 u5 u6 u7 u8 u9 u10, ρ = [some (.ref 0), some (.lst names), u2, some (.ref (R.length + 1)), some (.ref (R.length + 2)), u5, u6, u7, u8, u9, u10] ∧ Fed ns ((R ++ [.lst pl]) ++ .lst found :: J) M ∧ (∀ d ∈ found, Row d) ∧ found.length = pre.length) names [some (.ref 0), some (.lst names), none, some (.ref (R.length + 1)), some (.ref (R.length + 2)), none, none, none, none, none, none] M2 ⟨[], [], none, none, none, none, none, none, none, rfl, by simpa using hF2, by simp, rfl⟩ (by
    rintro pre d suf _ M ep ⟨found, J, u2, u5, u6, u7, u8, u9, u10, rfl, hF, h1, h2⟩
    have hlen : pre.length + (suf.length + 1) = (1 + r).toNat := by
      have := congrArg List.length ep
      rw [hnl, List.length_append, List.length_cons] at this
      omega
    obtain ⟨M', J', row, v5, v6, v7, v8, v9, v10, q1, q2, q3⟩ := x_outer n ns (R ++ [.lst pl]) J M names found (R.length + 1) d (hnm d (by rw [ep]; simp)) u5 u6 u7 u8 u9 u10 hF hnm (by omega) (by omega) h1 (by omega)
    rw [show (R ++ [MO.lst pl]).length + 1 = R.length + 2 by simp] at q1
    refine ⟨_, _, M', rfl, q1, found ++ [row], J', some d, v5, v6, v7, v8, v9, v10, rfl, q2, fun e he => ?_, by rw [List.length_append, List.length_append, List.length_singleton, List.length_singleton]; omega⟩
    rcases List.mem_append.mp he with he | he
    · exact h1 e he
    · rw [List.mem_singleton.mp he]; exact q3)
  have g3 := fed_get hF3
  rw [show (R ++ [MO.lst pl]).length + 1 = R.length + 2 by simp] at g3
  refine ⟨.tup found, M3, .lst pl :: .lst found :: J, ?_, by simpa using hF3, ?_⟩
  · refine c_rt (T := T) (np := 1) (ns := 11) (body := B19) rfl rfl ?_
    refine x_par (x := .ref (R.length + 1)) (y := .ref (R.length + 2)) (M1 := M ++ [.lst pool]) (M2 := (M ++ [.lst pool]) ++ [.lst []]) (by rw [← hl]; rfl) (by rw [← hlX]; rfl) ?_
    refine x_set (e_bi (l_cons' (e_comp (i_rng1' (j := 1 + r) (e_bin (x := .int 1) (y := .int r) rfl (e_call (ds := [.ref 0, .int 3]) rfl hr) rfl) (by omega)) (by rw [srcLen_vals]; exact hcomp) rfl) l_nil') hsrt) ?_
    refine x_for (i_seq' (d := .lst names) rfl rfl) hf (x_ret (e_bi (ds := [.ref (R.length + 2)]) rfl ?_))
    rw [bq_tuple]
    simp only [biTuple, getL, g3]
  · cases found with
    | nil => simp at hfl; omega
    | cons x xs => exact ⟨x, xs, rfl, by rw [List.length_cons] at hfl; omega, hrows⟩
end Law
namespace Law
open PySem PySem.Spec PyProof.Rows L2 Mi

mutual
def iB : D → Bool
  | .int i => decide (i.natAbs < 10 ^ 61)
  | .tup xs => iBs xs
  | .lst xs => iBs xs
  | _ => true
def iBs : List D → Bool
  | [] => true
  | d :: r => iB d && iBs r
end
theorem iBs_all : ∀ {xs : List D}, (∀ d ∈ xs, iB d = true) → iBs xs = true
  | [], _ => rfl
  | d :: r, h => by
    rw [iBs, h d (by simp), iBs_all (xs := r) fun e he => h e (List.mem_cons_of_mem _ he)]
    rfl
theorem iBs_mem : ∀ {xs : List D}, iBs xs = true → ∀ d ∈ xs, iB d = true
  | d :: r, h, e, he => by
    rw [iBs, Bool.and_eq_true] at h
    rcases List.mem_cons.mp he with rfl | he
    · exact h.1
    · exact iBs_mem h.2 e he
theorem Sm.iB {n : Nat} {d : D} (h : Sm n d) : n ≤ 100 → Law.iB d = true := by
  induction h with
  | non => intro _; rfl
  | bl b => intro _; rfl
  | int h =>
    intro _
    simp only [Law.iB, decide_eq_true_eq]
    omega
  | str h1 h2 => intro _; rfl
  | tup _ h ih => intro _; exact iBs_all fun d hd => ih d hd (by omega)
  | lst _ h ih => intro _; exact iBs_all fun d hd => ih d hd (by omega)
mutual
def okB : Nat → D → Bool
  | _, .non => true
  | _, .bl _ => true
  | _, .int _ => true
  | _, .str x => decide (x.length ≤ 100000) && asc x
  | n, .tup xs => match n with
    | 0 => false
    | n + 1 => okBs n xs && decide (xs.length ≤ 1000)
  | n, .lst xs => match n with
    | 0 => false
    | n + 1 => okBs n xs && decide (xs.length ≤ 1000)
  | _, _ => false
def okBs : Nat → List D → Bool
  | _, [] => true
  | n, d :: r => okB n d && okBs n r
end
mutual
theorem okB_ok : ∀ (n : Nat) (d : D), okB n d = true → Ok n d
  | n, .non, _ => .non
  | n, .bl b, _ => .bl b
  | n, .int i, h => .int i
  | n, .str x, h => by
    simp [okB] at h
    exact .str h.1 (asc_ok h.2)
  | 0, .tup xs, h => by simp [okB] at h
  | n + 1, .tup xs, h => by
    simp [okB] at h
    exact .tup (okBs_ok n xs h.1) h.2
  | 0, .lst xs, h => by simp [okB] at h
  | n + 1, .lst xs, h => by
    simp [okB] at h
    exact .lst (okBs_ok n xs h.1) h.2
  | _, .ref _, h => by simp [okB] at h
  | _, .fn _, h => by simp [okB] at h
  | _, .ty _, h => by simp [okB] at h
  | _, .scr _, h => by simp [okB] at h
theorem okBs_ok : ∀ (n : Nat) (ds : List D), okBs n ds = true → ∀ d ∈ ds, Ok n d
  | _, [], _ => by simp
  | n, d :: r, h => by
    simp [okBs] at h
    intro e he
    rcases List.mem_cons.mp he with he | he
    · rw [he]
      exact okB_ok n d h.1
    · exact okBs_ok n r h.2 e he
end
/-- a thing of the list -/
def Itm (d : D) : Prop := Ok 9 d ∧ iB d = true
theorem Sm.itm {n : Nat} {d : D} (h : Sm n d) (hn : n ≤ 9) : Itm d := ⟨(h.ok (by omega)).mono hn, h.iB (by omega)⟩
def Shows (n : Nat) (d : D) (p : PyData) : Prop := py0 d = some p ∧ p.showable = true ∧ p.leavesShort 64 = true ∧ p.bulk = wt d ∧ p.depth ≤ n
theorem shows_all {n : Nat} : ∀ {xs : List D}, (∀ d ∈ xs, ∃ p, Shows n d p) → ∃ ps, py0s xs = some ps ∧ PyData.showableAll ps = true ∧ PyData.leavesShortAll 64 ps = true ∧ PyData.bulkAll ps = wts xs ∧ PyData.depthAll ps ≤ n
  | [], _ => ⟨[], rfl, rfl, rfl, rfl, by simp [PyData.depthAll]⟩
  | x :: xs, h => by
    obtain ⟨p, h1, h2, h3, h4, h5⟩ := h x (by simp)
    obtain ⟨ps, k1, k2, k3, k4, k5⟩ := shows_all (xs := xs) fun d hd => h d (List.mem_cons_of_mem _ hd)
    refine ⟨p :: ps, by simp only [py0s, h1, k1], by simp only [PyData.showableAll, h2, k2]; rfl, by simp only [PyData.leavesShortAll, h3, k3]; rfl, by simp only [PyData.bulkAll, wts, h4, k4], ?_⟩
    simp only [PyData.depthAll]
    omega
theorem shows_ok {n : Nat} {d : D} (h : Ok n d) : iB d = true → ∃ p, Shows n d p := by
  induction h with
  | non => intro _; exact ⟨_, rfl, rfl, rfl, rfl, by simp [PyData.depth]⟩
  | bl b => intro _; exact ⟨_, rfl, rfl, rfl, rfl, by simp [PyData.depth]⟩
  | int i =>
    intro hi
    simp only [iB, decide_eq_true_eq] at hi
    refine ⟨_, rfl, ?_, ?_, rfl, by simp [PyData.depth]⟩
    · simp only [PyData.showable, decide_eq_true_eq]
      by_cases h : i.natAbs = 0
      · rw [h]; decide
      · exact Nat.lt_trans ((Nat.log2_lt h).mpr (show i.natAbs < 2 ^ 203 from Nat.lt_trans hi (by decide))) (by decide)
    · simp only [PyData.leavesShort, decide_eq_true_eq]
      have := int_text_length_le10 (a := i) (k := 61) (by decide) hi
      have e : (PyData.shown (.int i)).length = (toString i).length := by
        show (Str.ofString (toString i)).length = _
        exact PySem.ofString_length _
      rw [e]
      omega
  | str a b =>
    intro _
    refine ⟨_, rfl, rfl, ?_, rfl, by simp [PyData.depth]⟩
    simp only [PyData.leavesShort, List.all_eq_true, decide_eq_true_eq]
    intro c hc
    have := strOk_ch b c hc
    exact Nat.lt_trans this (by decide)
  | tup _ _ ih =>
    intro hi
    obtain ⟨ps, k1, k2, k3, k4, k5⟩ := shows_all fun d hd => ih d hd (iBs_mem hi d hd)
    exact ⟨.tuple ps, by simp only [py0, k1], k2, k3, k4, by simp only [PyData.depth]; omega⟩
  | lst _ _ ih =>
    intro hi
    obtain ⟨ps, k1, k2, k3, k4, k5⟩ := shows_all fun d hd => ih d hd (iBs_mem hi d hd)
    exact ⟨.list ps, by simp only [py0, k1], k2, k3, k4, by simp only [PyData.depth]; omega⟩
theorem repr_items {xs : List D} (h : ∀ d ∈ xs, Itm d) (hw : wts xs ≤ 200000) : ∃ s : Str, ∀ (p : Nat) (M : MH), M[p]? = some (.lst xs) → biD false "repr" [.ref p] M = .ok (.str s) M := by
  obtain ⟨ps, k1, k2, k3, k4, k5⟩ := shows_all fun d hd => shows_ok (h d hd).1 (h d hd).2
  refine ⟨PyData.shown (.list ps), fun p M hp => ?_⟩
  have hl : (PyData.shown (.list ps)).length ≤ sizeLine := by
    have := PyData.shown_le_bulk 64 (by decide) (.list ps) k3
    have e : PyData.bulk (.list ps) = wts xs := k4
    rw [e] at this
    have q : 66 * 200000 + 64 ≤ sizeLine := by decide
    omega
  have hc : (PyData.showable (.list ps) && decide (PyData.depth (.list ps) ≤ 60) && decide ((PyData.shown (.list ps)).length ≤ sizeLine)) = true := by
    rw [show PyData.showable (.list ps) = true from k2, decide_eq_true hl, decide_eq_true (show PyData.depth (.list ps) ≤ 60 by simp only [PyData.depth]; omega)]
    rfl
  rw [bq_repr]
  have hr : reprD (.ref p) M = some (PyData.shown (.list ps)) := by
    have e1 : pyM M (.ref p) = some (.list ps) := by simp only [pyM, hp, k1]
    unfold reprD
    rw [if_pos (show isTree (D.ref p) = true from rfl), e1]
    exact if_pos hc
  simp only [biRepr, hr, Option.map, resO]
end Law
namespace Law
open PySem PySem.Spec PyProof.Rows L2 Mi

def valsL : List D := match callN T 1 23 [] [.lst []] with | .ok _ [_, .lst xs] => xs | _ => []
def wide9 : List D := match callN T 1 24 [] [.lst [], .lst []] with | .ok _ [_, _, .lst xs] => xs | _ => []
def wideL : List D := match callN T 1 24 [] [.lst [], .lst []] with | .ok (.lst xs) _ => xs | _ => []
theorem c_values (n : Nat) (f : MO) : callN T (n + 1) 23 [] [f] = .ok (.ref 1) [f, .lst valsL] := rfl
theorem c_wide (n : Nat) (f g : MO) : callN T (n + 1) 24 [] [f, g] = .ok (.lst wideL) [f, g, .lst wide9] := rfl
theorem vals_ok : (valsL.all fun d => okB 9 d && iB d) = true := by decide +kernel
theorem vals_wt : wts valsL ≤ 10000 ∧ valsL.length ≤ 100 := by decide +kernel
theorem wide_ok : (wideL.all fun d => okB 9 d && iB d) = true := by decide +kernel
theorem pick_wt : ∀ i : Nat, i < 4 → wts (pickD wideL (some (i : Int)) none (some 4)) ≤ 10000 ∧ (pickD wideL (some (i : Int)) none (some 4)).length ≤ 20 := by decide +kernel
theorem pick_mem {α : Type} {xs : List α} {a b c : Option Int} {d : α} (h : d ∈ pickD xs a b c) : d ∈ xs := by
  unfold pickD at h
  obtain ⟨i, _, hi⟩ := List.mem_filterMap.mp h
  exact List.mem_of_getElem? hi
end Law
namespace Law
open PySem PySem.Spec PyProof.Rows L2 Mi

theorem at_last {x : D} {xs : List D} : ∃ e ∈ x :: xs, atI (x :: xs) (-1) = some e := by
  have h : atI (x :: xs) (-1) = (x :: xs)[xs.length]? := by
    unfold atI ixN
    rw [if_neg (by decide), if_pos (by rw [List.length_cons]; omega)]
    show (x :: xs)[((-1 : Int) + ((x :: xs).length : Int)).toNat]? = _
    rw [List.length_cons, show ((-1 : Int) + ((xs.length + 1 : Nat) : Int)).toNat = xs.length by omega]
  have g : (x :: xs)[xs.length]? = some ((x :: xs)[xs.length]'(by simp)) := List.getElem?_eq_getElem _
  exact ⟨_, List.getElem_mem _, by rw [h, g]⟩
/-- a comprehension that keeps nothing, over a list that stays -/
theorem comp_none {bind : D → Option Rho} {cond : Rho → MH → Res Bool} {elt : Rho → MH → Res D} {N : Nat} (ρf : D → Rho) : ∀ (xs pre acc : List D) (M : MH), M[N]? = some (.lst (pre ++ xs)) → (∀ d ∈ xs, bind d = some (ρf d) ∧ ∀ M, ∃ J, cond (ρf d) M = .ok false (M ++ J)) →
    ∃ J, compLoop (.live N (pre ++ xs).length) bind cond elt xs.length pre.length acc M = .ok acc (M ++ J)
  | [], pre, acc, M, hM, _ => ⟨[], by simp [compLoop, srcEnd, hM]⟩
  | x :: xs, pre, acc, M, hM, h => by
    obtain ⟨h1, h2⟩ := h x (by simp)
    obtain ⟨J1, h2⟩ := h2 M
    have hlt : N < M.length := (List.getElem?_eq_some_iff.mp hM).1
    obtain ⟨J2, ih⟩ := comp_none (bind := bind) (cond := cond) (elt := elt) (N := N) ρf xs (pre ++ [x]) acc (M ++ J1) (by rw [List.getElem?_append_left hlt, hM]; simp) (fun d hd => h d (List.mem_cons_of_mem _ hd))
    have hat : srcAt M pre.length (.live N (pre ++ x :: xs).length) = some x := by simp [srcAt, hM]
    have eq : pre ++ [x] ++ xs = pre ++ x :: xs := by simp
    rw [eq, List.length_append (as := pre) (bs := [x]), List.length_singleton] at ih
    refine ⟨J1 ++ J2, ?_⟩
    simp only [List.length_cons (as := xs), compLoop, hat, h1, h2, Res.bind, Bool.false_eq_true, if_false]
    rw [ih, List.append_assoc]
theorem comp_none0 {bind : D → Option Rho} {cond : Rho → MH → Res Bool} {elt : Rho → MH → Res D} {N : Nat} (ρf : D → Rho) (xs : List D) (M : MH) (hM : M[N]? = some (.lst xs)) (h : ∀ d ∈ xs, bind d = some (ρf d) ∧ ∀ M, ∃ J, cond (ρf d) M = .ok false (M ++ J)) :
    ∃ J, compLoop (.live N xs.length) bind cond elt xs.length 0 [] M = .ok [] (M ++ J) := by
  simpa using comp_none (bind := bind) (cond := cond) (elt := elt) (N := N) ρf xs [] [] M hM h
/-- the list so far -/
structure Good (xs : List D) (k w : Nat) : Prop where
  itm : ∀ d ∈ xs, Itm d
  len : xs.length ≤ k
  wt : wts xs ≤ w
def bodyI : Ss := (.cons (.set 9 (.call 22 (.cons (.var 1) (.cons (.var 8) .nil)))) (.cons (.expr (.meth "extend" (.var 2) (.cons (.lst false (.cons (.var 8) (.cons (.var 9) (.cons (.call 22 (.cons (.var 1) (.cons (.var 9) .nil))) .nil)))) .nil))) .nil))
theorem x_item (ns : List Int) (A J M : MH) (items : List D) (k w : Nat) (s d : D) (o3 o4 o5 o6 o7 o9 o10 o11 : Option D) (hF : Fed ns (A ++ .lst items :: J) M) (hg : Good items k w) (hk : k ≤ 1000) (hd : Sm 5 d) (hw : wt d ≤ 261) :
    ∃ M' items' u9, exSs (callN T 30) bodyI [some s, some (.ref 0), some (.ref (A.length + 1)), o3, o4, o5, o6, o7, some d, o9, o10, o11] M = .ok (.nx [some s, some (.ref 0), some (.ref (A.length + 1)), o3, o4, o5, o6, o7, some d, u9, o10, o11]) M' ∧ Fed ns (A ++ .lst items' :: J) M' ∧ Good items' (k + 3) (w + 1900) := by
  obtain ⟨r, M1, h1, B1⟩ := c_bent ns _ 5 d 22 M (by omega) hd hF
  obtain ⟨r2, M2, h2, B2⟩ := c_bent ns _ 6 r 21 M1 (by omega) B1.sm B1.fed
  have hlen := hg.len
  obtain ⟨M', hx, hF'⟩ := fed_extend (ys := [d, r, r2]) B2.fed (show items.length + 3 ≤ 10000 by omega)
  refine ⟨M', items ++ [d, r, r2], some r, ?_, hF', fun e he => ?_, ?_, ?_⟩
  · refine x_set (e_call (ds := [.ref 0, d]) rfl h1) (x_expr (e_meth (x := .ref (A.length + 1)) (M1 := M1) (M2 := M2) (ds := [.lst [d, r, r2]]) rfl (fed_kind (by decide) B1.fed) (l_cons' (e_lst (l_cons' (d := d) rfl (l_cons' (d := r) rfl (l_cons' (e_call (ds := [.ref 0, r]) rfl h2) l_nil'))) (show 3 ≤ sizeLine by decide) rfl) l_nil') hx) x_nil)
  · rcases List.mem_append.mp he with he | he
    · exact hg.itm e he
    · simp only [List.mem_cons, List.not_mem_nil, or_false] at he
      rcases he with rfl | rfl | rfl
      · exact hd.itm (by omega)
      · exact B1.sm.itm (by omega)
      · exact B2.sm.itm (by omega)
  · rw [List.length_append]
    show _ + 3 ≤ _
    omega
  · have := hg.wt
    have w1 := B1.wt
    have w2 := B2.wt
    rw [wts_app]
    simp only [wts]
    omega
theorem cut_form {ys : List D} (h : Form (.tup ys)) : Form (.tup (Mi.cutD ys none (some 1))) := by
  obtain ⟨zs, e, h1, h2⟩ := h
  cases e
  exact ⟨_, rfl, Nat.le_trans (len_cut _ _ _) h1, fun y hy => h2 y (mem_cut hy)⟩
def bodyT : Ss := (.cons (.set 6 (.call 19 (.cons (.var 1) .nil))) (.cons (.set 7 (.lst true (.cons (.var 6) (.cons (.idx (.idx (.var 6) (.const (.int 0))) (.const (.int 1))) (.cons (.idx (.var 6) (.neg (.const (.int 1)))) (.cons (.slice false (.idx (.idx (.var 6) (.const (.int 0))) (.const (.int 1))) .none (.some (.const (.int 1)))) .nil)))))) (.cons (.expr (.meth "extend" (.var 7) (.cons (.comp false (.var 11) (.tup [10, 11]) (.seq (.idx (.idx (.var 6) (.neg (.const (.int 1)))) (.const (.int 1)))) .none) .nil))) (.cons (.for_ (.name 8) (.seq (.bin false .Add (.var 7) (.bin false .Mult (.lst false (.cons (.var 6) .nil)) (.const (.int 3))))) bodyI) .nil))))
theorem x_turn (ns : List Int) (A J M : MH) (items : List D) (k w : Nat) (s t : D) (o4 o5 o6 o7 o8 o9 : Option D) (hF : Fed ns (A ++ .lst items :: J) M) (hg : Good items k w) (hk : k ≤ 500) :
    ∃ M' J' items' u6 u7 u8 u9, exSs (callN T 30) bodyT [some s, some (.ref 0), some (.ref (A.length + 1)), some t, o4, o5, o6, o7, o8, o9, none, none] M = .ok (.nx [some s, some (.ref 0), some (.ref (A.length + 1)), some t, o4, o5, u6, u7, u8, u9, none, none]) M' ∧ Fed ns (A ++ .lst items' :: J') M' ∧ Good items' (k + 33) (w + 20900) := by
  obtain ⟨sc, M1, J1, h1, hF1, hsc⟩ := c_schema 28 ns _ M hF
  have hsm := hsc.sm 0
  obtain ⟨x, xs, rfl, hxl, hrow⟩ := hsc
  obtain ⟨a, f, rfl, ha, hf⟩ := hrow x (by simp)
  obtain ⟨l, hl, hla⟩ := at_last (x := D.tup [a, f]) (xs := xs)
  obtain ⟨a', f', rfl, ha', hf'⟩ := hrow l hl
  have hfs := hf.sm 0
  obtain ⟨ys, rfl, hyl, hye⟩ := hf
  have hcut := (cut_form ⟨ys, rfl, hyl, hye⟩).sm 0
  have hls := (Row.sm ⟨a', f', rfl, ha', hf'⟩) 0
  obtain ⟨ys', rfl, hyl', hye'⟩ := hf'
  let lot0 : List D := [.tup (.tup [a, .tup ys] :: xs), .tup ys, .tup [a', .tup ys'], .tup (Mi.cutD ys none (some 1))]
  let lot : List D := lot0 ++ ys'.map sndD
  have hF2 : Fed ns ((A ++ .lst items :: (J ++ J1)) ++ .lst lot0 :: []) (M1 ++ [.lst lot0]) := by
    have := fed_new (o := .lst lot0) hF1
    simpa using this
  generalize hX : A ++ MO.lst items :: (J ++ J1) = X at hF2
  have hlM : M1.length = X.length + 1 := by
    rw [← hX]
    have := fed_len hF1
    simpa using this
  have cm := comp_all (M := M1 ++ [.lst lot0]) (bind := fun d => bindT (.tup [10, 11]) d (wipeR [some s, some (.ref 0), some (.ref (A.length + 1)), some t, o4, o5, some (.tup (.tup [a, .tup ys] :: xs)), some (.ref (X.length + 1)), o8, o9, none, none] (Tg.tup [10, 11]).own)) (cond := evIf (callN T 30) .none) (elt := ev (callN T 30) (.var 11)) (fun _ => true) sndD (fun y => [some s, some (.ref 0), some (.ref (A.length + 1)), some t, o4, o5, some (.tup (.tup [a, .tup ys] :: xs)), some (.ref (X.length + 1)), o8, o9, some (fstD y), some (sndD y)]) ys' (by
    intro y hy
    obtain ⟨c, e, rfl, _, _⟩ := hye' y hy
    exact ⟨rfl, rfl, fun _ => rfl⟩)
  rw [filter_tt] at cm
  obtain ⟨M3, hext, hF3⟩ := fed_extend (ys := ys'.map sndD) hF2 (show 4 + (ys'.map sndD).length ≤ 10000 by rw [List.length_map]; omega)
  have hF4 : Fed ns (A ++ .lst items :: ((J ++ J1) ++ [.lst lot])) M3 := by
    rw [← hX] at hF3
    simpa using hF3
  have hall : ∀ d ∈ lot ++ [.tup (.tup [a, .tup ys] :: xs), .tup (.tup [a, .tup ys] :: xs), .tup (.tup [a, .tup ys] :: xs)], Sm 5 d ∧ wt d ≤ 261 := by
    intro d hd
    rcases List.mem_append.mp hd with hd | hd
    · rcases List.mem_append.mp hd with hd | hd
      · simp only [lot0, List.mem_cons, List.not_mem_nil, or_false] at hd
        rcases hd with rfl | rfl | rfl | rfl
        · exact hsm
        · exact ⟨hfs.1.mono (by omega), by omega⟩
        · exact ⟨hls.1.mono (by omega), by omega⟩
        · exact ⟨hcut.1.mono (by omega), by omega⟩
      · obtain ⟨y, hy, rfl⟩ := List.mem_map.mp hd
        obtain ⟨c, e, rfl, _, he⟩ := hye' y hy
        have := he.sm 0
        exact ⟨this.1.mono (by omega), Nat.le_trans this.2 (by omega)⟩
    · simp only [List.mem_cons, List.not_mem_nil, or_false] at hd
      rcases hd with rfl | rfl | rfl <;> exact hsm
  have hlotl : (lot ++ [D.tup (.tup [a, .tup ys] :: xs), .tup (.tup [a, .tup ys] :: xs), .tup (.tup [a, .tup ys] :: xs)]).length ≤ 11 := by
    simp only [lot, lot0, List.length_append, List.length_cons, List.length_nil, List.length_map]
    omega
  obtain ⟨ρ', M', hfor, items', k', u8, u9, rfl, hF5, hg5, hk5⟩ := for_inv0 (tg := .name 8) (body := exSs (callN T 30) bodyI) (fun pre ρ M => ∃ items' k' u8 u9, ρ = [some s, some (.ref 0), some (.ref (A.length + 1)), some t, o4, o5, some (.tup (.tup [a, .tup ys] :: xs)), some (.ref (X.length + 1)), u8, u9, none, none] ∧ Fed ns (A ++ .lst items' :: ((J ++ J1) ++ [.lst lot])) M ∧ Good items' (k + 3 * k') (w + 1900 * k') ∧ k' = pre.length) (lot ++ [.tup (.tup [a, .tup ys] :: xs), .tup (.tup [a, .tup ys] :: xs), .tup (.tup [a, .tup ys] :: xs)]) [some s, some (.ref 0), some (.ref (A.length + 1)), some t, o4, o5, some (.tup (.tup [a, .tup ys] :: xs)), some (.ref (X.length + 1)), o8, o9, none, none] M3 ⟨items, 0, o8, o9, rfl, hF4, hg, rfl⟩ (by
    rintro pre d suf _ M ep ⟨items', k', u8, u9, rfl, hF, hg, hk'⟩
    have hd := hall d (by rw [ep]; simp)
    have hpl : pre.length + (suf.length + 1) ≤ 11 := by
      have := congrArg List.length ep
      rw [List.length_append (as := pre), List.length_cons] at this
      omega
    obtain ⟨M', items2, v9, q1, q2, q3⟩ := x_item ns A _ M items' _ _ s d (some t) o4 o5 (some (.tup (.tup [a, .tup ys] :: xs))) (some (.ref (X.length + 1))) u9 none none hF hg (by omega) hd.1 hd.2
    refine ⟨_, _, M', rfl, q1, items2, k' + 1, some d, v9, rfl, q2, ?_, by rw [List.length_append, List.length_singleton]; omega⟩
    rw [show k + 3 * (k' + 1) = k + 3 * k' + 3 by omega, show w + 1900 * (k' + 1) = w + 1900 * k' + 1900 by omega]
    exact q3)
  refine ⟨M', _, items', some (.tup (.tup [a, .tup ys] :: xs)), some (.ref (X.length + 1)), u8, u9, ?_, hF5, ⟨hg5.itm, Nat.le_trans hg5.len (by omega), Nat.le_trans hg5.wt (by omega)⟩⟩
  have g3 := fed_get hF3
  refine x_set (e_call (ds := [.ref 0]) rfl h1) (x_set (M1 := M1 ++ [.lst lot0]) (d := .ref (X.length + 1)) ?_ (x_expr (M1 := M3) (d := .non) ?_ (x_for (src := .vals (lot ++ [.tup (.tup [a, .tup ys] :: xs), .tup (.tup [a, .tup ys] :: xs), .tup (.tup [a, .tup ys] :: xs)])) (M1 := M3) (i_seq' (d := .lst (lot ++ [.tup (.tup [a, .tup ys] :: xs), .tup (.tup [a, .tup ys] :: xs), .tup (.tup [a, .tup ys] :: xs)])) ?_ rfl) hfor x_nil)))
  · refine e_lst (ds := lot0) (M1 := M1) (l_cons' (d := .tup (.tup [a, .tup ys] :: xs)) rfl (l_cons' (e_idx (e_idx (x := .tup (.tup [a, .tup ys] :: xs)) rfl rfl (atI_0 _ _)) rfl (atI_1 _ _ _)) (l_cons' (e_idx (x := .tup (.tup [a, .tup ys] :: xs)) (y := .int (-1)) rfl rfl hla) (l_cons' (e_slice (x := .tup ys) (l := none) (h := some (.int 1)) (l' := none) (h' := some 1) (e_idx (e_idx (x := .tup (.tup [a, .tup ys] :: xs)) rfl rfl (atI_0 _ _)) rfl (atI_1 _ _ _)) rfl rfl rfl rfl rfl) l_nil')))) (show 4 ≤ sizeLine by decide) ?_
    rw [← hlM]
    rfl
  · have ec := e_comp (m := false) (i_seq' (cl := callN T 30) (ρ := [some s, some (.ref 0), some (.ref (A.length + 1)), some t, o4, o5, some (.tup (.tup [a, .tup ys] :: xs)), some (.ref (X.length + 1)), o8, o9, none, none]) (M := M1 ++ [MO.lst lot0]) (a := .idx (.idx (.var 6) (.neg (.const (.int 1)))) (.const (.int 1))) (d := .tup ys') (e_idx (e_idx (x := .tup (.tup [a, .tup ys] :: xs)) (y := .int (-1)) rfl rfl hla) rfl (atI_1 _ _ _)) rfl) cm rfl
    exact e_meth (x := .ref (X.length + 1)) (M1 := M1 ++ [MO.lst lot0]) (M2 := M1 ++ [MO.lst lot0]) (ds := [.lst (ys'.map sndD)]) rfl (fed_kind (by decide) hF2) (l_cons' ec l_nil') hext
  · refine e_bin (x := .ref (X.length + 1)) (y := .lst [.tup (.tup [a, .tup ys] :: xs), .tup (.tup [a, .tup ys] :: xs), .tup (.tup [a, .tup ys] :: xs)]) (M1 := M3) (M2 := M3) rfl rfl ?_
    have hsz : lot.length + 3 ≤ sizeLine := sz_ok (by rw [List.length_append] at hlotl; exact Nat.le_trans hlotl (by decide))
    simp only [binD, numD, getL, g3]
    exact if_pos hsz
end Law
namespace Law
open PySem PySem.Spec PyProof.Rows L2 Mi

theorem cut63 (ns : List Int) : Mi.cutD (ns.map D.int) none (some 63) = (ns.take 63).map D.int := by
  unfold Mi.cutD
  rw [HT.sIx_none, show HT.sIx (ns.map D.int).length (ns.map D.int).length (some 63) = min 63 (ns.map D.int).length from HT.sIx_nat _ _ 63]
  rw [List.map_take, Nat.sub_zero, List.drop_zero, List.take_eq_take_iff]
  omega
theorem c_feed (n : Nat) (ns : List Int) : callN T (n + 1) 10 [.scr ns] [] = .ok (.ref 0) [feedO (ns.take 63) 0 0 0] := by
  refine c_rt (T := T) (np := 1) (ns := 1) (body := B10) rfl rfl (x_ret ?_)
  have h1 : evs (callN T n) (.cons (.bi false "list" (.cons (.slice false (.var 0) .none (.some (.const (.int 63)))) .nil)) (.cons (.const (.int 0)) (.cons (.const (.int 0)) (.cons (.const (.int 0)) .nil)))) [some (.scr ns)] [] = .ok [.lst ((ns.take 63).map D.int), .int 0, .int 0, .int 0] [] := by
    refine l_cons' (e_bi (ds := [.lst ((ns.take 63).map D.int)]) (l_cons' (e_slice (x := .scr ns) (l := none) (h := some (.int 63)) (l' := none) (h' := some 63) rfl rfl rfl rfl rfl ?_) l_nil') rfl) rfl
    rw [← cut63]
    rfl
  simp only [ev]
  rw [show (List.map some [D.scr ns] ++ List.replicate (1 - [D.scr ns].length) none) = [some (D.scr ns)] from rfl, h1]
  rfl
theorem keep_get {M J : MH} {p : Nat} {o : MO} (h : M[p]? = some o) : (M ++ J)[p]? = some o := by
  rw [List.getElem?_append_left (List.getElem?_eq_some_iff.mp h).1]
  exact h
theorem law_true (ns : List Int) : ∃ M', callN T (30 + 1) 26 [.scr ns] [] = .ok (.bl true) M' := by
  let n0 := ns.take 63
  have hF0 : Fed n0 [.lst valsL, .lst wide9] [feedO n0 0 0 0, .lst valsL, .lst wide9] := ⟨0, 0, 0, by omega, rfl⟩
  obtain ⟨i, M1, hi, hF1, i0, i1⟩ := c_draw 29 n0 _ _ 4 hF0 (by omega)
  obtain ⟨j, rfl⟩ := Int.eq_ofNat_of_zero_le i0
  have hj : j < 4 := by omega
  have pw := pick_wt j hj
  let picks := pickD wideL (some (j : Int)) none (some 4)
  let items0 := valsL ++ picks
  have g0 : Good items0 120 20000 := by
    refine ⟨fun d hd => ?_, ?_, ?_⟩
    · have : (okB 9 d && iB d) = true := by
        rcases List.mem_append.mp hd with hd | hd
        · exact List.all_eq_true.mp vals_ok d hd
        · exact List.all_eq_true.mp wide_ok d (pick_mem hd)
      rw [Bool.and_eq_true] at this
      exact ⟨okB_ok 9 d this.1, this.2⟩
    · rw [List.length_append]
      have := vals_wt.2
      have := pw.2
      show _ + (pickD wideL (some (j : Int)) none (some 4)).length ≤ _
      omega
    · rw [wts_app]
      have := vals_wt.1
      have := pw.1
      show _ + wts (pickD wideL (some (j : Int)) none (some 4)) ≤ _
      omega
  have hF2 : Fed n0 ([.lst valsL, .lst wide9] ++ .lst items0 :: []) (M1 ++ [.lst items0]) := by
    have := fed_new (o := .lst items0) hF1
    simpa using this
  obtain ⟨ρ', M2, hfor, J, items, o3, o6, o7, o8, o9, rfl, hF3, hg3⟩ := for_inv0 (tg := .name 3) (body := exSs (callN T 30) bodyT) (fun pre ρ M => ∃ J items o3 o6 o7 o8 o9, ρ = [some (.scr ns), some (.ref 0), some (.ref 3), o3, none, none, o6, o7, o8, o9, none, none] ∧ Fed n0 ([.lst valsL, .lst wide9] ++ .lst items :: J) M ∧ Good items (120 + 33 * pre.length) (20000 + 20900 * pre.length)) [.int 0, .int 1] [some (.scr ns), some (.ref 0), some (.ref 3), none, none, none, none, none, none, none, none, none] (M1 ++ [.lst items0]) ⟨[], items0, none, none, none, none, none, rfl, hF2, g0⟩ (by
    rintro pre d suf _ M ep ⟨J, items, o3, o6, o7, o8, o9, rfl, hF, hg⟩
    have hpl : pre.length + (suf.length + 1) = 2 := by
      have := congrArg List.length ep
      rw [List.length_append, List.length_cons] at this
      simpa using this.symm
    obtain ⟨M', J', items', u6, u7, u8, u9, q1, q2, q3⟩ := x_turn n0 [.lst valsL, .lst wide9] J M items _ _ (.scr ns) d none none o6 o7 o8 o9 hF hg (by omega)
    refine ⟨_, _, M', rfl, q1, J', items', some d, u6, u7, u8, u9, rfl, q2, ?_⟩
    rw [List.length_append, List.length_singleton, show 120 + 33 * (pre.length + 1) = 120 + 33 * pre.length + 33 by omega, show 20000 + 20900 * (pre.length + 1) = 20000 + 20900 * pre.length + 20900 by omega]
    exact q3)
  have g3 : M2[3]? = some (.lst items) := fed_get hF3
  have hw : wts items ≤ 200000 := Nat.le_trans hg3.wt (by decide)
  obtain ⟨rs, hrs⟩ := repr_items hg3.itm hw
  obtain ⟨J4, hcomp⟩ := comp_none0 (N := 3) (bind := fun d => bindT (.name 8) d (wipeR [some (.scr ns), some (.ref 0), some (.ref 3), o3, some (.str rs), none, o6, o7, o8, o9, none, none] (Tg.name 8).own)) (cond := evIf (callN T 30) (.some (.not (.call 25 (.cons (.var 8) .nil))))) (elt := ev (callN T 30) (.var 8)) (fun d => [some (.scr ns), some (.ref 0), some (.ref 3), o3, some (.str rs), none, o6, o7, some d, o9, none, none]) items M2 g3 (by
    intro d hd
    refine ⟨rfl, fun M => ?_⟩
    obtain ⟨J, hr⟩ := c_law_right (m := 5) 19 d M (hg3.itm d hd).1 (by omega)
    exact ⟨J, t_not' (k := true) (t_call (ds := [d]) rfl hr)⟩)
  have g4 := keep_get (J := J4) g3
  obtain ⟨J5, hsch⟩ := c_is_schema (m := 0) 20 (.tup [.tup [.str "a", .tup []]]) (M2 ++ J4) (okB_ok 4 _ (by decide +kernel)) (by omega)
  have n1 : callN T 30 1 [.str "none"] (M2 ++ J4) = .ok (.bl true) (M2 ++ J4) := by
    rw [c_is_name 29 (.str "none") (M2 ++ J4) rfl (by show _ ≤ sizeLine; decide), show nameB (.str "none") = true by decide +kernel]
  have n2 : callN T 30 4 [.tup [.int 3, .int 3]] (M2 ++ J4) = .ok (.bl true) (M2 ++ J4) := by
    rw [c_is_kind 26 (.tup [.int 3, .int 3]) (M2 ++ J4) rfl trivial (by decide), show kindB (.tup [.int 3, .int 3]) = true by decide +kernel]
  have n3 : callN T 30 7 [.tup []] (M2 ++ J4) = .ok (.bl true) (M2 ++ J4) := by
    rw [c_is_form (m := 0) 23 (.tup []) (M2 ++ J4) (okB_ok 2 _ (by decide +kernel)), show formB (.tup []) = true by decide +kernel]
  have n4 : callN T 30 9 [.tup [.tup [.str "a", .tup []]]] (M2 ++ J4) = .ok (.bl true) (M2 ++ J4 ++ J5) := by
    rw [hsch, show schemaB (.tup [.tup [.str "a", .tup []]]) = true by decide +kernel]
  refine ⟨M2 ++ J4 ++ J5, ?_⟩
  refine c_rt (T := T) (np := 1) (ns := 12) (body := B26) rfl rfl ?_
  refine x_set (e_call (ds := [.scr ns]) rfl (c_feed 29 ns)) ?_
  refine x_set (d := .ref 3) (M1 := M1 ++ [.lst items0]) ?_ ?_
  · refine e_bin (x := .ref 1) (y := .lst picks) (M1 := [feedO n0 0 0 0, .lst valsL]) (M2 := M1) (e_call (ds := []) rfl (c_values 29 _)) ?_ ?_
    · have hst : ev (callN T 30) (.stepL false (.call 24 .nil) (.call 11 (.cons (.var 1) (.cons (.const (.int 4)) .nil))) 4) [some (.scr ns), some (.ref 0), none, none, none, none, none, none, none, none, none, none] [feedO n0 0 0 0, .lst valsL] = .ok (.lst picks) M1 := by
        have a1 : ev (callN T 30) (.call 24 .nil) [some (.scr ns), some (.ref 0), none, none, none, none, none, none, none, none, none, none] [feedO n0 0 0 0, .lst valsL] = .ok (.lst wideL) [feedO n0 0 0 0, .lst valsL, .lst wide9] := e_call (ds := []) rfl (c_wide 29 _ _)
        have a2 : ev (callN T 30) (.call 11 (.cons (.var 1) (.cons (.const (.int 4)) .nil))) [some (.scr ns), some (.ref 0), none, none, none, none, none, none, none, none, none, none] [feedO n0 0 0 0, .lst valsL, .lst wide9] = .ok (.int (j : Int)) M1 := e_call (ds := [.ref 0, .int 4]) rfl hi
        rw [ev, a1]
        simp only [Res.bind]
        rw [a2]
        rfl
      exact hst
    · have gv : M1[1]? = some (.lst valsL) := fed_get (A := []) hF1
      have hl3 : M1.length = 3 := by
        have := fed_len hF1
        simpa using this
      have hz : valsL.length + picks.length ≤ sizeLine := by
        have := vals_wt.2
        have := pw.2
        exact sz_ok (show valsL.length + (pickD wideL (some (j : Int)) none (some 4)).length ≤ 10000 by omega)
      simp only [binD, numD, getL, gv, if_pos hz, newL_true, hl3]
      rfl
  refine x_for (i_rng1' (j := 2) rfl (by omega)) hfor ?_
  refine x_set (e_bi (ds := [.ref 3]) rfl (hrs 3 M2 g3)) ?_
  refine x_if_f (M1 := M2 ++ J4) (t_or' (or_f (M1 := M2 ++ J4) (t_cmp' (x := .lst []) (y := .lst []) (M1 := M2 ++ J4) (M2 := M2 ++ J4) (e_comp (src := .live 3 items.length) (M1 := M2) (M2 := M2 ++ J4) (i_seq' (d := .ref 3) rfl (by simp only [srcOf, g3])) hcomp rfl) rfl rfl) (or_1 (t_cmp' (x := .str rs) (y := .str rs) (M1 := M2 ++ J4) (M2 := M2 ++ J4) (e_bi (ds := [.ref 3]) rfl (hrs 3 _ g4)) rfl (by show (some (decide (rs = rs))).map (!·) = _; rw [decide_eq_true rfl]; rfl))))) ?_
  refine x_set (d := .lst [.bl true, .bl true, .bl true, .bl true]) (M1 := M2 ++ J4 ++ J5) ?_ ?_
  · exact e_lst (l_cons' (e_callK (x := .str "none") rfl n1) (l_cons' (e_callK (x := .tup [.int 3, .int 3]) rfl n2) (l_cons' (e_callK (x := .tup []) rfl n3) (l_cons' (e_callK (x := .tup [.tup [.str "a", .tup []]]) rfl n4) l_nil')))) (show 4 ≤ sizeLine by decide) rfl
  · exact x_ret (e_cmp (e_bi (ds := [.lst [.bl true, .bl true, .bl true, .bl true]]) rfl (repr4 true true true true _)) (e_bi (ds := [.lst [.bl true, .bl true, .bl true, .bl true]]) rfl (repr4 true true true true _)) (eq4 true true true true _))
end Law
open PySem PySem.W PyProof.Rows
set_option maxHeartbeats 0 in
theorem PySem.Challenge.cw_lateforms_k01_kinds_told_holds : PySem.Challenge.rw_lateforms_k01_kinds_told.Holds := by
  w_on; o_law; k_head; (case hw => w_witness2)
  k_fill
  refine Mi.law_of (l := PySem.Challenge.rw_lateforms_k01_kinds_told) (n := 63) (k := 30) (j := 26) (x := "_law_script") (g := Law.cfg) (T := Law.T) rfl (by decide) rfl ⟨rfl, by decide, by decide⟩ (fun w h Y => PySem.W.kIn_of Y) rfl rfl Law.T_ok ?F ?E
  case F =>
    intro w mg h KX G
    refine' Law.facts KX G ?a0 ?l0 ?c0 ?k0 ?a1 ?l1 ?c1 ?k1 ?a2 ?l2 ?c2 ?k2 ?a3 ?l3 ?c3 ?k3 ?a4 ?l4 ?c4 ?k4 ?a5 ?l5 ?c5 ?k5 ?a6 ?l6 ?c6 ?k6 ?a7 ?l7 ?c7 ?k7 ?a8 ?l8 ?c8 ?k8 ?a9 ?l9 ?c9 ?k9 ?a10 ?l10 ?c10 ?k10 ?a11 ?l11 ?c11 ?k11 ?a12 ?l12 ?c12 ?k12 ?a13 ?l13 ?c13 ?k13 ?a14 ?l14 ?c14 ?k14 ?a15 ?l15 ?c15 ?k15 ?a16 ?l16 ?c16 ?k16 ?a17 ?l17 ?c17 ?k17 ?a18 ?l18 ?c18 ?k18 ?a19 ?l19 ?c19 ?k19 ?a20 ?l20 ?c20 ?k20 ?a21 ?l21 ?c21 ?k21 ?a22 ?l22 ?c22 ?k22 ?a23 ?l23 ?c23 ?k23 ?a24 ?l24 ?c24 ?k24 ?a25 ?l25 ?c25 ?k25 ?a26 ?l26 ?c26 ?k26 ?gq0 ?gq1 ?zq0 ?zq1 ?zq2 ?zq3 ?zq4 ?zq5 ?zq6 ?zq7 ?zq8 ?zq9 ?zq10 ?zq11 ?zq12 ?zq13
    (case a0 => k_is)
    (case l0 => k_is)
    (case c0 => k_is)
    (case k0 => k_is)
    (case a1 => k_is)
    (case l1 => k_is)
    (case c1 => k_is)
    (case k1 => k_is)
    (case a2 => k_is)
    (case l2 => k_is)
    (case c2 => k_is)
    (case k2 => k_is)
    (case a3 => k_is)
    (case l3 => k_is)
    (case c3 => k_is)
    (case k3 => k_is)
    (case a4 => k_is)
    (case l4 => k_is)
    (case c4 => k_is)
    (case k4 => k_is)
    (case a5 => k_is)
    (case l5 => k_is)
    (case c5 => k_is)
    (case k5 => k_is)
    (case a6 => k_is)
    (case l6 => k_is)
    (case c6 => k_is)
    (case k6 => k_is)
    (case a7 => k_is)
    (case l7 => k_is)
    (case c7 => k_is)
    (case k7 => k_is)
    (case a8 => k_is)
    (case l8 => k_is)
    (case c8 => k_is)
    (case k8 => k_is)
    (case a9 => k_is)
    (case l9 => k_is)
    (case c9 => k_is)
    (case k9 => k_is)
    (case a10 => k_is)
    (case l10 => k_is)
    (case c10 => k_is)
    (case k10 => k_is)
    (case a11 => k_is)
    (case l11 => k_is)
    (case c11 => k_is)
    (case k11 => k_is)
    (case a12 => k_is)
    (case l12 => k_is)
    (case c12 => k_is)
    (case k12 => k_is)
    (case a13 => k_is)
    (case l13 => k_is)
    (case c13 => k_is)
    (case k13 => k_is)
    (case a14 => k_is)
    (case l14 => k_is)
    (case c14 => k_is)
    (case k14 => k_is)
    (case a15 => k_is)
    (case l15 => k_is)
    (case c15 => k_is)
    (case k15 => k_is)
    (case a16 => k_is)
    (case l16 => k_is)
    (case c16 => k_is)
    (case k16 => k_is)
    (case a17 => k_is)
    (case l17 => k_is)
    (case c17 => k_is)
    (case k17 => k_is)
    (case a18 => k_is)
    (case l18 => k_is)
    (case c18 => k_is)
    (case k18 => k_is)
    (case a19 => k_is)
    (case l19 => k_is)
    (case c19 => k_is)
    (case k19 => k_is)
    (case a20 => k_is)
    (case l20 => k_is)
    (case c20 => k_is)
    (case k20 => k_is)
    (case a21 => k_is)
    (case l21 => k_is)
    (case c21 => k_is)
    (case k21 => k_is)
    (case a22 => k_is)
    (case l22 => k_is)
    (case c22 => k_is)
    (case k22 => k_is)
    (case a23 => k_is)
    (case l23 => k_is)
    (case c23 => k_is)
    (case k23 => k_is)
    (case a24 => k_is)
    (case l24 => k_is)
    (case c24 => k_is)
    (case k24 => k_is)
    (case a25 => k_is)
    (case l25 => k_is)
    (case c25 => k_is)
    (case k25 => k_is)
    (case a26 => k_is)
    (case l26 => k_is)
    (case c26 => k_is)
    (case k26 => k_is)
    (case gq0 => k_is)
    (case gq1 => k_is)
    (case zq0 => k_is)
    (case zq1 => k_is)
    (case zq2 => k_is)
    (case zq3 => k_is)
    (case zq4 => k_is)
    (case zq5 => k_is)
    (case zq6 => k_is)
    (case zq7 => k_is)
    (case zq8 => k_is)
    (case zq9 => k_is)
    (case zq10 => k_is)
    (case zq11 => k_is)
    (case zq12 => k_is)
    (case zq13 => k_is)
  case E =>
    intro ns _
    exact Law.law_true ns
