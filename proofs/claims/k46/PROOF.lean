import PyProof.Rows.All
import HandS.ForMost
import HandS.Deep
import HandS.IsInst
import HandS.TupAny
import HandS.Wide
import HandS.Flow
import HandS.Conv
import HandS.Style
import HandS.Defaults
import HandS.Head0
import HandS.Head1
import HandS.Head2
import HandS.HeadEnd
import HandS.HeadHook1
import HandS.HeadHook2
import PySem.Challenge.RW_camhouse_k46_stretches
section
set_option Elab.async false
set_option linter.all false
set_option maxRecDepth 100000
set_option maxHeartbeats 4000000
/-! The data layer, part A: data, the store of lists, how they lie in the abstract heap. -/
namespace DL
open PySem PySem.Spec PyProof.Rows L2

/-- a plain value; ref n: the n-th cell of the store -/
inductive D where
  | non | bl (b : Bool) | int (i : Int) | str (x : Str) | tup (xs : List D) | ref (n : Nat)
  /-- a list that is only read -/
  | fz (xs : List D)
/-- a list that may be written -/
inductive Cell where
  | lst (xs : List D)
abbrev Sto := List Cell
abbrev DEnv := List (Option D)

/-- what a write may change -/
def mutO : HO → Bool
  | .lst _ => true
  | .dK _ => true
  | .dT _ => true
  | .set _ _ => true
  | .ext _ => true
  | .ins _ _ _ => true
  | _ => false

/-- a list that stays whatever is written -/
def Frz (K : PySem.W.Frag) (H : Hp) (a : Addr) (vs : List V) : Prop :=
  ∀ H' : Hp, (∀ o, H a = some o → mutO o = false → H' a = some o) → SqL K H' a vs

mutual
inductive Rep (K : PySem.W.Frag) (μ : List Addr) (H : Hp) : V → D → Prop
  | non : Rep K μ H .non .non
  | bl (b : Bool) : Rep K μ H (.bl b) (.bl b)
  | int (i : Int) : Rep K μ H (.int i) (.int i)
  | str (x : Str) : Rep K μ H (.str x) (.str x)
  | tup {a : Addr} {vs : List V} {ds : List D} : SqT K H a vs → Reps K μ H vs ds → Rep K μ H (.ref a) (.tup ds)
  | ref {a : Addr} {n : Nat} : μ[n]? = some a → Rep K μ H (.ref a) (.ref n)
  | fz {a : Addr} {vs : List V} {ds : List D} : Frz K H a vs → Reps K μ H vs ds → Rep K μ H (.ref a) (.fz ds)
inductive Reps (K : PySem.W.Frag) (μ : List Addr) (H : Hp) : List V → List D → Prop
  | nil : Reps K μ H [] []
  | cons {v : V} {vs : List V} {d : D} {ds : List D} : Rep K μ H v d → Reps K μ H vs ds → Reps K μ H (v :: vs) (d :: ds)
end

structure Step (μ : List Addr) (H : Hp) (μ' : List Addr) (H' : Hp) : Prop where
  ext : ∃ s, μ' = μ ++ s ∧ ∀ a ∈ s, H a = none
  keep : ∀ a o, H a = some o → (a ∉ μ ∨ mutO o = false) → H' a = some o
  dom : ∀ a o, H a = some o → ∃ o', H' a = some o'

def CellOk (K : PySem.W.Frag) (μ : List Addr) (H : Hp) (a : Addr) : Cell → Prop
  | .lst ds => ∃ vs, H a = some (.lst vs) ∧ Reps K μ H vs ds

structure RelS (K : PySem.W.Frag) (μ : List Addr) (H : Hp) (st : Sto) : Prop where
  len : μ.length = st.length
  ok : ∀ (n : Nat) (a : Addr) (c : Cell), μ[n]? = some a → st[n]? = some c → CellOk K μ H a c
  inj : ∀ (i j : Nat) (a : Addr) (xs ys : List D), μ[i]? = some a → μ[j]? = some a → st[i]? = some (.lst xs) → st[j]? = some (.lst ys) → i = j

structure RelE (K : PySem.W.Frag) (μ : List Addr) (σ : L2.St) (H : Hp) (ρ : DEnv) : Prop where
  len : σ.length = ρ.length
  at_ : ∀ (i : Nat) (d : D), ρ[i]? = some (some d) → ∃ v, σ[i]? = some (some v) ∧ Rep K μ H v d

section
variable {K : PySem.W.Frag} {μ μ' μ1 : List Addr} {H H' H1 : Hp} {st st' : Sto} {σ : L2.St} {ρ : DEnv}

theorem Reps.length : ∀ {vs : List V} {ds : List D}, Reps K μ H vs ds → vs.length = ds.length
  | _, _, .nil => rfl
  | _, _, .cons _ t => by rw [List.length_cons, List.length_cons, Reps.length t]
theorem Reps.get : ∀ {vs : List V} {ds : List D} {i : Nat} {d : D}, Reps K μ H vs ds → ds[i]? = some d → ∃ v, vs[i]? = some v ∧ Rep K μ H v d
  | _, _, _, _, .nil, e => by simp at e
  | _, _, 0, _, .cons r _, e => by simp at e; subst e; exact ⟨_, rfl, r⟩
  | _, _, i + 1, d, .cons _ t, e => by
    obtain ⟨v, h1, h2⟩ := Reps.get (i := i) (d := d) t (by simpa using e)
    exact ⟨v, by simpa using h1, h2⟩
theorem Reps.getV : ∀ {vs : List V} {ds : List D} {i : Nat} {v : V}, Reps K μ H vs ds → vs[i]? = some v → ∃ d, ds[i]? = some d ∧ Rep K μ H v d
  | _, _, _, _, .nil, e => by simp at e
  | _, _, 0, _, .cons r _, e => by simp at e; subst e; exact ⟨_, rfl, r⟩
  | _, _, i + 1, d, .cons _ t, e => by
    obtain ⟨v, h1, h2⟩ := Reps.getV (i := i) t (by simpa using e)
    exact ⟨v, by simpa using h1, h2⟩
theorem Reps.append : ∀ {xs ys : List V} {us ws : List D}, Reps K μ H xs us → Reps K μ H ys ws → Reps K μ H (xs ++ ys) (us ++ ws)
  | _, _, _, _, .nil, s => s
  | _, _, _, _, .cons r t, s => .cons r (Reps.append t s)
theorem Reps.take : ∀ {xs : List V} {us : List D} (n : Nat), Reps K μ H xs us → Reps K μ H (xs.take n) (us.take n)
  | _, _, 0, _ => .nil
  | _, _, _ + 1, .nil => .nil
  | _, _, n + 1, .cons r t => .cons r (Reps.take n t)
theorem Reps.drop : ∀ {xs : List V} {us : List D} (n : Nat), Reps K μ H xs us → Reps K μ H (xs.drop n) (us.drop n)
  | _, _, 0, r => r
  | _, _, _ + 1, .nil => .nil
  | _, _, n + 1, .cons _ t => Reps.drop n t
theorem Reps.set {v : V} {d : D} (r : Rep K μ H v d) : ∀ {xs : List V} {us : List D} (i : Nat), Reps K μ H xs us → Reps K μ H (xs.set i v) (us.set i d)
  | _, _, _, .nil => .nil
  | _, _, 0, .cons _ t => .cons r t
  | _, _, i + 1, .cons q t => .cons q (Reps.set r i t)
theorem Reps.erase : ∀ {xs : List V} {us : List D} (i : Nat), Reps K μ H xs us → Reps K μ H (xs.eraseIdx i) (us.eraseIdx i)
  | _, _, _, .nil => .nil
  | _, _, 0, .cons _ t => t
  | _, _, i + 1, .cons q t => .cons q (Reps.erase i t)
theorem Reps.dropLast {xs : List V} {us : List D} (r : Reps K μ H xs us) : Reps K μ H xs.dropLast us.dropLast := by
  rw [List.dropLast_eq_take, List.dropLast_eq_take, r.length]
  exact r.take _
theorem Reps.repl {xs : List V} {us : List D} (r : Reps K μ H xs us) : ∀ n : Nat, Reps K μ H (List.replicate n xs).flatten (List.replicate n us).flatten
  | 0 => .nil
  | n + 1 => by
    rw [List.replicate_succ, List.replicate_succ, List.flatten_cons, List.flatten_cons]
    exact r.append (Reps.repl r n)
theorem Reps.reverse : ∀ {xs : List V} {us : List D}, Reps K μ H xs us → Reps K μ H xs.reverse us.reverse
  | _, _, .nil => .nil
  | _, _, .cons r t => by
    rw [List.reverse_cons, List.reverse_cons]
    exact (Reps.reverse t).append (.cons r .nil)

theorem Step.refl : Step μ H μ H := ⟨⟨[], by simp, by simp⟩, fun _ _ h _ => h, fun _ o h => ⟨o, h⟩⟩
theorem Step.at (s : Step μ H μ' H') {n : Nat} {a : Addr} (h : μ[n]? = some a) : μ'[n]? = some a := by
  obtain ⟨x, rfl, _⟩ := s.ext
  have : n < μ.length := (List.getElem?_eq_some_iff.mp h).1
  rw [List.getElem?_append_left this]
  exact h
theorem Step.trans (a : Step μ H μ1 H1) (b : Step μ1 H1 μ' H') : Step μ H μ' H' := by
  obtain ⟨s, rfl, hs⟩ := a.ext
  obtain ⟨t, rfl, ht⟩ := b.ext
  refine ⟨⟨s ++ t, by rw [List.append_assoc], fun x hx => ?_⟩, fun x o e h => ?_, fun x o e => ?_⟩
  · rcases List.mem_append.mp hx with hx | hx
    · exact hs x hx
    · cases q : H x with
      | none => rfl
      | some o =>
        obtain ⟨o', e'⟩ := a.dom x o q
        rw [ht x hx] at e'
        cases e'
  · have e1 := a.keep x o e h
    refine b.keep x o e1 ?_
    rcases h with h | h
    · refine .inl fun z => ?_
      rcases List.mem_append.mp z with z | z
      · exact h z
      · rw [hs x z] at e
        cases e
    · exact .inr h
  · obtain ⟨o1, e1⟩ := a.dom x o e
    exact b.dom x o1 e1
theorem Step.tup (s : Step μ H μ' H') {a : Addr} {vs : List V} (h : SqT K H a vs) : SqT K H' a vs := by
  rcases h with (h | ⟨o, h⟩) | h
  · exact .inl (.inl (s.keep _ _ h (.inr rfl)))
  · exact .inl (.inr ⟨o, s.keep _ _ h (.inr rfl)⟩)
  · exact .inr h
theorem Step.frz (s : Step μ H μ' H') {a : Addr} {vs : List V} (h : Frz K H a vs) : Frz K H' a vs := fun H2 k =>
  h H2 fun o e m => k o (s.keep a o e (.inr m)) m
mutual
theorem Step.rep (s : Step μ H μ' H') : ∀ (d : D) (v : V), Rep K μ H v d → Rep K μ' H' v d
  | .non, _, h => by cases h; exact .non
  | .bl _, _, h => by cases h; exact .bl _
  | .int _, _, h => by cases h; exact .int _
  | .str _, _, h => by cases h; exact .str _
  | .tup ds, _, h => by
    cases h with
    | tup h1 h2 => exact .tup (s.tup h1) (Step.reps s ds _ h2)
  | .ref n, _, h => by
    cases h with
    | ref h1 => exact .ref (s.at h1)
  | .fz ds, _, h => by
    cases h with
    | fz h1 h2 => exact .fz (s.frz h1) (Step.reps s ds _ h2)
theorem Step.reps (s : Step μ H μ' H') : ∀ (ds : List D) (vs : List V), Reps K μ H vs ds → Reps K μ' H' vs ds
  | [], _, h => by cases h; exact .nil
  | d :: ds, _, h => by
    cases h with
    | cons h1 h2 => exact .cons (Step.rep s d _ h1) (Step.reps s ds _ h2)
end
theorem Frz.sq {a : Addr} {vs : List V} (h : Frz K H a vs) : SqL K H a vs := h H fun _ e _ => e
theorem RelE.step (r : RelE K μ σ H ρ) (s : Step μ H μ' H') : RelE K μ' σ H' ρ := ⟨r.len, fun i d e => by
  obtain ⟨v, e1, h⟩ := r.at_ i d e
  exact ⟨v, e1, s.rep _ _ h⟩⟩
theorem RelE.set (r : RelE K μ σ H ρ) (i : Nat) {v : V} {d : D} (h : Rep K μ H v d) : RelE K μ (σ.set i (some v)) H (ρ.set i (some d)) := ⟨by rw [List.length_set, List.length_set, r.len], fun j e q => by
  by_cases hj : i = j
  · subst hj
    by_cases hi : i < ρ.length
    · rw [List.getElem?_set_self hi] at q
      cases q
      exact ⟨v, by rw [List.getElem?_set_self (by rw [r.len]; exact hi)], h⟩
    · rw [List.getElem?_eq_none (by rw [List.length_set]; omega)] at q
      cases q
  · rw [List.getElem?_set_ne hj] at q
    rw [List.getElem?_set_ne hj]
    exact r.at_ j e q⟩
theorem RelE.weak {ρ' : DEnv} (r : RelE K μ σ H ρ) (hl : ρ'.length = ρ.length) (h : ∀ (i : Nat) (d : D), ρ'[i]? = some (some d) → ρ[i]? = some (some d)) : RelE K μ σ H ρ' :=
  ⟨r.len.trans hl.symm, fun i d e => r.at_ i d (h i d e)⟩

/-! ### cells -/
theorem RelS.mem (r : RelS K μ H st) {a : Addr} (h : a ∈ μ) : ∃ (n : Nat) (c : Cell), μ[n]? = some a ∧ st[n]? = some c ∧ CellOk K μ H a c := by
  obtain ⟨n, hn, e⟩ := List.mem_iff_getElem.mp h
  have hn' : n < st.length := by rw [← r.len]; exact hn
  have e1 : μ[n]? = some a := by rw [List.getElem?_eq_getElem hn, e]
  have e2 : st[n]? = some st[n] := List.getElem?_eq_getElem hn'
  exact ⟨n, _, e1, e2, r.ok _ _ _ e1 e2⟩
theorem RelS.addr (r : RelS K μ H st) {n : Nat} {c : Cell} (h : st[n]? = some c) : ∃ a, μ[n]? = some a ∧ CellOk K μ H a c := by
  have hn : n < μ.length := by rw [r.len]; exact (List.getElem?_eq_some_iff.mp h).1
  exact ⟨μ[n], List.getElem?_eq_getElem hn, r.ok _ _ _ (List.getElem?_eq_getElem hn) h⟩
theorem CellOk.step {a : Addr} {c : Cell} (h : CellOk K μ H a c) (s : Step μ H μ' H') (k : ∀ o, H a = some o → H' a = some o) : CellOk K μ' H' a c := by
  cases c with
  | lst ds =>
    obtain ⟨vs, e, r⟩ := h
    exact ⟨vs, k _ e, s.reps _ _ r⟩
theorem CellOk.some {a : Addr} {c : Cell} (h : CellOk K μ H a c) : ∃ o, H a = some o := by
  cases c with
  | lst ds => obtain ⟨vs, e, r⟩ := h; exact ⟨_, e⟩
theorem RelS.out (r : RelS K μ H st) {p : Addr} (hp : H p = none) : p ∉ μ := fun h => by
  obtain ⟨n, c, _, _, ok⟩ := r.mem h
  obtain ⟨o, e⟩ := ok.some
  rw [hp] at e
  cases e
theorem step_new {p : Addr} {o : HO} (hp : H p = none) : Step μ H μ (upd H p o) :=
  ⟨⟨[], by simp, by simp⟩, fun a u e _ => by rw [upd_ne (ne_of_none e hp)]; exact e, fun a u e => ⟨u, by rw [upd_ne (ne_of_none e hp)]; exact e⟩⟩
/-- a new thing that is no cell -/
theorem RelS.new (r : RelS K μ H st) {p : Addr} {o : HO} (hp : H p = none) : RelS K μ (upd H p o) st :=
  ⟨r.len, fun n a c e1 e2 => (r.ok n a c e1 e2).step (step_new hp) fun u e => by rw [upd_ne (ne_of_none e hp)]; exact e, r.inj⟩
theorem step_alloc {p : Addr} {o : HO} (hp : H p = none) : Step μ H (μ ++ [p]) (upd H p o) :=
  ⟨⟨[p], rfl, fun a h => by rw [List.mem_singleton.mp h]; exact hp⟩, fun a u e _ => by rw [upd_ne (ne_of_none e hp)]; exact e, fun a u e => ⟨u, by rw [upd_ne (ne_of_none e hp)]; exact e⟩⟩
/-- a new list -/
theorem RelS.alloc (r : RelS K μ H st) {p : Addr} {vs : List V} {ds : List D} (hp : H p = none) (h : Reps K μ H vs ds) : RelS K (μ ++ [p]) (upd H p (.lst vs)) (st ++ [.lst ds]) := by
  have sp : Step μ H (μ ++ [p]) (upd H p (.lst vs)) := step_alloc hp
  have old : ∀ {n : Nat} {a : Addr} {c : Cell}, (μ ++ [p])[n]? = some a → (st ++ [Cell.lst ds])[n]? = some c → (μ[n]? = some a ∧ st[n]? = some c) ∨ (n = μ.length ∧ a = p ∧ c = .lst ds) := fun {n a c} e1 e2 => by
    by_cases hn : n < μ.length
    · rw [List.getElem?_append_left hn] at e1
      rw [List.getElem?_append_left (by rw [← r.len]; exact hn)] at e2
      exact .inl ⟨e1, e2⟩
    · have hl : n < (μ ++ [p]).length := (List.getElem?_eq_some_iff.mp e1).1
      rw [List.length_append, List.length_singleton] at hl
      have hn' : n = μ.length := by omega
      subst hn'
      rw [List.getElem?_concat_length] at e1
      rw [r.len, List.getElem?_concat_length] at e2
      cases e1
      cases e2
      exact .inr ⟨rfl, rfl, rfl⟩
  have nop : ∀ {n : Nat} {xs : List D}, μ[n]? = some p → st[n]? = some (.lst xs) → False := fun {n xs} e1 e2 => by
    obtain ⟨ws, q, _⟩ := r.ok n p _ e1 e2
    rw [hp] at q
    cases q
  refine ⟨by rw [List.length_append, List.length_append, r.len] <;> rfl, fun n a c e1 e2 => ?_, fun i j a xs ys e1 e2 e3 e4 => ?_⟩
  · rcases old e1 e2 with ⟨e1, e2⟩ | ⟨_, rfl, rfl⟩
    · exact (r.ok n a c e1 e2).step sp fun u e => by rw [upd_ne (ne_of_none e hp)]; exact e
    · exact ⟨vs, upd_same, sp.reps _ _ h⟩
  · rcases old e1 e3 with ⟨a1, a2⟩ | ⟨a1, a2, a3⟩
    · rcases old e2 e4 with ⟨b1, b2⟩ | ⟨b1, b2, b3⟩
      · exact r.inj i j a xs ys a1 b1 a2 b2
      · subst b2
        exact (nop a1 a2).elim
    · rcases old e2 e4 with ⟨b1, b2⟩ | ⟨b1, b2, b3⟩
      · subst a2
        exact (nop b1 b2).elim
      · omega
theorem step_write {n : Nat} {a : Addr} {o : HO} {ws : List V} (h : μ[n]? = some a) (e : H a = some (.lst ws)) : Step μ H μ (upd H a o) :=
  ⟨⟨[], by simp, by simp⟩, fun b u q k => by
    have hb : b ≠ a := by
      rintro rfl
      rcases k with k | k
      · exact k (List.mem_of_getElem? h)
      · rw [e] at q
        cases q
        cases k
    rw [upd_ne hb]
    exact q, fun b u q => by
    by_cases hb : b = a
    · exact ⟨o, by rw [hb, upd_same]⟩
    · exact ⟨u, by rw [upd_ne hb]; exact q⟩⟩
/-- a list written -/
theorem RelS.write (r : RelS K μ H st) {n : Nat} {a : Addr} {xs ds : List D} {vs : List V} (e1 : μ[n]? = some a) (e2 : st[n]? = some (.lst xs)) (h : Reps K μ H vs ds) :
    RelS K μ (upd H a (.lst vs)) (st.set n (.lst ds)) := by
  obtain ⟨ws, q, _⟩ := r.ok n a _ e1 e2
  have sp : Step μ H μ (upd H a (.lst vs)) := step_write e1 q
  have hn : n < st.length := (List.getElem?_eq_some_iff.mp e2).1
  refine ⟨by rw [List.length_set]; exact r.len, fun m b c f1 f2 => ?_, fun i j b ys zs f1 f2 f3 f4 => ?_⟩
  · by_cases hm : n = m
    · subst hm
      rw [List.getElem?_set_self hn] at f2
      cases f2
      rw [e1] at f1
      cases f1
      exact ⟨vs, upd_same, sp.reps _ _ h⟩
    · rw [List.getElem?_set_ne hm] at f2
      cases c with
      | lst ys =>
        refine (r.ok m b _ f1 f2).step sp fun o e => ?_
        have hb : b ≠ a := by
          rintro rfl
          exact hm (r.inj n m b xs ys e1 f1 e2 f2)
        rw [upd_ne hb]
        exact e
  · have old : ∀ {i : Nat} {ys : List D}, (st.set n (Cell.lst ds))[i]? = some (.lst ys) → ∃ zs, st[i]? = some (.lst zs) := fun {i ys} f => by
      by_cases hi : n = i
      · subst hi
        exact ⟨xs, e2⟩
      · rw [List.getElem?_set_ne hi] at f
        exact ⟨ys, f⟩
    obtain ⟨ys', g1⟩ := old f3
    obtain ⟨zs', g2⟩ := old f4
    exact r.inj i j b ys' zs' f1 f2 g1 g2
end
end DL
end

section
set_option Elab.async false
set_option linter.all false
set_option maxRecDepth 100000
set_option maxHeartbeats 4000000
/-! The data layer, part B: judgements, expressions. -/
namespace DL
open PySem PySem.Spec PyProof.Rows L2

abbrev DF := DEnv → Sto → Option (D × Sto)
abbrev DFb := DEnv → Sto → Option (Bool × Sto)
abbrev DFs := DEnv → Sto → Option (List D × Sto)
def Post (K : PySem.W.Frag) (μ : List Addr) (H : Hp) (st' : Sto) (d : D) (Q : VK) : Prop :=
  ∀ (v : V) (H' : Hp) (μ' : List Addr), RelS K μ' H' st' → Step μ H μ' H' → Rep K μ' H' v d → Q v H'
def tD (K : PySem.W.Frag) (f : DF) : TE := fun σ H Q => ∃ (ρ : DEnv) (st : Sto) (μ : List Addr), RelS K μ H st ∧ RelE K μ σ H ρ ∧ ∃ (d : D) (st' : Sto), f ρ st = some (d, st') ∧ Post K μ H st' d Q
def tDb (K : PySem.W.Frag) (f : DFb) : TT := fun σ H Q => ∃ (ρ : DEnv) (st : Sto) (μ : List Addr), RelS K μ H st ∧ RelE K μ σ H ρ ∧ ∃ (b : Bool) (st' : Sto), f ρ st = some (b, st') ∧
  ∀ (H' : Hp) (μ' : List Addr), RelS K μ' H' st' → Step μ H μ' H' → Q b H'
def tDs (K : PySem.W.Frag) (f : DFs) : TA := fun σ H Q => ∃ (ρ : DEnv) (st : Sto) (μ : List Addr), RelS K μ H st ∧ RelE K μ σ H ρ ∧ ∃ (ds : List D) (st' : Sto), f ρ st = some (ds, st') ∧
  ∀ (vs : List V) (H' : Hp) (μ' : List Addr), RelS K μ' H' st' → Step μ H μ' H' → Reps K μ' H' vs ds → Q vs H'
abbrev DE (X : Cx) (e : Expr) (f : DF) : Prop := PE X e (tD X.K f)
abbrev DT (X : Cx) (e : Expr) (f : DFb) : Prop := PT X e (tDb X.K f)
abbrev DW (X : Cx) (e : Expr) (f : DFb) : Prop := PW X e (tDb X.K f)
abbrev DAs (X : Cx) (es : List Expr) (f : DFs) : Prop := PA X es (tDs X.K f)

theorem imp {X : Cx} {e : Expr} {t t' : TE} (h : PE X e t) (k : ∀ σ H Q, t' σ H Q → t σ H Q) : PE X e t' := ⟨fun pins s σ H Q I q => h.run pins s σ H Q I (k σ H Q q)⟩
theorem impT {X : Cx} {e : Expr} {t t' : TT} (h : PT X e t) (k : ∀ σ H Q, t' σ H Q → t σ H Q) : PT X e t' := ⟨fun pins s σ H Q I q => h.run pins s σ H Q I (k σ H Q q)⟩
theorem impW {X : Cx} {e : Expr} {t t' : TT} (h : PW X e t) (k : ∀ σ H Q, t' σ H Q → t σ H Q) : PW X e t' := ⟨fun wh pins s σ H Q I q => h.run wh pins s σ H Q I (k σ H Q q)⟩
theorem impA {X : Cx} {es : List Expr} {t t' : TA} (h : PA X es t) (k : ∀ σ H Q, t' σ H Q → t σ H Q) : PA X es t' := ⟨fun pos pins s σ H Q I q => h.run pos pins s σ H Q I (k σ H Q q)⟩

/-! ### names, constants -/
def dVar (i : Nat) : DF := fun ρ st => match ρ[i]? with
  | some (some d) => some (d, st)
  | _ => none
def dC (d : D) : DF := fun _ st => some (d, st)
section
variable {X : Cx} {K : PySem.W.Frag}
theorem dVar_le {i : Nat} {σ : L2.St} {H : Hp} {Q : VK} (h : tD K (dVar i) σ H Q) : tVar i σ H Q := by
  obtain ⟨ρ, st, μ, rs, re, d, st', e, q⟩ := h
  unfold dVar at e
  split at e
  · rename_i d' e1
    cases e
    obtain ⟨v, e2, r⟩ := re.at_ i _ e1
    exact ⟨v, e2, q v H μ rs .refl r⟩
  · cases e
theorem d_var (i : Nat) {x : Str} {pos : Pos} (hN : X.N[i]? = some x) (hv : Vis X.env.scope x) (hd : (x == ("__debug__" : Str)) = false := by decide) (hcd : (x == ("__classdict__" : Str)) = false := by decide) : DE X (.Name x pos) (dVar i) :=
  imp (pe_var hN hv hd hcd) fun _ _ _ => dVar_le
theorem dC_le {d : D} {v : V} (h : ∀ μ H, Rep K μ H v d) {σ : L2.St} {H : Hp} {Q : VK} (q : tD K (dC d) σ H Q) : tC v σ H Q := by
  obtain ⟨ρ, st, μ, rs, re, d, st', e, q⟩ := q
  cases e
  exact q v H μ rs .refl (h μ H)
theorem d_int {i : Int} {j : Nat} {pos : Pos} : DE X (.Constant (.int i) j pos) (dC (.int i)) := imp pe_int fun _ _ _ => dC_le fun _ _ => .int i
theorem d_bl {b : Bool} {j : Nat} {pos : Pos} : DE X (.Constant (.bool b) j pos) (dC (.bl b)) := imp pe_bl fun _ _ _ => dC_le fun _ _ => .bl b
theorem d_non {j : Nat} {pos : Pos} : DE X (.Constant .none j pos) (dC .non) := imp pe_non fun _ _ _ => dC_le fun _ _ => .non
theorem d_str {x : Str} {j : Nat} {pos : Pos} : DE X (.Constant (.str x) j pos) (dC (.str x)) := imp pe_str fun _ _ _ => dC_le fun _ _ => .str x
/-- a module's constant -/
theorem d_glob {x : Str} {v : V} {d : D} {u : Value} {pos : Pos} (hg : Gl X x) (hm : X.mg x = some u) (r : RelV v u) (h : ∀ μ H, Rep X.K μ H v d) (hd : (x == ("__debug__" : Str)) = false := by decide) : DE X (.Name x pos) (dC d) :=
  imp (pe_glob hg hm r hd) fun _ _ _ => dC_le h
end

/-! ### two places -/
def dBin (o : D → D → Sto → Option (D × Sto)) (fa fb : DF) : DF := fun ρ st => (fa ρ st).bind fun p => (fb ρ p.2).bind fun q => o p.1 q.1 q.2
def dUn (o : D → Sto → Option (D × Sto)) (fa : DF) : DF := fun ρ st => (fa ρ st).bind fun p => o p.1 p.2
def OpD (K : PySem.W.Frag) (r : R2) (o : D → D → Sto → Option (D × Sto)) : Prop :=
  ∀ (μ : List Addr) (H : Hp) (st st' : Sto) (x y : V) (a b d : D) (Q : VK), RelS K μ H st → Rep K μ H x a → Rep K μ H y b → o a b st = some (d, st') → Post K μ H st' d Q → r x y H Q
def UnD (K : PySem.W.Frag) (r : V → Hp → VK → Prop) (o : D → Sto → Option (D × Sto)) : Prop :=
  ∀ (μ : List Addr) (H : Hp) (st st' : Sto) (x : V) (a d : D) (Q : VK), RelS K μ H st → Rep K μ H x a → o a st = some (d, st') → Post K μ H st' d Q → r x H Q
theorem Post.after {K : PySem.W.Frag} {μ μ1 : List Addr} {H H1 : Hp} {st' : Sto} {d : D} {Q : VK} (q : Post K μ H st' d Q) (s : Step μ H μ1 H1) : Post K μ1 H1 st' d Q :=
  fun v H' μ' rs s' r => q v H' μ' rs (s.trans s') r
section
variable {X : Cx} {K : PySem.W.Frag} {a b : Expr} {fa fb : DF} {pos : Pos} {σ : L2.St} {H : Hp} {Q : VK} {r : R2} {o : D → D → Sto → Option (D × Sto)}
theorem dBin_le (hd : OpD K r o) (h : tD K (dBin o fa fb) σ H Q) : tD K fa σ H fun x H1 => tD K fb σ H1 fun y H2 => r x y H2 Q := by
  obtain ⟨ρ, st, μ, rs, re, d, st', e, q⟩ := h
  unfold dBin at e
  obtain ⟨p, e1, e2⟩ := Option.bind_eq_some_iff.mp e
  obtain ⟨p2, e3, e4⟩ := Option.bind_eq_some_iff.mp e2
  exact ⟨ρ, st, μ, rs, re, p.1, p.2, e1, fun x H1 μ1 rs1 s1 r1 => ⟨ρ, p.2, μ1, rs1, re.step s1, p2.1, p2.2, e3, fun y H2 μ2 rs2 s2 r2 =>
    hd μ2 H2 p2.2 st' x y p.1 p2.1 d Q rs2 (s2.rep _ _ r1) r2 e4 (q.after (s1.trans s2))⟩⟩
theorem d_bin {op : Operator} (ho : OpR X (binaryOp op) r) (hd : OpD X.K r o) (ha : DE X a fa) (hb : DE X b fb) : DE X (.BinOp a op b pos) (dBin o fa fb) :=
  imp (pe_op ho ha hb) fun _ _ _ h => dBin_le hd h
theorem d_cmp {op : CmpOp} (ho : OpR X (compareOp op) r) (hd : OpD X.K r o) (ha : DE X a fa) (hb : DE X b fb) (hm : behindInMarks op b = false) : DE X (.Compare a [op] [b] pos) (dBin o fa fb) :=
  imp (pe_cmpR ho ha hb hm) fun _ _ _ h => dBin_le hd h
theorem dUn_le {r : V → Hp → VK → Prop} {o : D → Sto → Option (D × Sto)} (hd : UnD K r o) (h : tD K (dUn o fa) σ H Q) : tUn r (tD K fa) σ H Q := by
  obtain ⟨ρ, st, μ, rs, re, d, st', e, q⟩ := h
  unfold dUn at e
  obtain ⟨p, e1, e2⟩ := Option.bind_eq_some_iff.mp e
  exact ⟨ρ, st, μ, rs, re, p.1, p.2, e1, fun x H1 μ1 rs1 s1 r1 => hd μ1 H1 p.2 st' x p.1 d Q rs1 r1 e2 (q.after s1)⟩
theorem d_un {op : UnaryOp} {r : V → Hp → VK → Prop} {o : D → Sto → Option (D × Sto)} (ho : UnR X (unaryOp op) r) (hd : UnD X.K r o) (ha : DE X a fa) : DE X (.UnaryOp op a pos) (dUn o fa) :=
  imp (pe_un ho ha) fun _ _ _ h => dUn_le hd h
theorem d_ix (hr : IxR X r) (hd : OpD X.K r o) (ha : DE X a fa) (hb : DE X b fb) (hs : PlainIx b) : DE X (.Subscript a b pos) (dBin o fa fb) :=
  imp (pe_ix hr ha hb hs) fun _ _ _ h => dBin_le hd h
end

/-! ### tests -/
/-- a value that is a bool -/
def dB (f : DF) : DFb := fun ρ st => (f ρ st).bind fun p => match p.1 with
  | .bl b => some (b, p.2)
  | _ => none
def truD (st : Sto) : D → Option Bool
  | .non => some false
  | .bl b => some b
  | .int i => some (i != 0)
  | .str x => if x.length ≤ 16777216 then some ((x.length : Int) != 0) else none
  | .tup xs => some (!xs.isEmpty)
  | .ref n => match st[n]? with
    | some (.lst xs) => some (!xs.isEmpty)
    | none => none
  | .fz xs => some (!xs.isEmpty)
/-- a value by its truth -/
def dTr (f : DF) : DFb := fun ρ st => (f ρ st).bind fun p => (truD p.2 p.1).map fun b => (b, p.2)
def dNotT (f : DFb) : DFb := fun ρ st => (f ρ st).map fun p => (!p.1, p.2)
def dAndT (f g : DFb) : DFb := fun ρ st => (f ρ st).bind fun p => if p.1 = true then g ρ p.2 else some (false, p.2)
def dOrT (f g : DFb) : DFb := fun ρ st => (f ρ st).bind fun p => if p.1 = true then some (true, p.2) else g ρ p.2
/-- a test's answer as a value -/
def dV (f : DFb) : DF := fun ρ st => (f ρ st).map fun p => (.bl p.1, p.2)
/-- x and y, x or y as values -/
def dAnd (f g : DF) : DF := fun ρ st => (f ρ st).bind fun p => (truD p.2 p.1).bind fun b => if b = true then g ρ p.2 else some p
def dOr (f g : DF) : DF := fun ρ st => (f ρ st).bind fun p => (truD p.2 p.1).bind fun b => if b = true then some p else g ρ p.2
def dNot (f : DF) : DF := fun ρ st => (f ρ st).bind fun p => (truD p.2 p.1).map fun b => (.bl (!b), p.2)
def dIfE (c : DFb) (f g : DF) : DF := fun ρ st => (c ρ st).bind fun p => if p.1 = true then f ρ p.2 else g ρ p.2
theorem isEmpty_reps {K : PySem.W.Frag} {μ : List Addr} {H : Hp} {vs : List V} {ds : List D} (r : Reps K μ H vs ds) : vs.isEmpty = ds.isEmpty := by
  cases r <;> rfl
theorem RelS.cell {K : PySem.W.Frag} {μ : List Addr} {H : Hp} {st : Sto} (rs : RelS K μ H st) {n : Nat} {c : Cell} {x : V} (r : Rep K μ H x (.ref n)) (e : st[n]? = some c) : ∃ a, x = .ref a ∧ μ[n]? = some a ∧ CellOk K μ H a c := by
  cases r with
  | @ref a n h => exact ⟨a, rfl, h, rs.ok n a c h e⟩
theorem CellOk.sq {K : PySem.W.Frag} {μ : List Addr} {H : Hp} {a : Addr} {c : Cell} (h : CellOk K μ H a c) : ∃ vs, SqL K H a vs ∧ Reps K μ H vs (match c with | .lst ds => ds) := by
  cases c with
  | lst ds => obtain ⟨vs, e, r⟩ := h; exact ⟨vs, SqL.of e, r⟩
theorem line_eq : sizeLine = 16777216 := sizeLine_eq
theorem tru_ok2 {K : PySem.W.Frag} {μ : List Addr} {H : Hp} {st : Sto} (rs : RelS K μ H st) {x : V} {d : D} {b : Bool} (r : Rep K μ H x d) (e : truD st d = some b) : TruV K x H b := by
  cases r with
  | non => cases e; rfl
  | bl c => cases e; rfl
  | int i => cases e; rfl
  | str z =>
    have e' : (if z.length ≤ 16777216 then some ((z.length : Int) != 0) else none) = some b := e
    split at e'
    · rename_i hz
      cases e'
      exact ⟨by rw [line_eq]; exact hz, rfl⟩
    · cases e'
  | tup h1 h2 =>
    cases e
    exact .inr (.inl ⟨_, h1, by rw [isEmpty_reps h2]⟩)
  | @ref a n h =>
    have e' : (match st[n]? with
      | some (.lst xs) => some (!xs.isEmpty)
      | none => none) = some b := e
    cases q : st[n]? with
    | none => rw [q] at e'; cases e'
    | some c =>
      rw [q] at e'
      obtain ⟨vs, h1, h2⟩ := (rs.ok n a c h q).sq
      cases c with
      | lst xs => cases e'; exact .inl ⟨vs, h1, by rw [isEmpty_reps h2]⟩
  | fz h1 h2 =>
    cases e
    exact .inl ⟨_, h1.sq, by rw [isEmpty_reps h2]⟩
section
variable {X : Cx} {K : PySem.W.Frag} {a b : Expr} {fa fb : DF} {ga gb : DFb} {pos : Pos} {σ : L2.St} {H : Hp} {Q : VK} {rest : List Expr}
theorem dTr_le {Q : Bool → Hp → Prop} (h : tDb K (dTr fa) σ H Q) : tD K fa σ H fun x H' => ∃ k, TruV K x H' k ∧ Q k H' := by
  obtain ⟨ρ, st, μ, rs, re, d, st', e, q⟩ := h
  unfold dTr at e
  obtain ⟨p, e1, e2⟩ := Option.bind_eq_some_iff.mp e
  obtain ⟨c, e3, e4⟩ := Option.map_eq_some_iff.mp e2
  cases e4
  exact ⟨ρ, st, μ, rs, re, p.1, p.2, e1, fun x H1 μ1 rs1 s1 r1 => ⟨_, tru_ok2 rs1 r1 e3, q H1 μ1 rs1 s1⟩⟩
/-- an expression's truth: a name, a call, a subscript -/
theorem dt_tr (ha : DE X a fa) (he : ∀ whole, isTrue a X.env whole = (do let v ← whole; standAt a.pos; holding [v] (truthy v))) : DT X a (dTr fa) :=
  impT (pt_truth ha he) fun _ _ _ h => dTr_le h
theorem dB_le {Q : Bool → Hp → Prop} (h : tDb K (dB fa) σ H Q) : tD K fa σ H fun x H' => ∃ k, x = .bl k ∧ Q k H' := by
  obtain ⟨ρ, st, μ, rs, re, c, st', e, q⟩ := h
  unfold dB at e
  obtain ⟨p, e1, e2⟩ := Option.bind_eq_some_iff.mp e
  refine ⟨ρ, st, μ, rs, re, p.1, p.2, e1, fun x H1 μ1 rs1 s1 r1 => ?_⟩
  obtain ⟨d, st1⟩ := p
  cases d with
  | bl k => cases r1; cases e2; exact ⟨_, rfl, q H1 μ1 rs1 s1⟩
  | _ => cases e2
theorem dt_cmp {op : CmpOp} {r : R2} {o : D → D → Sto → Option (D × Sto)} (ho : OpR X (compareOp op) r) (hd : OpD X.K r o) (ha : DE X a fa) (hb : DE X b fb) (hm : behindInMarks op b = false) : DT X (.Compare a [op] [b] pos) (dB (dBin o fa fb)) :=
  impT (pt_cmpR ho ha hb hm) fun _ _ _ h => dBin_le hd (dB_le h)
theorem dt_not (ha : DT X a ga) : DT X (.UnaryOp .Not a pos) (dNotT ga) := impT (pt_not ha) fun σ H Q h => by
  obtain ⟨ρ, st, μ, rs, re, c, st', e, q⟩ := h
  obtain ⟨p, e1, e2⟩ := Option.map_eq_some_iff.mp e
  cases e2
  exact ⟨ρ, st, μ, rs, re, p.1, p.2, e1, q⟩
theorem dw_and1 (ha : DT X a ga) : DW X (.BoolOp .And [a] pos) ga := pw_and1 ha
theorem dw_or1 (ha : DT X a ga) : DW X (.BoolOp .Or [a] pos) ga := pw_or1 ha
theorem dw_and (ha : DT X a ga) (hb : DW X (.BoolOp .And (b :: rest) pos) gb) : DW X (.BoolOp .And (a :: b :: rest) pos) (dAndT ga gb) := impW (pw_and ha hb) fun σ H Q h => by
  obtain ⟨ρ, st, μ, rs, re, c, st', e, q⟩ := h
  obtain ⟨p, e1, e2⟩ := Option.bind_eq_some_iff.mp e
  refine ⟨ρ, st, μ, rs, re, p.1, p.2, e1, fun H1 μ1 rs1 s1 => ?_⟩
  obtain ⟨k, st1⟩ := p
  cases k with
  | true => exact iteT ⟨ρ, st1, μ1, rs1, re.step s1, c, st', e2, fun H2 μ2 rs2 s2 => q H2 μ2 rs2 (s1.trans s2)⟩
  | false => cases e2; exact iteF (q H1 μ1 rs1 s1)
theorem dw_or (ha : DT X a ga) (hb : DW X (.BoolOp .Or (b :: rest) pos) gb) : DW X (.BoolOp .Or (a :: b :: rest) pos) (dOrT ga gb) := impW (pw_or ha hb) fun σ H Q h => by
  obtain ⟨ρ, st, μ, rs, re, c, st', e, q⟩ := h
  obtain ⟨p, e1, e2⟩ := Option.bind_eq_some_iff.mp e
  refine ⟨ρ, st, μ, rs, re, p.1, p.2, e1, fun H1 μ1 rs1 s1 => ?_⟩
  obtain ⟨k, st1⟩ := p
  cases k with
  | false => exact iteF ⟨ρ, st1, μ1, rs1, re.step s1, c, st', e2, fun H2 μ2 rs2 s2 => q H2 μ2 rs2 (s1.trans s2)⟩
  | true => cases e2; exact iteT (q H1 μ1 rs1 s1)
theorem d_one {op : BoolOp} (h : DE X a fa) : DE X (.BoolOp op [a] pos) fa := pe_one h
theorem d_and (ha : DE X a fa) (hb : DE X (.BoolOp .And (b :: rest) pos) fb) : DE X (.BoolOp .And (a :: b :: rest) pos) (dAnd fa fb) := imp (pe_andT ha hb) fun σ H Q h => by
  obtain ⟨ρ, st, μ, rs, re, d, st', e, q⟩ := h
  obtain ⟨p, e1, e2⟩ := Option.bind_eq_some_iff.mp e
  obtain ⟨c, e3, e4⟩ := Option.bind_eq_some_iff.mp e2
  refine ⟨ρ, st, μ, rs, re, p.1, p.2, e1, fun x H1 μ1 rs1 s1 r1 => ⟨c, tru_ok2 rs1 r1 e3, ?_⟩⟩
  cases c with
  | true => exact iteT ⟨ρ, p.2, μ1, rs1, re.step s1, d, st', e4, q.after s1⟩
  | false => cases e4; exact iteF (q x H1 μ1 rs1 s1 r1)
theorem d_or (ha : DE X a fa) (hb : DE X (.BoolOp .Or (b :: rest) pos) fb) : DE X (.BoolOp .Or (a :: b :: rest) pos) (dOr fa fb) := imp (pe_orT ha hb) fun σ H Q h => by
  obtain ⟨ρ, st, μ, rs, re, d, st', e, q⟩ := h
  obtain ⟨p, e1, e2⟩ := Option.bind_eq_some_iff.mp e
  obtain ⟨c, e3, e4⟩ := Option.bind_eq_some_iff.mp e2
  refine ⟨ρ, st, μ, rs, re, p.1, p.2, e1, fun x H1 μ1 rs1 s1 r1 => ⟨c, tru_ok2 rs1 r1 e3, ?_⟩⟩
  cases c with
  | false => exact iteF ⟨ρ, p.2, μ1, rs1, re.step s1, d, st', e4, q.after s1⟩
  | true => cases e4; exact iteT (q x H1 μ1 rs1 s1 r1)
theorem d_not (ha : DE X a fa) : DE X (.UnaryOp .Not a pos) (dNot fa) := imp (pe_notT ha) fun σ H Q h => by
  obtain ⟨ρ, st, μ, rs, re, d, st', e, q⟩ := h
  obtain ⟨p, e1, e2⟩ := Option.bind_eq_some_iff.mp e
  obtain ⟨c, e3, e4⟩ := Option.map_eq_some_iff.mp e2
  cases e4
  exact ⟨ρ, st, μ, rs, re, p.1, p.2, e1, fun x H1 μ1 rs1 s1 r1 => ⟨c, tru_ok2 rs1 r1 e3, q _ H1 μ1 rs1 s1 (.bl _)⟩⟩
theorem d_ifE {c : Expr} {gc : DFb} (hc : DT X c gc) (ha : DE X a fa) (hb : DE X b fb) : DE X (.IfExp c a b pos) (dIfE gc fa fb) := imp (pe_ifExp hc ha hb) fun σ H Q h => by
  obtain ⟨ρ, st, μ, rs, re, d, st', e, q⟩ := h
  obtain ⟨p, e1, e2⟩ := Option.bind_eq_some_iff.mp e
  refine ⟨ρ, st, μ, rs, re, p.1, p.2, e1, fun H1 μ1 rs1 s1 => ?_⟩
  obtain ⟨k, st1⟩ := p
  cases k with
  | true => exact iteT ⟨ρ, st1, μ1, rs1, re.step s1, d, st', e2, q.after s1⟩
  | false => exact iteF ⟨ρ, st1, μ1, rs1, re.step s1, d, st', e2, q.after s1⟩
end

/-! ### chains: a op b op c -/
def dChain (o o' : D → D → Sto → Option (D × Sto)) (fa fb fc : DF) : DF := fun ρ st => (fa ρ st).bind fun p => (fb ρ p.2).bind fun q => (o p.1 q.1 q.2).bind fun z => match z.1 with
  | .bl true => (fc ρ z.2).bind fun w => o' q.1 w.1 w.2
  | .bl false => some (.bl false, z.2)
  | _ => none
section
variable {X : Cx} {K : PySem.W.Frag} {a b c : Expr} {fa fb fc : DF} {pos : Pos} {σ : L2.St} {H : Hp} {Q : VK} {r r' : R2} {o o' : D → D → Sto → Option (D × Sto)}
theorem dChain_le (hd : OpD K r o) (hd' : OpD K r' o') (h : tD K (dChain o o' fa fb fc) σ H Q) : tChain r r' (tD K fa) (tD K fb) (tD K fc) σ H Q := by
  obtain ⟨ρ, st, μ, rs, re, d, st', e, q⟩ := h
  obtain ⟨p, e1, e2⟩ := Option.bind_eq_some_iff.mp e
  obtain ⟨p2, e3, e4⟩ := Option.bind_eq_some_iff.mp e2
  obtain ⟨p3, e5, e6⟩ := Option.bind_eq_some_iff.mp e4
  refine ⟨ρ, st, μ, rs, re, p.1, p.2, e1, fun x H1 μ1 rs1 s1 r1 => ⟨ρ, p.2, μ1, rs1, re.step s1, p2.1, p2.2, e3, fun y H2 μ2 rs2 s2 r2 => ?_⟩⟩
  refine hd μ2 H2 p2.2 p3.2 x y p.1 p2.1 p3.1 _ rs2 (s2.rep _ _ r1) r2 e5 fun z H3 μ3 rs3 s3 r3 => ?_
  obtain ⟨d3, st3⟩ := p3
  cases d3 with
  | bl k =>
    cases r3
    refine ⟨k, rfl, ?_⟩
    cases k with
    | true =>
      obtain ⟨p4, e7, e8⟩ := Option.bind_eq_some_iff.mp e6
      refine iteT ⟨ρ, st3, μ3, rs3, ((re.step s1).step s2).step s3, p4.1, p4.2, e7, fun w H4 μ4 rs4 s4 r4 => ?_⟩
      exact hd' μ4 H4 p4.2 st' y w p2.1 p4.1 d Q rs4 ((s3.trans s4).rep _ _ r2) r4 e8 (q.after (((s1.trans s2).trans s3).trans s4))
    | false =>
      cases e6
      exact iteF (q _ H3 μ3 rs3 ((s1.trans s2).trans s3) (.bl false))
  | _ => cases e6
theorem d_chain {op op' : CmpOp} (ho : OpR X (compareOp op) r) (hd : OpD X.K r o) (ho' : OpR X (compareOp op') r') (hd' : OpD X.K r' o') (ha : DE X a fa) (hb : DE X b fb) (hc : DE X c fc)
    (hm : lastMarks [op, op'] [b, c] = false := by with_unfolding_all rfl) : DE X (.Compare a [op, op'] [b, c] pos) (dChain o o' fa fb fc) := imp (pe_chain ho ho' ha hb hc hm) fun _ _ _ h => dChain_le hd hd' h
theorem dt_chain {op op' : CmpOp} (ho : OpR X (compareOp op) r) (hd : OpD X.K r o) (ho' : OpR X (compareOp op') r') (hd' : OpD X.K r' o') (ha : DE X a fa) (hb : DE X b fb) (hc : DE X c fc)
    (hm : lastMarks [op, op'] [b, c] = false := by with_unfolding_all rfl) : DT X (.Compare a [op, op'] [b, c] pos) (dB (dChain o o' fa fb fc)) := impT (pt_chain ho ho' ha hb hc hm) fun _ _ _ h => dChain_le hd hd' (dB_le h)
end

/-! ### arguments, displays, calls of built-ins -/
def dNil : DFs := fun _ st => some ([], st)
def dCons (f : DF) (g : DFs) : DFs := fun ρ st => (f ρ st).bind fun p => (g ρ p.2).map fun q => (p.1 :: q.1, q.2)
def dTup (f : DFs) : DF := fun ρ st => (f ρ st).bind fun p => if p.1.length ≤ 16777216 then some (.tup p.1, p.2) else none
def dLst (f : DFs) : DF := fun ρ st => (f ρ st).bind fun p => if p.1.length ≤ 16777216 then some (.ref p.2.length, p.2 ++ [.lst p.1]) else none
def dCB (o : List D → Sto → Option (D × Sto)) (f : DFs) : DF := fun ρ st => (f ρ st).bind fun p => o p.1 p.2
def CallD (K : PySem.W.Frag) (r : List V → Hp → VK → Prop) (o : List D → Sto → Option (D × Sto)) : Prop :=
  ∀ (μ : List Addr) (H : Hp) (st st' : Sto) (xs : List V) (ds : List D) (d : D) (Q : VK), RelS K μ H st → Reps K μ H xs ds → o ds st = some (d, st') → Post K μ H st' d Q → r xs H Q
section
variable {X : Cx} {K : PySem.W.Frag} {e : Expr} {es : List Expr} {f : DF} {g : DFs} {pos : Pos} {σ : L2.St} {H : Hp} {Q : VK}
theorem da_nil : DAs X [] dNil := impA pa_nil fun σ H Q h => by
  obtain ⟨ρ, st, μ, rs, re, ds, st', e, q⟩ := h
  cases e
  exact q [] H μ rs .refl .nil
theorem dCons_le {Q : List V → Hp → Prop} (h : tDs K (dCons f g) σ H Q) : tCons (tD K f) (tDs K g) σ H Q := by
  obtain ⟨ρ, st, μ, rs, re, ds, st', e, q⟩ := h
  obtain ⟨p, e1, e2⟩ := Option.bind_eq_some_iff.mp e
  obtain ⟨p2, e3, e4⟩ := Option.map_eq_some_iff.mp e2
  cases e4
  exact ⟨ρ, st, μ, rs, re, p.1, p.2, e1, fun x H1 μ1 rs1 s1 r1 => ⟨ρ, p.2, μ1, rs1, re.step s1, p2.1, p2.2, e3, fun xs H2 μ2 rs2 s2 r2 => q _ H2 μ2 rs2 (s1.trans s2) (.cons (s2.rep _ _ r1) r2)⟩⟩
theorem da_cons (ha : DE X e f) (hr : DAs X es g) (hs : starEach (e :: es) X.env = (false, eval e X.env) :: starEach es X.env := by rfl) : DAs X (e :: es) (dCons f g) :=
  impA (pa_cons ha hr hs) fun _ _ _ h => dCons_le h
theorem d_tup {x1 : Nat} (h : DAs X es g) : DE X (.Tuple es x1 pos) (dTup g) := imp (pe_tup h) fun σ H Q q => by
  obtain ⟨ρ, st, μ, rs, re, d, st', e, q⟩ := q
  obtain ⟨p, e1, e2⟩ := Option.bind_eq_some_iff.mp e
  split at e2
  · rename_i hl
    cases e2
    refine ⟨ρ, st, μ, rs, re, p.1, p.2, e1, fun vs H1 μ1 rs1 s1 r1 => ⟨by rw [r1.length, line_eq]; exact hl, fun a ha => ?_⟩⟩
    exact q _ _ μ1 (rs1.new ha) (s1.trans (step_new ha)) (.tup (SqT.of upd_same) ((step_new ha).reps _ _ r1))
  · cases e2
theorem d_lst (h : DAs X es g) : DE X (.List es pos) (dLst g) := imp (pe_lst h) fun σ H Q q => by
  obtain ⟨ρ, st, μ, rs, re, d, st', e, q⟩ := q
  obtain ⟨p, e1, e2⟩ := Option.bind_eq_some_iff.mp e
  split at e2
  · rename_i hl
    cases e2
    refine ⟨ρ, st, μ, rs, re, p.1, p.2, e1, fun vs H1 μ1 rs1 s1 r1 => ⟨by rw [r1.length, line_eq]; exact hl, fun a ha => ?_⟩⟩
    exact q _ _ _ (rs1.alloc ha r1) (s1.trans (step_alloc ha)) (.ref (by rw [← rs1.len]; exact List.getElem?_concat_length))
  · cases e2
theorem dCB_le {r : List V → Hp → VK → Prop} {o : List D → Sto → Option (D × Sto)} (hd : CallD K r o) (h : tD K (dCB o g) σ H Q) : tCB r (tDs K g) σ H Q := by
  obtain ⟨ρ, st, μ, rs, re, d, st', e, q⟩ := h
  obtain ⟨p, e1, e2⟩ := Option.bind_eq_some_iff.mp e
  exact ⟨ρ, st, μ, rs, re, p.1, p.2, e1, fun vs H1 μ1 rs1 s1 r1 => hd μ1 H1 p.2 st' vs p.1 d Q rs1 r1 e2 (q.after s1)⟩
theorem d_callB {x : Str} {p : Pos} {id : String} {r : List V → Hp → VK → Prop} {o : List D → Sto → Option (D × Sto)} (hc : CallR X (.builtin id) r) (hd : CallD X.K r o) (hg : Gl X x) (hm : X.mg x = none) (hv : bootBuiltins x = some (.builtin id)) (ha : DAs X (e :: es) g)
    (hn : x ≠ "__name__" := by decide) (hdb : (x == ("__debug__" : Str)) = false := by decide)
    (he : starEach (e :: es) X.env = (false, eval e X.env) :: starEach es X.env := by rfl) (hpl : (backTo pos (starEach es X.env)).any (·.1) = false := by rfl) : DE X (.Call (.Name x p) (e :: es) [] pos) (dCB o g) :=
  imp (pe_callB hc hg hm hv ha hn hdb he hpl) fun _ _ _ h => dCB_le hd h
theorem d_callTy {x : Str} {p : Pos} {T : String} {r : List V → Hp → VK → Prop} {o : List D → Sto → Option (D × Sto)} (hc : CallR X (.type T) r) (hd : CallD X.K r o) (hg : Gl X x) (hm : X.mg x = none) (hv : bootBuiltins x = some (.type T)) (ha : DAs X (e :: es) g)
    (hn : x ≠ "__name__" := by decide) (hdb : (x == ("__debug__" : Str)) = false := by decide)
    (he : starEach (e :: es) X.env = (false, eval e X.env) :: starEach es X.env := by rfl) (hpl : (backTo pos (starEach es X.env)).any (·.1) = false := by rfl) : DE X (.Call (.Name x p) (e :: es) [] pos) (dCB o g) :=
  imp (pe_callTy hc hg hm hv ha hn hdb he hpl) fun _ _ _ h => dCB_le hd h
end

/-! ### calls of defs -/
abbrev Fn := List D → Sto → Option (D × Sto)
def spD (K : PySem.W.Frag) (n : Nat) (F : Fn) : Sp := fun vs H Q _ => ∃ (ds : List D) (st : Sto) (μ : List Addr), RelS K μ H st ∧ Reps K μ H vs ds ∧ ds.length = n ∧ ∃ (d : D) (st' : Sto), F ds st = some (d, st') ∧ Post K μ H st' d Q
theorem spD_len {K : PySem.W.Frag} {n : Nat} {F : Fn} (vs : List V) (H : Hp) (Q : VK) (E : XK) (h : spD K n F vs H Q E) : vs.length = n := by
  obtain ⟨ds, st, μ, rs, r, hl, _⟩ := h
  rw [r.length, hl]
def dCall (F : Fn) (dv : List D) (g : DFs) : DF := fun ρ st => (g ρ st).bind fun p => F (p.1 ++ dv) p.2
section
variable {X : Cx} {K : PySem.W.Frag} {e : Expr} {es : List Expr} {g : DFs} {σ : L2.St} {H : Hp} {Q : VK} {F : Fn} {n k : Nat} {dvs : List V} {dv : List D}
theorem dCall_le {E : XK} (hv : ∀ μ H, Reps K μ H dvs dv) (hn : ∀ (ds : List D), (∃ ρ st st', g ρ st = some (ds, st')) → (ds ++ dv).length = n) (h : tD K (dCall F dv g) σ H Q) : tCall (spD K n F) dvs E (tDs K g) σ H Q := by
  obtain ⟨ρ, st, μ, rs, re, d, st', e, q⟩ := h
  obtain ⟨p, e1, e2⟩ := Option.bind_eq_some_iff.mp e
  exact ⟨ρ, st, μ, rs, re, p.1, p.2, e1, fun vs H1 μ1 rs1 s1 r1 => ⟨p.1 ++ dv, p.2, μ1, rs1, r1.append (hv μ1 H1), hn _ ⟨ρ, st, p.2, e1⟩, d, st', e2, q.after s1⟩⟩
theorem dNil_len {ρ : DEnv} {st st' : Sto} {ds : List D} (h : dNil ρ st = some (ds, st')) : ds.length = 0 := by cases h; rfl
/-- the arguments' number -/
def NArg (g : DFs) (n : Nat) : Prop := ∀ (ρ : DEnv) (st st' : Sto) (ds : List D), g ρ st = some (ds, st') → ds.length = n
theorem narg_nil : NArg dNil 0 := fun _ _ _ _ h => dNil_len h
theorem narg_cons {f : DF} {g : DFs} {n : Nat} (h : NArg g n) : NArg (dCons f g) (n + 1) := fun ρ st st' ds e => by
  obtain ⟨p, e1, e2⟩ := Option.bind_eq_some_iff.mp e
  obtain ⟨p2, e3, e4⟩ := Option.map_eq_some_iff.mp e2
  cases e4
  rw [List.length_cons, h _ _ _ _ e3]
theorem d_call {f : Addr} {fd : FuncData} {ps : List Str} {x : Str} {p pos : Pos} {ds : List Value} {m : Nat} (F' : FnOk X.prog X.w X.K X.mg X.base CX0 k f fd ps (spD X.K n F)) (hr : Room k X.A) (hg : Gl X x) (hm : X.mg x = some (.ref f)) (hk : PySem.W.keepIn X.K (.ref f) = true)
    (hb : Binds X.K fd ps ds) (hd : Vals dvs ds) (hv : ∀ μ H, Reps X.K μ H dvs dv) (hnn : NArg g m) (hlen : m + dv.length = n) (ha : DAs X (e :: es) g) (hdb : (x == ("__debug__" : Str)) = false := by decide)
    (he : starEach (e :: es) X.env = (false, eval e X.env) :: starEach es X.env := by rfl) (hpl : (backTo pos (starEach es X.env)).any (·.1) = false := by rfl) :
    DE X (.Call (.Name x p) (e :: es) [] pos) (dCall F dv g) :=
  imp (pe_call F' hr hg hm hk hb hd pass0 ha hdb he hpl) fun _ _ _ h => dCall_le hv (fun ds ⟨_, _, _, e⟩ => by rw [List.length_append, hnn _ _ _ _ e, hlen]) h
theorem d_call0 {f : Addr} {fd : FuncData} {ps : List Str} {x : Str} {p pos : Pos} {ds : List Value} (F' : FnOk X.prog X.w X.K X.mg X.base CX0 k f fd ps (spD X.K n F)) (hr : Room k X.A) (hg : Gl X x) (hm : X.mg x = some (.ref f)) (hk : PySem.W.keepIn X.K (.ref f) = true)
    (hb : Binds X.K fd ps ds) (hd : Vals dvs ds) (hv : ∀ μ H, Reps X.K μ H dvs dv) (hlen : dv.length = n) (hdb : (x == ("__debug__" : Str)) = false := by decide) :
    DE X (.Call (.Name x p) [] [] pos) (dCall F dv dNil) :=
  imp (pe_call0 F' hr hg hm hk hb hd pass0 hdb) fun σ H Q h => by
    obtain ⟨ρ, st, μ, rs, re, d, st', e, q⟩ := dCall_le (E := E0) (n := n) hv (fun ds ⟨_, _, _, e⟩ => by rw [List.length_append, dNil_len e, hlen, Nat.zero_add]) h
    cases e
    exact q [] H μ rs .refl .nil
end
end DL
end

section
set_option Elab.async false
set_option linter.all false
set_option maxRecDepth 100000
set_option maxHeartbeats 4000000
/-! The data layer, part C: operators, subscripts, built-ins on data. -/
namespace DL
open PySem PySem.Spec PyProof.Rows L2
noncomputable section

/-- a list's or a tuple's items -/
def seqD (st : Sto) : D → Option (List D)
  | .tup xs => some xs
  | .ref n => match st[n]? with
    | some (.lst xs) => some xs
    | none => none
  | .fz xs => some xs
  | _ => none
mutual
/-- as data; a reference is no data -/
def pyD : D → PyData
  | .non => .none
  | .bl b => .bool b
  | .int i => .int i
  | .str x => .str x
  | .tup xs => .tuple (pyDs xs)
  | .ref _ => .dict []
  | .fz xs => .list (pyDs xs)
def pyDs : List D → List PyData
  | [] => []
  | d :: ds => pyD d :: pyDs ds
end
/-- as data, a list by its items -/
def pyS (st : Sto) : D → PyData
  | .ref n => match st[n]? with
    | some (.lst xs) => .list (pyDs xs)
    | none => .dict []
  | d => pyD d
theorem pyDs_eq : ∀ ds : List D, pyDs ds = ds.map pyD
  | [] => by simp [pyDs]
  | d :: ds => by simp [pyDs, pyDs_eq ds]

section
variable {K : PySem.W.Frag} {μ : List Addr} {H : Hp} {st : Sto}
theorem seq_rep (rs : RelS K μ H st) {x : V} {d : D} {ds : List D} (r : Rep K μ H x d) (e : seqD st d = some ds) : ∃ a vs, x = .ref a ∧ (SqL K H a vs ∨ SqT K H a vs) ∧ Reps K μ H vs ds := by
  cases r with
  | tup h1 h2 => cases e; exact ⟨_, _, rfl, .inr h1, h2⟩
  | @ref a n h =>
    have e' : (match st[n]? with
      | some (.lst xs) => some xs
      | none => none) = some ds := e
    cases q : st[n]? with
    | none => rw [q] at e'; cases e'
    | some c =>
      rw [q] at e'
      obtain ⟨vs, h1, h2⟩ := (rs.ok n a c h q).sq
      cases c with
      | lst xs => cases e'; exact ⟨a, vs, rfl, .inl h1, h2⟩
  | fz h1 h2 => cases e; exact ⟨_, _, rfl, .inl h1.sq, h2⟩
  | _ => cases e
theorem lst_rep (rs : RelS K μ H st) {x : V} {n : Nat} {ds : List D} (r : Rep K μ H x (.ref n)) (e : st[n]? = some (.lst ds)) : ∃ a vs, x = .ref a ∧ μ[n]? = some a ∧ H a = some (.lst vs) ∧ Reps K μ H vs ds := by
  obtain ⟨a, rfl, h1, vs, h2, h3⟩ := rs.cell r e
  exact ⟨a, vs, rfl, h1, h2, h3⟩
mutual
theorem dp_of : ∀ (d : D) (v : V), Rep K μ H v d → SeqAt.shaped (pyD d) = true ∨ True → (∀ n, d ≠ .ref n) → (pyD d).canLay0 = true → Dp K H v (pyD d)
  | .non, _, h, _, _, _ => by cases h; simp only [pyD]; exact .non
  | .bl b, _, h, _, _, _ => by cases h; simp only [pyD]; exact .bl b
  | .int i, _, h, _, _, _ => by cases h; simp only [pyD]; exact .int i
  | .str x, _, h, _, _, _ => by cases h; simp only [pyD]; exact .str x
  | .tup ds, _, h, _, _, c => by
    cases h with
    | tup h1 h2 =>
      simp only [pyD, PyData.canLay0] at c ⊢
      exact .tup h1 (dps_of ds _ h2 c)
  | .ref n, _, _, _, z, _ => absurd rfl (z n)
  | .fz ds, _, h, _, _, c => by
    cases h with
    | fz h1 h2 =>
      simp only [pyD, PyData.canLay0] at c ⊢
      exact .lst h1.sq (dps_of ds _ h2 c)
theorem dps_of : ∀ (ds : List D) (vs : List V), Reps K μ H vs ds → PyData.canLayAll0 (pyDs ds) = true → DpAll K H vs (pyDs ds)
  | [], _, h, _ => by cases h; simp only [pyDs]; exact .nil
  | d :: ds, _, h, c => by
    cases h with
    | cons h1 h2 =>
      simp only [pyDs, PyData.canLayAll0, Bool.and_eq_true] at c ⊢
      refine .cons (dp_of d _ h1 (.inr trivial) (fun n z => ?_) c.1) (dps_of ds _ h2 c.2)
      subst z
      simp [pyD, PyData.canLay0] at c
end
theorem dp_any (rs : RelS K μ H st) {d : D} {v : V} (r : Rep K μ H v d) (s : SeqAt.shaped (pyS st d) = true) : Dp K H v (pyS st d) := by
  cases d with
  | ref n =>
    have s' : SeqAt.shaped (match st[n]? with
      | some (.lst xs) => .list (pyDs xs)
      | none => .dict []) = true := s
    show Dp K H v (match st[n]? with
      | some (.lst xs) => .list (pyDs xs)
      | none => .dict [])
    cases q : st[n]? with
    | none => rw [q] at s'; simp [SeqAt.shaped, PyData.canLay0] at s'
    | some c =>
      rw [q] at s'
      obtain ⟨a, rfl, _, h⟩ := rs.cell r q
      obtain ⟨vs, h1, h2⟩ := h.sq
      cases c with
      | lst xs =>
        have c0 := SeqAt.canLay_of_shaped s'
        simp only [PyData.canLay0] at c0
        exact .lst h1 (dps_of xs _ h2 c0)
  | non => exact dp_of _ _ r (.inr trivial) (fun n z => by cases z) (SeqAt.canLay_of_shaped s)
  | bl b => exact dp_of _ _ r (.inr trivial) (fun n z => by cases z) (SeqAt.canLay_of_shaped s)
  | int i => exact dp_of _ _ r (.inr trivial) (fun n z => by cases z) (SeqAt.canLay_of_shaped s)
  | str x => exact dp_of _ _ r (.inr trivial) (fun n z => by cases z) (SeqAt.canLay_of_shaped s)
  | tup xs => exact dp_of _ _ r (.inr trivial) (fun n z => by cases z) (SeqAt.canLay_of_shaped s)
  | fz xs => exact dp_of _ _ r (.inr trivial) (fun n z => by cases z) (SeqAt.canLay_of_shaped s)

/-! ### arithmetic -/
/-- a product that the model reckons -/
def MulOk (i j : Int) : Prop := i.natAbs < 18446744073709551616 ∨ j.natAbs < 18446744073709551616 ∨ (i.natAbs < 2 ^ 1000 ∧ j.natAbs < 2 ^ 1000)
noncomputable instance (i j : Int) : Decidable (MulOk i j) := Classical.propDecidable _
theorem MulOk.ok {i j : Int} (h : MulOk i j) : IntMulOk i j := by
  rcases h with h | h | ⟨h1, h2⟩
  · exact .of_left (intBits_le_64 (by omega) (by omega))
  · exact .of_right (intBits_le_64 (by omega) (by omega))
  · exact CMulW.ok (wide_mul h1 h2 (by decide) (by decide) (by decide))
def DivOk (j : Int) : Prop := j ≠ 0 ∧ j.natAbs < 115792089237316195423570985008687907853269984665640564039457584007913129639936
noncomputable instance (j : Int) : Decidable (DivOk j) := Classical.propDecidable _
theorem divOk {j : Int} (h : decide (j ≠ 0 ∧ j.natAbs < 115792089237316195423570985008687907853269984665640564039457584007913129639936) = true) : DivOk j := by
  have z := of_decide_eq_true h
  exact z
theorem op_mulA {X : Cx} : OpR X (binaryOp .Mult) (rI MulOk fun i j => .int (i * j)) := opI fun _ _ _ _ _ _ _ hc q => mul_int q hc.ok
theorem divOk_log {j : Int} (h : DivOk j) : j.natAbs.log2 < 9000 := by
  have h2 : j.natAbs < 2 ^ 256 := Nat.lt_of_lt_of_le h.2 (by decide)
  exact Nat.lt_of_lt_of_le (PySem.Flt.log2_lt_of (by decide) h2) (by decide)
theorem op_fdivA {X : Cx} : OpR X (binaryOp .FloorDiv) (rI (fun _ j => DivOk j) fun i j => .int (i.fdiv j)) := opI fun _ _ _ _ _ _ _ hc q => floordiv_int hc.1 q (.inl (PyProof.noPylong_of_log2 (divOk_log hc)))

def oAdd : D → D → Sto → Option (D × Sto)
  | .int i, .int j, st => some (.int (i + j), st)
  | .str x, .str y, st => if x.length + y.length ≤ 16777216 then some (.str (x ++ y), st) else none
  | .tup xs, .tup ys, st => if xs.length + ys.length ≤ 16777216 then some (.tup (xs ++ ys), st) else none
  | .ref n, .ref m, st => match st[n]?, st[m]? with
    | some (.lst xs), some (.lst ys) => if xs.length + ys.length ≤ 16777216 then some (.ref st.length, st ++ [.lst (xs ++ ys)]) else none
    | _, _ => none
  | _, _, _ => none
def oSub : D → D → Sto → Option (D × Sto)
  | .int i, .int j, st => some (.int (i - j), st)
  | _, _, _ => none
def oMul : D → D → Sto → Option (D × Sto)
  | .int i, .int j, st => if MulOk i j then some (.int (i * j), st) else none
  | .ref n, .int k, st => match st[n]? with
    | some (.lst xs) => if -(2 ^ 63) ≤ k ∧ k < 2 ^ 63 ∧ xs.length * k.toNat ≤ 16777216 then some (.ref st.length, st ++ [.lst (List.replicate k.toNat xs).flatten]) else none
    | _ => none
  | _, _, _ => none
def oFdiv : D → D → Sto → Option (D × Sto)
  | .int i, .int j, st => if DivOk j then some (.int (i.fdiv j), st) else none
  | _, _, _ => none
def oMod : D → D → Sto → Option (D × Sto)
  | .int i, .int j, st => if j ≠ 0 then some (.int (i.fmod j), st) else none
  | _, _, _ => none
def oPow : D → D → Sto → Option (D × Sto)
  | .int i, .int j, st => if 0 ≤ j ∧ j ≤ 1000000 ∧ i.natAbs < 2 ^ 64 then some (.int (i ^ j.toNat), st) else none
  | _, _, _ => none
def oNeg : D → Sto → Option (D × Sto)
  | .int i, st => some (.int (-i), st)
  | _, _ => none

abbrev rAddA (K : PySem.W.Frag) : R2 := fun x y H Q => (rI0 fun i j => .int (i + j)) x y H Q ∨ (∃ i j, x = .str i ∧ y = .str j ∧ i.length + j.length ≤ sizeLine ∧ Q (.str (i ++ j)) H) ∨ rCatA K x y H Q ∨ rCat x y H Q
theorem op_addA {X : Cx} : OpR X (binaryOp .Add) (rAddA X.K) := op_add.or (op_add_str.or (op_catA.or op_cat))
theorem od_add : OpD K (rAddA K) oAdd := by
  intro μ H st st' x y a b d Q rs rx ry e q
  cases rx with
  | int i =>
    cases ry with
    | int j => cases e; exact .inl ⟨i, j, rfl, rfl, q _ H μ rs .refl (.int _)⟩
    | _ => cases e
  | str i =>
    cases ry with
    | str j =>
      have e' : (if i.length + j.length ≤ 16777216 then some (D.str (i ++ j), st) else none) = some (d, st') := e
      split at e'
      · rename_i hz
        cases e'
        exact .inr (.inl ⟨i, j, rfl, rfl, by rw [line_eq]; exact hz, q _ H μ rs .refl (.str _)⟩)
      · cases e'
    | _ => cases e
  | @tup a1 vs ds h1 h2 =>
    cases ry with
    | @tup a2 ws es g1 g2 =>
      have e' : (if ds.length + es.length ≤ 16777216 then some (D.tup (ds ++ es), st) else none) = some (d, st') := e
      split at e'
      · rename_i hz
        cases e'
        refine .inr (.inr (.inl ⟨a1, a2, vs, ws, rfl, rfl, h1, g1, by rw [line_eq, h2.length, g2.length]; exact hz, fun z => ?_, fun z z2 => ?_, fun _ _ p hp => ?_⟩))
        · subst z
          cases h2
          exact q _ H μ rs .refl (.tup g1 g2)
        · subst z2
          cases g2
          exact q _ H μ rs .refl (.tup h1 (by simpa using h2))
        · exact q _ _ μ (rs.new hp) (step_new hp) (.tup (SqT.of upd_same) ((step_new hp).reps _ _ (h2.append g2)))
      · cases e'
    | _ => cases e
  | @ref a1 n h =>
    cases ry with
    | @ref a2 m g =>
      have e' : (match st[n]?, st[m]? with
        | some (.lst xs), some (.lst ys) => if xs.length + ys.length ≤ 16777216 then some (D.ref st.length, st ++ [Cell.lst (xs ++ ys)]) else none
        | _, _ => none) = some (d, st') := e
      split at e'
      · rename_i xs ys q1 q2
        split at e'
        · rename_i hz
          cases e'
          obtain ⟨vs, h1, h2⟩ := rs.ok n a1 _ h q1
          obtain ⟨ws, g1, g2⟩ := rs.ok m a2 _ g q2
          refine .inr (.inr (.inr ⟨a1, a2, vs, ws, rfl, rfl, h1, g1, by rw [line_eq, h2.length, g2.length]; exact hz, fun p hp => ?_⟩))
          exact q _ _ _ (rs.alloc hp (h2.append g2)) (step_alloc hp) (.ref (by rw [← rs.len]; exact List.getElem?_concat_length))
        · cases e'
      · cases e'
    | _ => cases e
  | _ => cases e
theorem od_sub : OpD K (rI0 fun i j => .int (i - j)) oSub := by
  intro μ H st st' x y a b d Q rs rx ry e q
  cases rx with
  | int i =>
    cases ry with
    | int j => cases e; exact ⟨i, j, rfl, rfl, q _ H μ rs .refl (.int _)⟩
    | _ => cases e
  | _ => cases e
abbrev rMulA : R2 := fun x y H Q => (rI MulOk fun i j => .int (i * j)) x y H Q ∨ rRep x y H Q
theorem op_mulB {X : Cx} : OpR X (binaryOp .Mult) rMulA := op_mulA.or op_rep
theorem od_mul : OpD K rMulA oMul := by
  intro μ H st st' x y a b d Q rs rx ry e q
  cases rx with
  | int i =>
    cases ry with
    | int j =>
      have e' : (if MulOk i j then some (D.int (i * j), st) else none) = some (d, st') := e
      split at e'
      · rename_i hz
        cases e'
        exact .inl ⟨i, j, rfl, rfl, hz, q _ H μ rs .refl (.int _)⟩
      · cases e'
    | _ => cases e
  | @ref a1 n h =>
    cases ry with
    | int k =>
      have e' : (match st[n]? with
        | some (.lst xs) => if -(2 ^ 63) ≤ k ∧ k < 2 ^ 63 ∧ xs.length * k.toNat ≤ 16777216 then some (D.ref st.length, st ++ [Cell.lst (List.replicate k.toNat xs).flatten]) else none
        | _ => none) = some (d, st') := e
      split at e'
      · rename_i xs q1
        split at e'
        · rename_i hz
          cases e'
          obtain ⟨vs, h1, h2⟩ := rs.ok n a1 _ h q1
          refine .inr ⟨a1, k, vs, rfl, rfl, h1, hz.1, hz.2.1, by rw [line_eq, h2.length]; exact hz.2.2, fun p hp => ?_⟩
          exact q _ _ _ (rs.alloc hp (h2.repl _)) (step_alloc hp) (.ref (by rw [← rs.len]; exact List.getElem?_concat_length))
        · cases e'
      · cases e'
    | _ => cases e
  | _ => cases e
theorem od_fdiv : OpD K (rI (fun _ j => DivOk j) fun i j => .int (i.fdiv j)) oFdiv := by
  intro μ H st st' x y a b d Q rs rx ry e q
  cases rx with
  | int i =>
    cases ry with
    | int j =>
      have e' : (if DivOk j then some (D.int (i.fdiv j), st) else none) = some (d, st') := e
      split at e'
      · rename_i hz
        cases e'
        exact ⟨i, j, rfl, rfl, hz, q _ H μ rs .refl (.int _)⟩
      · cases e'
    | _ => cases e
  | _ => cases e
theorem od_mod : OpD K (rI (fun _ j => j ≠ 0) fun i j => .int (i.fmod j)) oMod := by
  intro μ H st st' x y a b d Q rs rx ry e q
  cases rx with
  | int i =>
    cases ry with
    | int j =>
      have e' : (if j ≠ 0 then some (D.int (i.fmod j), st) else none) = some (d, st') := e
      split at e'
      · rename_i hz
        cases e'
        exact ⟨i, j, rfl, rfl, hz, q _ H μ rs .refl (.int _)⟩
      · cases e'
    | _ => cases e
  | _ => cases e
theorem od_pow : OpD K (rI CPow fun i j => .int (i ^ j.toNat)) oPow := by
  intro μ H st st' x y a b d Q rs rx ry e q
  cases rx with
  | int i =>
    cases ry with
    | int j =>
      have e' : (if 0 ≤ j ∧ j ≤ 1000000 ∧ i.natAbs < 2 ^ 64 then some (D.int (i ^ j.toNat), st) else none) = some (d, st') := e
      split at e'
      · rename_i hz
        cases e'
        exact ⟨i, j, rfl, rfl, hz, q _ H μ rs .refl (.int _)⟩
      · cases e'
    | _ => cases e
  | _ => cases e
theorem ud_neg : UnD K (rU fun i => .int (-i)) oNeg := by
  intro μ H st st' x a d Q rs rx e q
  cases rx with
  | int i => cases e; exact ⟨i, rfl, q _ H μ rs .refl (.int _)⟩
  | _ => cases e

/-! ### comparisons -/
def scalD : D → D → Bool
  | .non, .non => true | .non, .int _ => true | .int _, .non => true | .non, .bl _ => true | .bl _, .non => true | .non, .str _ => true | .str _, .non => true
  | .int _, .int _ => true | .bl _, .bl _ => true | .str _, .str _ => true
  | .int _, .str _ => true | .str _, .int _ => true | .bl _, .str _ => true | .str _, .bl _ => true
  | _, _ => false
/-- Python's == on data -/
def eqB (st : Sto) (a b : D) : Option Bool := if scalD a b = true then some (PyData.eqv (pyD a) (pyD b)) else
  if SeqAt.shaped (pyS st a) = true ∧ SeqAt.shaped (pyS st b) = true then some (PyData.eqv (pyS st a) (pyS st b)) else none
def oEq (a b : D) (st : Sto) : Option (D × Sto) := (eqB st a b).map fun c => (.bl c, st)
def oNe (a b : D) (st : Sto) : Option (D × Sto) := (eqB st a b).map fun c => (.bl (!c), st)
theorem scal_of {x y : V} {a b : D} (rx : Rep K μ H x a) (ry : Rep K μ H y b) (s : scalD a b = true) : scal x y = true ∧ decide (x = y) = PyData.eqv (pyD a) (pyD b) := by
  cases rx <;> cases ry <;> first
    | exact absurd (show false = true from s) Bool.false_ne_true
    | (refine ⟨rfl, ?_⟩; simp [pyD, PyData.eqv] ; done)
    | (refine ⟨rfl, ?_⟩; simp [pyD, PyData.eqv]; exact (Bool.beq_eq_decide_eq _ _).symm)
    | (refine ⟨rfl, ?_⟩; simp only [pyD, PyData.eqv]; rw [Bool.eq_iff_iff]; simp)
abbrev rEqA (K : PySem.W.Frag) : R2 := fun x y H Q => rEq x y H Q ∨ rEqD K x y H Q
abbrev rNeA (K : PySem.W.Frag) : R2 := fun x y H Q => rNe x y H Q ∨ rNeD K x y H Q
theorem op_eqA {X : Cx} (hu : X.A.units + 64 < cLine) : OpR X (compareOp .Eq) (rEqA X.K) := op_eq.or (op_eqD hu)
theorem op_neA {X : Cx} (hu : X.A.units + 64 < cLine) : OpR X (compareOp .NotEq) (rNeA X.K) := op_ne.or (op_neD hu)
theorem od_eq : OpD K (rEqA K) oEq := by
  intro μ H st st' x y a b d Q rs rx ry e q
  obtain ⟨c, e1, e2⟩ := Option.map_eq_some_iff.mp e
  cases e2
  unfold eqB at e1
  split at e1
  · rename_i hs
    cases e1
    obtain ⟨h1, h2⟩ := scal_of rx ry hs
    exact .inl ⟨h1, by rw [h2]; exact q _ H μ rs .refl (.bl _)⟩
  · split at e1
    · rename_i hs
      cases e1
      exact .inr ⟨_, _, dp_any rs rx hs.1, dp_any rs ry hs.2, hs.1, hs.2, q _ H μ rs .refl (.bl _)⟩
    · cases e1
theorem od_ne : OpD K (rNeA K) oNe := by
  intro μ H st st' x y a b d Q rs rx ry e q
  obtain ⟨c, e1, e2⟩ := Option.map_eq_some_iff.mp e
  cases e2
  unfold eqB at e1
  split at e1
  · rename_i hs
    cases e1
    obtain ⟨h1, h2⟩ := scal_of rx ry hs
    exact .inl ⟨h1, by rw [h2]; exact q _ H μ rs .refl (.bl _)⟩
  · split at e1
    · rename_i hs
      cases e1
      exact .inr ⟨_, _, dp_any rs rx hs.1, dp_any rs ry hs.2, hs.1, hs.2, q _ H μ rs .refl (.bl _)⟩
    · cases e1
/-- an order of ints and of texts -/
def oOrd (p : Int → Int → Bool) (c : List Nat → List Nat → Bool) : D → D → Sto → Option (D × Sto)
  | .int i, .int j, st => some (.bl (p i j), st)
  | .str x, .str y, st => some (.bl (c x.cps.toList y.cps.toList), st)
  | _, _, _ => none
abbrev rOrd (p : Int → Int → Bool) (c : List Nat → List Nat → Bool) : R2 := fun x y H Q => (rI0 fun i j => .bl (p i j)) x y H Q ∨ ∃ i j, x = .str i ∧ y = .str j ∧ Q (.bl (c i.cps.toList j.cps.toList)) H
abbrev oLt := oOrd (fun i j => decide (i < j)) fun x y => decide (x < y)
abbrev oLe := oOrd (fun i j => decide (i ≤ j)) fun x y => !decide (y < x)
abbrev oGt := oOrd (fun i j => decide (j < i)) fun x y => decide (y < x)
abbrev oGe := oOrd (fun i j => decide (j ≤ i)) fun x y => !decide (x < y)
theorem op_ltA {X : Cx} : OpR X (compareOp .Lt) (rOrd (fun i j => decide (i < j)) fun x y => decide (x < y)) := op_lt.or op_lt_str
theorem op_leA {X : Cx} : OpR X (compareOp .LtE) (rOrd (fun i j => decide (i ≤ j)) fun x y => !decide (y < x)) := op_le.or op_le_str
theorem op_gtA {X : Cx} : OpR X (compareOp .Gt) (rOrd (fun i j => decide (j < i)) fun x y => decide (y < x)) := op_gt.or op_gt_str
theorem op_geA {X : Cx} : OpR X (compareOp .GtE) (rOrd (fun i j => decide (j ≤ i)) fun x y => !decide (x < y)) := op_ge.or op_ge_str
theorem od_ord {p : Int → Int → Bool} {c : List Nat → List Nat → Bool} : OpD K (rOrd p c) (oOrd p c) := by
  intro μ H st st' x y a b d Q rs rx ry e q
  cases rx with
  | int i =>
    cases ry with
    | int j => cases e; exact .inl ⟨i, j, rfl, rfl, q _ H μ rs .refl (.bl _)⟩
    | _ => cases e
  | str i =>
    cases ry with
    | str j => cases e; exact .inr ⟨i, j, rfl, rfl, q _ H μ rs .refl (.bl _)⟩
    | _ => cases e
  | _ => cases e
def isNonD : D → Bool
  | .non => true
  | _ => false
def oIsN (a b : D) (st : Sto) : Option (D × Sto) := if isNonD b = true then some (.bl (isNonD a), st) else none
def oNotN (a b : D) (st : Sto) : Option (D × Sto) := if isNonD b = true then some (.bl (!isNonD a), st) else none
theorem isNon_of {x : V} {a : D} (r : Rep K μ H x a) : decide (x = .non) = isNonD a := by
  cases r <;> first | rfl | (simp [isNonD])
theorem od_isN : OpD K (fun x y H Q => y = .non ∧ Q (.bl (decide (x = .non))) H) oIsN := by
  intro μ H st st' x y a b d Q rs rx ry e q
  unfold oIsN at e
  split at e
  · rename_i hb
    cases e
    refine ⟨of_decide_eq_true (by rw [isNon_of ry]; exact hb), ?_⟩
    rw [isNon_of rx]
    exact q _ H μ rs .refl (.bl _)
  · cases e
theorem od_notN : OpD K (fun x y H Q => y = .non ∧ Q (.bl (!decide (x = .non))) H) oNotN := by
  intro μ H st st' x y a b d Q rs rx ry e q
  unfold oNotN at e
  split at e
  · rename_i hb
    cases e
    refine ⟨of_decide_eq_true (by rw [isNon_of ry]; exact hb), ?_⟩
    rw [isNon_of rx]
    exact q _ H μ rs .refl (.bl _)
  · cases e

/-! ### in -/
def flatD : D → Bool
  | .non => true
  | .bl _ => true
  | .int _ => true
  | .str _ => true
  | _ => false
def isTupD : D → Bool
  | .tup _ => true
  | _ => false
/-- x in xs: flat items, or a list of data -/
def inB (st : Sto) (x y : D) : Option Bool := (seqD st y).bind fun ds => if flatD x = true ∧ ds.all flatD = true then some (ds.any fun z => PyData.eqv (pyD z) (pyD x)) else
  if isTupD y = false ∧ SeqAt.shaped (pyD x) = true ∧ SeqAt.shaped (.list (pyDs ds)) = true then some (ds.any fun z => PyData.eqv (pyD z) (pyD x)) else none
def oIn (x y : D) (st : Sto) : Option (D × Sto) := (inB st x y).map fun c => (.bl c, st)
def oNotIn (x y : D) (st : Sto) : Option (D × Sto) := (inB st x y).map fun c => (.bl (!c), st)
theorem eqV_of {x y : V} {a b : D} (rx : Rep K μ H x a) (ry : Rep K μ H y b) (fa : flatD a = true) (fb : flatD b = true) : eqV x y = PyData.eqv (pyD a) (pyD b) := by
  cases rx <;> cases ry <;> first
    | exact absurd (show false = true from fa) Bool.false_ne_true
    | exact absurd (show false = true from fb) Bool.false_ne_true
    | (simp [eqV, pyD, PyData.eqv])
theorem flat_of {x : V} {a : D} (rx : Rep K μ H x a) (f : flatD a = true) : flatV x = true := by
  cases rx <;> first | rfl | exact absurd (show false = true from f) Bool.false_ne_true
theorem flats_of : ∀ {vs : List V} {ds : List D}, Reps K μ H vs ds → ds.all flatD = true → vs.all flatV = true
  | _, _, .nil, _ => rfl
  | _, _, .cons r t, h => by
    rw [List.all_cons, Bool.and_eq_true] at h
    rw [List.all_cons, flat_of r h.1, flats_of t h.2]; rfl
theorem inV_of {x : V} {a : D} (rx : Rep K μ H x a) (fa : flatD a = true) : ∀ {vs : List V} {ds : List D}, Reps K μ H vs ds → ds.all flatD = true → inV x vs = ds.any fun z => PyData.eqv (pyD z) (pyD a)
  | _, _, .nil, _ => rfl
  | _, _, .cons r t, h => by
    rw [List.all_cons, Bool.and_eq_true] at h
    have ih := inV_of rx fa t h.2
    unfold inV at ih ⊢
    rw [List.any_cons, List.any_cons, ih, eqV_of r rx h.1 fa]
theorem any_map_py (x : D) : ∀ ds : List D, (pyDs ds).any (fun z => PyData.eqv z (pyD x)) = ds.any fun z => PyData.eqv (pyD z) (pyD x)
  | [] => by simp [pyDs]
  | d :: ds => by simp [pyDs, any_map_py x ds]
abbrev rInA (K : PySem.W.Frag) : R2 := fun x y H Q => rIn K false x y H Q ∨ rInD K x y H Q
abbrev rNotInA (K : PySem.W.Frag) : R2 := fun x y H Q => rIn K true x y H Q ∨ rNotInD K x y H Q
theorem op_inA {X : Cx} (hu : X.A.units + 65 < cLine) : OpR X (compareOp .In) (rInA X.K) := op_in_seq.or (op_inD hu)
theorem op_notInA {X : Cx} (hu : X.A.units + 65 < cLine) : OpR X (compareOp .NotIn) (rNotInA X.K) := op_notIn_seq.or (op_notInD hu)
theorem in_core (rs : RelS K μ H st) {x y : V} {a b : D} {c : Bool} (rx : Rep K μ H x a) (ry : Rep K μ H y b) (e : inB st a b = some c) :
    (∃ p xs, y = .ref p ∧ (SqL K H p xs ∨ SqT K H p xs) ∧ flatV x = true ∧ xs.all flatV = true ∧ inV x xs = c) ∨
    (∃ d ds, Dp K H x d ∧ Dp K H y (.list ds) ∧ SeqAt.shaped d = true ∧ SeqAt.shaped (.list ds) = true ∧ (ds.any fun z => PyData.eqv z d) = c) := by
  obtain ⟨ds, e1, e2⟩ := Option.bind_eq_some_iff.mp e
  obtain ⟨p, vs, rfl, hs, r⟩ := seq_rep rs ry e1
  split at e2
  · rename_i hf
    cases e2
    exact .inl ⟨p, vs, rfl, hs, flat_of rx hf.1, flats_of r hf.2, inV_of rx hf.1 r hf.2⟩
  · split at e2
    · rename_i hf
      cases e2
      refine .inr ⟨pyD a, pyDs ds, ?_, ?_, hf.2.1, hf.2.2, any_map_py a ds⟩
      · have h1 : ∀ n, a ≠ .ref n := fun n z => by
          have h3 := hf.2.1
          rw [z] at h3
          simp [pyD, SeqAt.shaped, PyData.canLay0] at h3
        exact dp_of a x rx (.inr trivial) h1 (SeqAt.canLay_of_shaped hf.2.1)
      · cases ry with
        | tup h1 h2 => exact absurd hf.1 (by simp [isTupD])
        | @ref _ n h =>
          have e' : (match st[n]? with
            | some (.lst xs) => some xs
            | none => none) = some ds := e1
          have c0 := SeqAt.canLay_of_shaped hf.2.2
          simp only [PyData.canLay0] at c0
          cases qn : st[n]? with
          | none => rw [qn] at e'; cases e'
          | some cc =>
            rw [qn] at e'
            obtain ⟨ws, h1, h2⟩ := (rs.ok n p cc h qn).sq
            cases cc with
            | lst xs => cases e'; exact .lst h1 (dps_of ds _ h2 c0)
        | fz h1 h2 =>
          cases e1
          have c0 := SeqAt.canLay_of_shaped hf.2.2
          simp only [PyData.canLay0] at c0
          exact .lst h1.sq (dps_of ds _ h2 c0)
        | _ => cases e1
    · cases e2
theorem od_in : OpD K (rInA K) oIn := by
  intro μ H st st' x y a b d Q rs rx ry e q
  obtain ⟨c, e1, e2⟩ := Option.map_eq_some_iff.mp e
  cases e2
  have q' := q (.bl c) H μ rs .refl (.bl _)
  rcases in_core rs rx ry e1 with ⟨p, xs, rfl, h1, h2, h3, h4⟩ | ⟨d, ds, h1, h2, h3, h4, h5⟩
  · exact .inl ⟨p, xs, rfl, h1, h2, h3, by rw [if_neg Bool.false_ne_true, h4]; exact q'⟩
  · exact .inr ⟨d, ds, h1, h2, h3, h4, by rw [h5]; exact q'⟩
theorem od_notIn : OpD K (rNotInA K) oNotIn := by
  intro μ H st st' x y a b d Q rs rx ry e q
  obtain ⟨c, e1, e2⟩ := Option.map_eq_some_iff.mp e
  cases e2
  have q' := q (.bl (!c)) H μ rs .refl (.bl _)
  rcases in_core rs rx ry e1 with ⟨p, xs, rfl, h1, h2, h3, h4⟩ | ⟨d, ds, h1, h2, h3, h4, h5⟩
  · exact .inl ⟨p, xs, rfl, h1, h2, h3, by rw [if_pos rfl, h4]; exact q'⟩
  · exact .inr ⟨d, ds, h1, h2, h3, h4, by rw [h5]; exact q'⟩

/-! ### subscripts -/
def oIx : D → D → Sto → Option (D × Sto)
  | .str x, .int i, st => if x.length ≤ 16777216 then (atI x.cps.toList i).map fun c => (.str ⟨#[c]⟩, st) else none
  | a, .int i, st => (seqD st a).bind fun ds => (atI ds i).map fun d => (d, st)
  | _, _, _ => none
theorem atI_rep {vs : List V} {ds : List D} {i : Int} {d : D} (r : Reps K μ H vs ds) (e : atI ds i = some d) : ∃ v, atI vs i = some v ∧ Rep K μ H v d := by
  unfold atI at e ⊢
  rw [r.length]
  obtain ⟨j, e1, e2⟩ := Option.bind_eq_some_iff.mp e
  obtain ⟨v, e3, h⟩ := r.get e2
  exact ⟨v, by rw [e1]; exact e3, h⟩
theorem od_ix : OpD K (rIx K) oIx := by
  intro μ H st st' x y a b d Q rs rx ry e q
  have go : ∀ {i : Int}, y = .int i → ((seqD st a).bind fun ds => (atI ds i).map fun d => (d, st)) = some (d, st') → rIx K x y H Q := fun {i} hy e => by
    obtain ⟨ds, e1, e2⟩ := Option.bind_eq_some_iff.mp e
    obtain ⟨d', e3, e4⟩ := Option.map_eq_some_iff.mp e2
    cases e4
    obtain ⟨p, vs, rfl, hs, r⟩ := seq_rep rs rx e1
    obtain ⟨v, e5, h⟩ := atI_rep r e3
    rcases hs with hs | hs
    · exact .inl ⟨p, vs, i, v, rfl, hy, hs, e5, q v H μ rs .refl h⟩
    · exact .inr (.inl ⟨p, vs, i, v, rfl, hy, hs, e5, q v H μ rs .refl h⟩)
  cases ry with
  | int i =>
    cases a with
    | str z =>
      cases rx
      have e' : (if z.length ≤ 16777216 then (atI z.cps.toList i).map fun c => (D.str ⟨#[c]⟩, st) else none) = some (d, st') := e
      split at e'
      · rename_i hz
        obtain ⟨c, e1, e2⟩ := Option.map_eq_some_iff.mp e'
        cases e2
        exact .inr (.inr ⟨z, i, c, rfl, rfl, by rw [line_eq]; exact hz, e1, q _ H μ rs .refl (.str _)⟩)
      · cases e'
    | tup xs => exact go rfl e
    | ref n => exact go rfl e
    | fz xs => exact go rfl e
    | non => cases e
    | bl b => cases e
    | int j => cases e
  | _ => cases a <;> cases e

/-! ### slices -/
abbrev DO := DEnv → Sto → Option (Option Int × Sto)
def tDo (K : PySem.W.Frag) (f : DO) : TO := fun σ H Q => ∃ (ρ : DEnv) (st : Sto) (μ : List Addr), RelS K μ H st ∧ RelE K μ σ H ρ ∧ ∃ (o : Option Int) (st' : Sto), f ρ st = some (o, st') ∧
  ∀ (H' : Hp) (μ' : List Addr), RelS K μ' H' st' → Step μ H μ' H' → Q o H'
def oNo : DO := fun _ st => some (none, st)
def oPart (f : DF) : DO := fun ρ st => (f ρ st).bind fun p => match p.1 with
  | .int i => some (some i, p.2)
  | _ => none
abbrev DOx (X : Cx) (e : Option Expr) (f : DO) : Prop := PO X e (tDo X.K f)
theorem impO {X : Cx} {e : Option Expr} {t t' : TO} (h : PO X e t) (k : ∀ σ H Q, t' σ H Q → t σ H Q) : PO X e t' := ⟨fun pins s σ H Q I q => h.run pins s σ H Q I (k σ H Q q)⟩
theorem do_none {X : Cx} : DOx X none oNo := impO po_none fun σ H Q h => by
  obtain ⟨ρ, st, μ, rs, re, o, st', e, q⟩ := h
  cases e
  exact q H μ rs .refl
theorem do_some {X : Cx} {e : Expr} {f : DF} (h : DE X e f) : DOx X (some e) (oPart f) := impO (po_some h) fun σ H Q q => by
  obtain ⟨ρ, st, μ, rs, re, o, st', e, q⟩ := q
  obtain ⟨p, e1, e2⟩ := Option.bind_eq_some_iff.mp e
  refine ⟨ρ, st, μ, rs, re, p.1, p.2, e1, fun x H1 μ1 rs1 s1 r1 => ?_⟩
  obtain ⟨d, st1⟩ := p
  cases d with
  | int i => cases r1; cases e2; exact ⟨i, rfl, q H1 μ1 rs1 s1⟩
  | _ => cases e2
def cutD (xs : List D) (lo hi : Option Int) : List D := (xs.drop (HT.sIx xs.length 0 lo)).take (HT.sIx xs.length xs.length hi - HT.sIx xs.length 0 lo)
def oSl (lo hi : Option Int) : D → Sto → Option (D × Sto)
  | .tup xs, st => some (.tup (cutD xs lo hi), st)
  | .ref n, st => match st[n]? with
    | some (.lst xs) => some (.ref st.length, st ++ [.lst (cutD xs lo hi)])
    | none => none
  | .fz xs, st => some (.ref st.length, st ++ [.lst (cutD xs lo hi)])
  | .str x, st => if x.length ≤ 16777216 then some (.str (cutS x lo hi), st) else none
  | _, _ => none
def dSl (f : DF) (l h : DO) : DF := fun ρ st => (f ρ st).bind fun p => (l ρ p.2).bind fun a => (h ρ a.2).bind fun b => oSl a.1 b.1 p.1 b.2
abbrev rSlX (K : PySem.W.Frag) : V → Option Int → Option Int → Hp → VK → Prop := fun x lo hi H Q => rSlL K x lo hi H Q ∨ rSlA K x lo hi H Q ∨ rSlS x lo hi H Q
theorem sl_any {X : Cx} : SlR X (rSlX X.K) := sl_list.or (sl_tupA.or sl_str)
theorem cut_rep {vs : List V} {ds : List D} (lo hi : Option Int) (r : Reps K μ H vs ds) : Reps K μ H (cutV vs lo hi) (cutD ds lo hi) := by
  unfold cutV cutD
  rw [r.length]
  exact (r.drop _).take _
theorem cut_whole {ds : List D} {lo hi : Option Int} (h : HT.sIx ds.length 0 lo = 0 ∧ HT.sIx ds.length ds.length hi = ds.length) : cutD ds lo hi = ds := by
  unfold cutD
  rw [h.1, h.2]
  simp
theorem sl_core (rs : RelS K μ H st) {x : V} {a d : D} {st' : Sto} {lo hi : Option Int} {Q : VK} (r : Rep K μ H x a) (e : oSl lo hi a st = some (d, st')) (q : Post K μ H st' d Q) : rSlX K x lo hi H Q := by
  cases r with
  | @tup p vs ds h1 h2 =>
    cases e
    refine .inr (.inl ⟨p, vs, rfl, h1, fun z => ?_, fun _ t ht => ?_⟩)
    · rw [h2.length] at z
      refine q _ H μ rs .refl ?_
      rw [cut_whole z]
      exact .tup h1 h2
    · exact q _ _ μ (rs.new ht) (step_new ht) (.tup (SqT.of upd_same) ((step_new ht).reps _ _ (cut_rep lo hi h2)))
  | str z =>
    have e' : (if z.length ≤ 16777216 then some (D.str (cutS z lo hi), st) else none) = some (d, st') := e
    split at e'
    · rename_i hz
      cases e'
      exact .inr (.inr ⟨z, rfl, by rw [line_eq]; exact hz, q _ H μ rs .refl (.str _)⟩)
    · cases e'
  | @ref p n h =>
    have e' : (match st[n]? with
      | some (.lst xs) => some (D.ref st.length, st ++ [Cell.lst (cutD xs lo hi)])
      | none => none) = some (d, st') := e
    cases qn : st[n]? with
    | none => rw [qn] at e'; cases e'
    | some cc =>
      rw [qn] at e'
      obtain ⟨ws, h1, h2⟩ := (rs.ok n p cc h qn).sq
      cases cc with
      | lst xs =>
        cases e'
        exact .inl ⟨p, ws, rfl, h1, fun l hl => q _ _ _ (rs.alloc hl (cut_rep lo hi h2)) (step_alloc hl) (.ref (by rw [← rs.len]; exact List.getElem?_concat_length))⟩
  | @fz p ws xs h1 h2 =>
    cases e
    exact .inl ⟨p, ws, rfl, h1.sq, fun l hl => q _ _ _ (rs.alloc hl (cut_rep lo hi h2)) (step_alloc hl) (.ref (by rw [← rs.len]; exact List.getElem?_concat_length))⟩
  | _ => cases e
theorem d_slice {X : Cx} {e : Expr} {f : DF} {lo hi : Option Expr} {fl fh : DO} {pos p2 : Pos} (he : DE X e f) (hl : DOx X lo fl) (hu : DOx X hi fh) : DE X (.Subscript e (.Slice lo hi none p2) pos) (dSl f fl fh) :=
  imp (pe_slice sl_any he hl hu) fun σ H Q h => by
    obtain ⟨ρ, st, μ, rs, re, d, st', e, q⟩ := h
    obtain ⟨p, e1, e2⟩ := Option.bind_eq_some_iff.mp e
    obtain ⟨a, e3, e4⟩ := Option.bind_eq_some_iff.mp e2
    obtain ⟨b, e5, e6⟩ := Option.bind_eq_some_iff.mp e4
    exact ⟨ρ, st, μ, rs, re, p.1, p.2, e1, fun x H1 μ1 rs1 s1 r1 => ⟨ρ, p.2, μ1, rs1, re.step s1, a.1, a.2, e3, fun H2 μ2 rs2 s2 => ⟨ρ, a.2, μ2, rs2, (re.step s1).step s2, b.1, b.2, e5, fun H3 μ3 rs3 s3 =>
      sl_core rs3 ((s2.trans s3).rep _ _ r1) e6 (q.after ((s1.trans s2).trans s3))⟩⟩⟩

/-! ### built-ins -/
def bLen : List D → Sto → Option (D × Sto)
  | [.str x], st => if x.length ≤ 16777216 then some (.int x.length, st) else none
  | [d], st => (seqD st d).map fun ds => (.int ds.length, st)
  | _, _ => none
theorem reps1 {xs : List V} {d : D} (r : Reps K μ H xs [d]) : ∃ x, xs = [x] ∧ Rep K μ H x d := by
  cases r with
  | cons r t => cases t; exact ⟨_, rfl, r⟩
theorem reps2 {xs : List V} {d d2 : D} (r : Reps K μ H xs [d, d2]) : ∃ x y, xs = [x, y] ∧ Rep K μ H x d ∧ Rep K μ H y d2 := by
  cases r with
  | cons r t =>
    cases t with
    | cons r2 t2 => cases t2; exact ⟨_, _, rfl, r, r2⟩
theorem cd_len : CallD K (fun xs H Q => ∃ x n, xs = [x] ∧ LenV K x H n ∧ Q (.int n) H) bLen := by
  intro μ H st st' xs ds d Q rs r e q
  cases ds with
  | nil => cases e
  | cons a t =>
  cases t with
  | cons b t => cases a <;> cases e
  | nil =>
    obtain ⟨x, rfl, rx⟩ := reps1 r
    have go : ((seqD st a).map fun ds => (D.int ds.length, st)) = some (d, st') → ∃ y n, [x] = [y] ∧ LenV K y H n ∧ Q (.int n) H := fun e => by
      obtain ⟨ds, e1, e2⟩ := Option.map_eq_some_iff.mp e
      cases e2
      obtain ⟨p, vs, rfl, hs, rr⟩ := seq_rep rs rx e1
      refine ⟨_, ds.length, rfl, ?_, q _ H μ rs .refl (.int _)⟩
      rcases hs with hs | hs
      · exact .inl ⟨vs, hs, rr.length.symm⟩
      · exact .inr ⟨vs, hs, rr.length.symm⟩
    cases a with
    | str z =>
      cases rx
      have e' : (if z.length ≤ 16777216 then some (D.int z.length, st) else none) = some (d, st') := e
      split at e'
      · rename_i hz
        cases e'
        exact ⟨_, z.length, rfl, ⟨by rw [line_eq]; exact hz, rfl⟩, q _ H μ rs .refl (.int _)⟩
      · cases e'
    | tup xs => exact go e
    | ref n => exact go e
    | fz xs => exact go e
    | non => exact go e
    | bl b => exact go e
    | int j => exact go e
def bAbs : List D → Sto → Option (D × Sto)
  | [.int i], st => some (.int (if i < 0 then -i else i), st)
  | _, _ => none
theorem cd_abs : CallD K (fun xs H Q => ∃ i, xs = [.int i] ∧ Q (.int (if i < 0 then -i else i)) H) bAbs := by
  intro μ H st st' xs ds d Q rs r e q
  unfold bAbs at e
  split at e
  · obtain ⟨x, rfl, rx⟩ := reps1 r
    cases rx
    cases e
    exact ⟨_, rfl, q _ H μ rs .refl (.int _)⟩
  · cases e
def bMax2 : List D → Sto → Option (D × Sto)
  | [.int i, .int j], st => some (.int (if j > i then j else i), st)
  | _, _ => none
def bMin2 : List D → Sto → Option (D × Sto)
  | [.int i, .int j], st => some (.int (if j < i then j else i), st)
  | _, _ => none
theorem cd_max2 : CallD K (fun xs H Q => ∃ i j, xs = [.int i, .int j] ∧ Q (.int (if j > i then j else i)) H) bMax2 := by
  intro μ H st st' xs ds d Q rs r e q
  unfold bMax2 at e
  split at e
  · obtain ⟨x, y, rfl, rx, ry⟩ := reps2 r
    cases rx
    cases ry
    cases e
    exact ⟨_, _, rfl, q _ H μ rs .refl (.int _)⟩
  · cases e
theorem cd_min2 : CallD K (fun xs H Q => ∃ i j, xs = [.int i, .int j] ∧ Q (.int (if j < i then j else i)) H) bMin2 := by
  intro μ H st st' xs ds d Q rs r e q
  unfold bMin2 at e
  split at e
  · obtain ⟨x, y, rfl, rx, ry⟩ := reps2 r
    cases rx
    cases ry
    cases e
    exact ⟨_, _, rfl, q _ H μ rs .refl (.int _)⟩
  · cases e
def bInt : List D → Sto → Option (D × Sto)
  | [.int i], st => some (.int i, st)
  | [.bl k], st => some (.int (if k then 1 else 0), st)
  | _, _ => none
theorem cd_int : CallD K (fun xs H Q => (∃ i, xs = [.int i] ∧ Q (.int i) H) ∨ ∃ k, xs = [.bl k] ∧ Q (.int (if k then 1 else 0)) H) bInt := by
  intro μ H st st' xs ds d Q rs r e q
  unfold bInt at e
  split at e
  · obtain ⟨x, rfl, rx⟩ := reps1 r
    cases rx
    cases e
    exact .inl ⟨_, rfl, q _ H μ rs .refl (.int _)⟩
  · obtain ⟨x, rfl, rx⟩ := reps1 r
    cases rx
    cases e
    exact .inr ⟨_, rfl, q _ H μ rs .refl (.int _)⟩
  · cases e
def bBool : List D → Sto → Option (D × Sto)
  | [.int i], st => some (.bl (i != 0), st)
  | [.bl k], st => some (.bl k, st)
  | _, _ => none
theorem cd_bool : CallD K (fun xs H Q => (∃ i, xs = [.int i] ∧ Q (.bl (i != 0)) H) ∨ ∃ k, xs = [.bl k] ∧ Q (.bl k) H) bBool := by
  intro μ H st st' xs ds d Q rs r e q
  unfold bBool at e
  split at e
  · obtain ⟨x, rfl, rx⟩ := reps1 r
    cases rx
    cases e
    exact .inl ⟨_, rfl, q _ H μ rs .refl (.bl _)⟩
  · obtain ⟨x, rfl, rx⟩ := reps1 r
    cases rx
    cases e
    exact .inr ⟨_, rfl, q _ H μ rs .refl (.bl _)⟩
  · cases e
/-- tuple(x) of a list or a tuple -/
def bTup : List D → Sto → Option (D × Sto)
  | [d], st => (seqD st d).map fun ds => (.tup ds, st)
  | _, _ => none
theorem cd_tup : CallD K (fun xs H Q => ∃ p ys, xs = [.ref p] ∧ ((SqL K H p ys ∧ ∀ l, H l = none → Q (.ref l) (upd H l (.tup ys))) ∨ (SqT K H p ys ∧ Q (.ref p) H))) bTup := by
  intro μ H st st' xs ds d Q rs r e q
  unfold bTup at e
  split at e
  · obtain ⟨x, rfl, rx⟩ := reps1 r
    obtain ⟨es, e1, e2⟩ := Option.map_eq_some_iff.mp e
    cases e2
    obtain ⟨p, vs, rfl, hs, rr⟩ := seq_rep rs rx e1
    refine ⟨p, vs, rfl, ?_⟩
    rcases hs with hs | hs
    · exact .inl ⟨hs, fun l hl => q _ _ μ (rs.new hl) (step_new hl) (.tup (SqT.of upd_same) ((step_new hl).reps _ _ rr))⟩
    · exact .inr ⟨hs, q _ H μ rs .refl (.tup hs rr)⟩
  · cases e
def bList : List D → Sto → Option (D × Sto)
  | [d], st => (seqD st d).map fun ds => (.ref st.length, st ++ [.lst ds])
  | _, _ => none
theorem cd_list : CallD K (fun xs H Q => ∃ p ys, xs = [.ref p] ∧ (SqL K H p ys ∨ SqT K H p ys) ∧ ∀ l, H l = none → Q (.ref l) (upd H l (.lst ys))) bList := by
  intro μ H st st' xs ds d Q rs r e q
  unfold bList at e
  split at e
  · obtain ⟨x, rfl, rx⟩ := reps1 r
    obtain ⟨es, e1, e2⟩ := Option.map_eq_some_iff.mp e
    cases e2
    obtain ⟨p, vs, rfl, hs, rr⟩ := seq_rep rs rx e1
    exact ⟨p, vs, rfl, hs, fun l hl => q _ _ _ (rs.alloc hl rr) (step_alloc hl) (.ref (by rw [← rs.len]; exact List.getElem?_concat_length))⟩
  · cases e
/-- lists of ints, of bools -/
def intsD : List D → Option (List Int)
  | [] => some []
  | .int i :: r => (intsD r).map (i :: ·)
  | _ :: _ => none
def blsD : List D → Option (List Bool)
  | [] => some []
  | .bl i :: r => (blsD r).map (i :: ·)
  | _ :: _ => none
theorem ints_rep : ∀ {vs : List V} {ds : List D} {ns : List Int}, Reps K μ H vs ds → intsD ds = some ns → vs = ns.map V.int
  | _, _, _, .nil, e => by cases e; rfl
  | _, _, _, .cons (d := d) r t, e => by
    cases d with
    | int i =>
      obtain ⟨ms, e1, e2⟩ := Option.map_eq_some_iff.mp e
      cases e2
      cases r
      rw [ints_rep t e1] <;> rfl
    | _ => cases e
theorem bls_rep : ∀ {vs : List V} {ds : List D} {ns : List Bool}, Reps K μ H vs ds → blsD ds = some ns → vs = ns.map V.bl
  | _, _, _, .nil, e => by cases e; rfl
  | _, _, _, .cons (d := d) r t, e => by
    cases d with
    | bl i =>
      obtain ⟨ms, e1, e2⟩ := Option.map_eq_some_iff.mp e
      cases e2
      cases r
      rw [bls_rep t e1] <;> rfl
    | _ => cases e
/-- a LIST's items -/
def lstD (st : Sto) : D → Option (List D)
  | .ref n => match st[n]? with
    | some (.lst xs) => some xs
    | none => none
  | .fz xs => some xs
  | _ => none
theorem lstD_rep (rs : RelS K μ H st) {x : V} {d : D} {ds : List D} (r : Rep K μ H x d) (e : lstD st d = some ds) : ∃ a vs, x = .ref a ∧ SqL K H a vs ∧ Reps K μ H vs ds := by
  cases r with
  | @ref a n h =>
    have e' : (match st[n]? with
      | some (.lst xs) => some xs
      | none => none) = some ds := e
    cases q : st[n]? with
    | none => rw [q] at e'; cases e'
    | some c =>
      rw [q] at e'
      obtain ⟨vs, h1, h2⟩ := (rs.ok n a c h q).sq
      cases c with
      | lst xs => cases e'; exact ⟨a, vs, rfl, h1, h2⟩
  | fz h1 h2 => cases e; exact ⟨_, _, rfl, h1.sq, h2⟩
  | _ => cases e
def bSum : List D → Sto → Option (D × Sto)
  | [d], st => (lstD st d).bind fun ds => (intsD ds).map fun ns => (.int ns.sum, st)
  | _, _ => none
def bAll : List D → Sto → Option (D × Sto)
  | [d], st => (lstD st d).bind fun ds => (blsD ds).map fun ns => (.bl (ns.all id), st)
  | _, _ => none
def bAny : List D → Sto → Option (D × Sto)
  | [d], st => (lstD st d).bind fun ds => (blsD ds).map fun ns => (.bl (ns.any id), st)
  | _, _ => none
theorem cd_sum : CallD K (rSum K) bSum := by
  intro μ H st st' xs ds d Q rs r e q
  unfold bSum at e
  split at e
  · obtain ⟨x, rfl, rx⟩ := reps1 r
    obtain ⟨es, e1, e2⟩ := Option.bind_eq_some_iff.mp e
    obtain ⟨ns, e3, e4⟩ := Option.map_eq_some_iff.mp e2
    cases e4
    obtain ⟨p, vs, rfl, hs, rr⟩ := lstD_rep rs rx e1
    exact ⟨p, ns, rfl, by rw [← ints_rep rr e3]; exact hs, q _ H μ rs .refl (.int _)⟩
  · cases e
theorem cd_all : CallD K (rAll K) bAll := by
  intro μ H st st' xs ds d Q rs r e q
  unfold bAll at e
  split at e
  · obtain ⟨x, rfl, rx⟩ := reps1 r
    obtain ⟨es, e1, e2⟩ := Option.bind_eq_some_iff.mp e
    obtain ⟨ns, e3, e4⟩ := Option.map_eq_some_iff.mp e2
    cases e4
    obtain ⟨p, vs, rfl, hs, rr⟩ := lstD_rep rs rx e1
    exact ⟨p, ns, rfl, by rw [← bls_rep rr e3]; exact hs, q _ H μ rs .refl (.bl _)⟩
  · cases e
theorem cd_any : CallD K (rAny K) bAny := by
  intro μ H st st' xs ds d Q rs r e q
  unfold bAny at e
  split at e
  · obtain ⟨x, rfl, rx⟩ := reps1 r
    obtain ⟨es, e1, e2⟩ := Option.bind_eq_some_iff.mp e
    obtain ⟨ns, e3, e4⟩ := Option.map_eq_some_iff.mp e2
    cases e4
    obtain ⟨p, vs, rfl, hs, rr⟩ := lstD_rep rs rx e1
    exact ⟨p, ns, rfl, by rw [← bls_rep rr e3]; exact hs, q _ H μ rs .refl (.bl _)⟩
  · cases e
/-- max, min of a list of ints -/
def bMaxL : List D → Sto → Option (D × Sto)
  | [d], st => (lstD st d).bind fun ds => (intsD ds).bind fun ns => ns.max?.map fun m => (.int m, st)
  | _, _ => none
def bMinL : List D → Sto → Option (D × Sto)
  | [d], st => (lstD st d).bind fun ds => (intsD ds).bind fun ns => ns.min?.map fun m => (.int m, st)
  | _, _ => none
theorem cd_maxL : CallD K (rMax K) bMaxL := by
  intro μ H st st' xs ds d Q rs r e q
  unfold bMaxL at e
  split at e
  · obtain ⟨x, rfl, rx⟩ := reps1 r
    obtain ⟨es, e1, e2⟩ := Option.bind_eq_some_iff.mp e
    obtain ⟨ns, e3, e4⟩ := Option.bind_eq_some_iff.mp e2
    obtain ⟨m, e5, e6⟩ := Option.map_eq_some_iff.mp e4
    cases e6
    obtain ⟨p, vs, rfl, hs, rr⟩ := lstD_rep rs rx e1
    refine ⟨p, ns, rfl, by rw [← ints_rep rr e3]; exact hs, ?_, fun m' hm hle => ?_⟩
    · cases ns with
      | nil => cases e5
      | cons a b => exact Nat.succ_pos _
    · have hm2 := List.max?_eq_some_iff.mp e5
      have : m' = m := Int.le_antisymm (hm2.2 m' hm) (hle m hm2.1)
      rw [this]
      exact q _ H μ rs .refl (.int _)
  · cases e
theorem cd_minL : CallD K (rMin K) bMinL := by
  intro μ H st st' xs ds d Q rs r e q
  unfold bMinL at e
  split at e
  · obtain ⟨x, rfl, rx⟩ := reps1 r
    obtain ⟨es, e1, e2⟩ := Option.bind_eq_some_iff.mp e
    obtain ⟨ns, e3, e4⟩ := Option.bind_eq_some_iff.mp e2
    obtain ⟨m, e5, e6⟩ := Option.map_eq_some_iff.mp e4
    cases e6
    obtain ⟨p, vs, rfl, hs, rr⟩ := lstD_rep rs rx e1
    refine ⟨p, ns, rfl, by rw [← ints_rep rr e3]; exact hs, ?_, fun m' hm hle => ?_⟩
    · cases ns with
      | nil => cases e5
      | cons a b => exact Nat.succ_pos _
    · have hm2 := List.min?_eq_some_iff.mp e5
      have : m' = m := Int.le_antisymm (hle m hm2.1) (hm2.2 m' hm)
      rw [this]
      exact q _ H μ rs .refl (.int _)
  · cases e

/-! ### isinstance -/
def typD : D → String
  | .non => "NoneType"
  | .bl _ => "bool"
  | .int _ => "int"
  | .str _ => "str"
  | .tup _ => "tuple"
  | .ref _ => "list"
  | .fz _ => "list"
/-- isinstance(x, T) for T one of int, bool, str, tuple, list -/
def isiB (T : String) : D → Bool
  | .non => false
  | .bl _ => T == "bool" || T == "int"
  | .int _ => T == "int"
  | .str _ => T == "str"
  | .tup _ => T == "tuple"
  | .ref _ => T == "list"
  | .fz _ => T == "list"
def dIsi (T : String) (f : DF) : DF := fun ρ st => (f ρ st).bind fun p => match p.1 with
  | .ref n => if n < p.2.length then some (.bl (isiB T p.1), p.2) else none
  | d => some (.bl (isiB T d), p.2)
theorem typ_of (rs : RelS K μ H st) {x : V} {d : D} (r : Rep K μ H x d) (h : ∀ n, d = .ref n → n < st.length) : TyX K H x (.type (typD d)) := by
  cases r with
  | non => exact .base .non
  | bl b => exact .base (.bl b)
  | int i => exact .base (.int i)
  | str z => exact .base (.str z)
  | tup h1 h2 =>
    rcases h1 with (h1 | ⟨o, h1⟩) | ⟨o, its, n, h1, h2, _⟩
    · exact .base (.tup h1)
    · exact .fTuple h1
    · exact .kTuple h1 h2
  | @ref a n h1 =>
    have hn : n < st.length := h n rfl
    obtain ⟨vs, h2, _⟩ := (rs.ok n a _ h1 (List.getElem?_eq_getElem hn)).sq
    rcases h2 with (h2 | ⟨o, h2⟩) | ⟨o, its, m, h2, h3, _⟩
    · exact .base (.lst h2)
    · exact .base (.frz h2)
    · exact .kList h2 h3
  | fz h1 h3 =>
    rcases h1.sq with (h2 | ⟨o, h2⟩) | ⟨o, its, m, h2, h3, _⟩
    · exact .base (.lst h2)
    · exact .base (.frz h2)
    · exact .kList h2 h3
/-- the classes asked for -/
def isT (T : String) : Prop := T = "bool" ∨ T = "int" ∨ T = "str" ∨ T = "tuple" ∨ T = "list"
theorem kit_all {T : String} (h : isT T) (d : D) : L2.kitB (typD d) T = some (isiB T d) := by
  rcases h with rfl | rfl | rfl | rfl | rfl <;> cases d <;> simp only [typD, isiB] <;> decide +kernel
theorem dIsi_le {f : DF} {T : String} (hT : isT T) {σ : L2.St} {Q : VK} (h : tD K (dIsi T f) σ H Q) : tCB (rIsi K) (tCons (tD K f) (tCons (tC (.ty T)) tNil)) σ H Q := by
  obtain ⟨ρ, st, μ, rs, re, d, st', e, q⟩ := h
  obtain ⟨p, e1, e2⟩ := Option.bind_eq_some_iff.mp e
  obtain ⟨d1, st1⟩ := p
  refine ⟨ρ, st, μ, rs, re, d1, st1, e1, fun x H1 μ1 rs1 s1 r1 => ?_⟩
  have go : (∀ n, d1 = .ref n → n < st1.length) → some (D.bl (isiB T d1), st1) = some (d, st') → rIsi K [x, .ty T] H1 Q := fun hr e => by
    cases e
    exact ⟨x, .ty T, _, _, _, rfl, .ty T, typ_of rs1 r1 hr, L2.kit_ty (kit_all hT d1), q _ H1 μ1 rs1 s1 (.bl _)⟩
  cases d1 with
  | ref n =>
    have e' : (if n < st1.length then some (D.bl (isiB T (.ref n)), st1) else none) = some (d, st') := e2
    split at e'
    · rename_i hn
      exact go (fun m z => by cases z; exact hn) e'
    · cases e'
  | non => exact go (fun m z => by cases z) e2
  | bl b => exact go (fun m z => by cases z) e2
  | int i => exact go (fun m z => by cases z) e2
  | str z => exact go (fun m z => by cases z) e2
  | tup xs => exact go (fun m z => by cases z) e2
  | fz xs => exact go (fun m z => by cases z) e2
end
end
end DL
end

section
set_option Elab.async false
set_option linter.all false
set_option maxRecDepth 100000
set_option maxHeartbeats 4000000
/-! The data layer, part D: statements, loops, comprehensions, defs. -/
namespace DL
open PySem PySem.Spec PyProof.Rows L2

inductive Fl where
  | nx | rt (d : D) | bk | ct
abbrev DG := DEnv → Sto → Option (Fl × DEnv × Sto)
def PostG (K : PySem.W.Frag) (μ : List Addr) (H : Hp) (ρ' : DEnv) (st' : Sto) (Dn : Ends) : Fl → Prop
  | .nx => ∀ (σ' : L2.St) (H' : Hp) (μ' : List Addr), RelS K μ' H' st' → RelE K μ' σ' H' ρ' → Step μ H μ' H' → Dn.nx σ' H'
  | .bk => ∀ (σ' : L2.St) (H' : Hp) (μ' : List Addr), RelS K μ' H' st' → RelE K μ' σ' H' ρ' → Step μ H μ' H' → Dn.bk σ' H'
  | .ct => ∀ (σ' : L2.St) (H' : Hp) (μ' : List Addr), RelS K μ' H' st' → RelE K μ' σ' H' ρ' → Step μ H μ' H' → Dn.ct σ' H'
  | .rt d => ∀ (v : V) (H' : Hp) (μ' : List Addr), RelS K μ' H' st' → Step μ H μ' H' → Rep K μ' H' v d → Dn.rt v H'
def tG (K : PySem.W.Frag) (g : DG) : TS := fun Dn σ H => ∃ (ρ : DEnv) (st : Sto) (μ : List Addr), RelS K μ H st ∧ RelE K μ σ H ρ ∧ ∃ (fl : Fl) (ρ' : DEnv) (st' : Sto), g ρ st = some (fl, ρ', st') ∧ PostG K μ H ρ' st' Dn fl
abbrev DS (X : Cx) (s : Stmt) (g : DG) : Prop := PS X s (tG X.K g)
abbrev DSs (X : Cx) (s : List Stmt) (g : DG) : Prop := PSs X s (tG X.K g)
theorem impS {X : Cx} {e : Stmt} {t t' : TS} (h : PS X e t) (k : ∀ Dn σ H, t' Dn σ H → t Dn σ H) : PS X e t' := ⟨fun pins s σ H Dn I q => h.run pins s σ H Dn I (k Dn σ H q)⟩
theorem impSs {X : Cx} {e : List Stmt} {t t' : TS} (h : PSs X e t) (k : ∀ Dn σ H, t' Dn σ H → t Dn σ H) : PSs X e t' := ⟨fun pins s σ H Dn I q => h.run pins s σ H Dn I (k Dn σ H q)⟩
theorem PostG.after {K : PySem.W.Frag} {μ μ1 : List Addr} {H H1 : Hp} {ρ' : DEnv} {st' : Sto} {Dn : Ends} {fl : Fl} (q : PostG K μ H ρ' st' Dn fl) (s : Step μ H μ1 H1) : PostG K μ1 H1 ρ' st' Dn fl := by
  cases fl with
  | nx => exact fun σ' H' μ' rs re s' => q σ' H' μ' rs re (s.trans s')
  | bk => exact fun σ' H' μ' rs re s' => q σ' H' μ' rs re (s.trans s')
  | ct => exact fun σ' H' μ' rs re s' => q σ' H' μ' rs re (s.trans s')
  | rt d => exact fun v H' μ' rs s' r => q v H' μ' rs (s.trans s') r

def gNext : DG := fun ρ st => some (.nx, ρ, st)
def gBrk : DG := fun ρ st => some (.bk, ρ, st)
def gCont : DG := fun ρ st => some (.ct, ρ, st)
def gSeq (g1 g2 : DG) : DG := fun ρ st => (g1 ρ st).bind fun r => match r.1 with
  | .nx => g2 r.2.1 r.2.2
  | _ => some r
def gIf (c : DFb) (g1 g2 : DG) : DG := fun ρ st => (c ρ st).bind fun p => if p.1 = true then g1 ρ p.2 else g2 ρ p.2
def gRet (f : DF) : DG := fun ρ st => (f ρ st).map fun p => (.rt p.1, ρ, p.2)
def gDrop (f : DF) : DG := fun ρ st => (f ρ st).map fun p => (.nx, ρ, p.2)
def gSet (i : Nat) (f : DF) : DG := fun ρ st => (f ρ st).map fun p => (.nx, ρ.set i (some p.1), p.2)
def gAsg (f : DF) (g : D → DEnv → Option DEnv) : DG := fun ρ st => (f ρ st).bind fun p => (g p.1 ρ).map fun ρ' => (.nx, ρ', p.2)
/-- a, b = x, y -/
def gPar (i j : Nat) (f : DFs) : DG := fun ρ st => (f ρ st).bind fun p => match p.1 with
  | [a, b] => some (.nx, (ρ.set i (some a)).set j (some b), p.2)
  | _ => none
/-- x op= e of ints -/
def gAug (i : Nat) (o : D → D → Sto → Option (D × Sto)) (f : DF) : DG := fun ρ st => match ρ[i]? with
  | some (some a) => (f ρ st).bind fun p => (o a p.1 p.2).map fun q => (.nx, ρ.set i (some q.1), q.2)
  | _ => none

section
variable {X : Cx} {K : PySem.W.Frag} {st : Stmt} {rest : List Stmt} {g g1 g2 : DG} {e : Expr} {f : DF} {pos : Pos}
theorem gs_nil : DSs X [] gNext := impSs pss_nil fun Dn σ H h => by
  obtain ⟨ρ, st, μ, rs, re, fl, ρ', st', e, q⟩ := h
  cases e
  exact q σ H μ rs re .refl
theorem g_pass : DS X (.Pass pos) gNext := impS ps_pass fun Dn σ H h => by
  obtain ⟨ρ, st, μ, rs, re, fl, ρ', st', e, q⟩ := h
  cases e
  exact q σ H μ rs re .refl
theorem g_break : DS X (.Break pos) gBrk := impS ps_break fun Dn σ H h => by
  obtain ⟨ρ, st, μ, rs, re, fl, ρ', st', e, q⟩ := h
  cases e
  exact q σ H μ rs re .refl
theorem g_continue : DS X (.Continue pos) gCont := impS ps_continue fun Dn σ H h => by
  obtain ⟨ρ, st, μ, rs, re, fl, ρ', st', e, q⟩ := h
  cases e
  exact q σ H μ rs re .refl
theorem gs_one (h : DS X st g) : DSs X [st] g := pss_one h
theorem gSeq_le {Dn : Ends} {σ : L2.St} {H : Hp} (h : tG K (gSeq g1 g2) Dn σ H) : tSeq (tG K g1) (tG K g2) Dn σ H := by
  obtain ⟨ρ, st, μ, rs, re, fl, ρ', st', e, q⟩ := h
  obtain ⟨r, e1, e2⟩ := Option.bind_eq_some_iff.mp e
  obtain ⟨fl1, ρ1, st1⟩ := r
  refine ⟨ρ, st, μ, rs, re, fl1, ρ1, st1, e1, ?_⟩
  cases fl1 with
  | nx => exact fun σ1 H1 μ1 rs1 re1 s1 => ⟨ρ1, st1, μ1, rs1, re1, fl, ρ', st', e2, q.after s1⟩
  | bk => cases e2; exact q
  | ct => cases e2; exact q
  | rt d => cases e2; exact q
theorem gs_cons (h1 : DS X st g1) (h2 : DSs X rest g2) : DSs X (st :: rest) (gSeq g1 g2) := impSs (pss_cons h1 h2) fun _ _ _ h => gSeq_le h
theorem g_if {c : Expr} {a b : List Stmt} {gc : DFb} (hc : DT X c gc) (ha : DSs X a g1) (hb : DSs X b g2) : DS X (.If c a b pos) (gIf gc g1 g2) := impS (ps_if hc ha hb) fun Dn σ H h => by
  obtain ⟨ρ, st, μ, rs, re, fl, ρ', st', e, q⟩ := h
  obtain ⟨p, e1, e2⟩ := Option.bind_eq_some_iff.mp e
  refine ⟨ρ, st, μ, rs, re, p.1, p.2, e1, fun H1 μ1 rs1 s1 => ?_⟩
  obtain ⟨k, st1⟩ := p
  cases k with
  | true => exact iteT ⟨ρ, st1, μ1, rs1, re.step s1, fl, ρ', st', e2, q.after s1⟩
  | false => exact iteF ⟨ρ, st1, μ1, rs1, re.step s1, fl, ρ', st', e2, q.after s1⟩
theorem g_ret (he : DE X e f) : DS X (.Return (some e) pos) (gRet f) := impS (ps_ret he) fun Dn σ H h => by
  obtain ⟨ρ, st, μ, rs, re, fl, ρ', st', e, q⟩ := h
  obtain ⟨p, e1, e2⟩ := Option.map_eq_some_iff.mp e
  cases e2
  exact ⟨ρ, st, μ, rs, re, p.1, p.2, e1, fun v H1 μ1 rs1 s1 r1 => q v H1 μ1 rs1 s1 r1⟩
theorem g_retN : DS X (.Return none pos) (gRet (dC .non)) := impS ps_retN fun Dn σ H h => by
  obtain ⟨ρ, st, μ, rs, re, fl, ρ', st', e, q⟩ := h
  cases e
  exact q .non H μ rs .refl .non
theorem g_expr (he : DE X e f) (hs : swapsWith e none pos.line X.env = pure false := by rfl) : DS X (.Expr e pos) (gDrop f) := impS (ps_expr he hs) fun Dn σ H h => by
  obtain ⟨ρ, st, μ, rs, re, fl, ρ', st', e, q⟩ := h
  obtain ⟨p, e1, e2⟩ := Option.map_eq_some_iff.mp e
  cases e2
  exact ⟨ρ, st, μ, rs, re, p.1, p.2, e1, fun v H1 μ1 rs1 s1 r1 => q σ H1 μ1 rs1 (re.step s1) s1⟩
theorem g_doc {x : Str} {j : Nat} {pos' : Pos} : DS X (.Expr (.Constant (.str x) j pos) pos') gNext := impS ps_doc fun Dn σ H h => by
  obtain ⟨ρ, st, μ, rs, re, fl, ρ', st', e, q⟩ := h
  cases e
  exact q σ H μ rs re .refl
theorem gSet_le {i : Nat} {Dn : Ends} {σ : L2.St} {H : Hp} (h : tG K (gSet i f) Dn σ H) : tAsg (tD K f) (gName i) Dn σ H := by
  obtain ⟨ρ, st, μ, rs, re, fl, ρ', st', e, q⟩ := h
  obtain ⟨p, e1, e2⟩ := Option.map_eq_some_iff.mp e
  cases e2
  exact ⟨ρ, st, μ, rs, re, p.1, p.2, e1, fun v H1 μ1 rs1 s1 r1 => q _ H1 μ1 rs1 ((re.step s1).set i r1) s1⟩
theorem g_set (i : Nat) {x : Str} {pos' : Pos} (hN : X.N.Nodup) (hi : X.N[i]? = some x) (hx : Loc X.env.scope x) (he : DE X e f) (hs : swapsWith e (some (.Name x pos')) pos.line X.env = pure false := by rfl) (hf : X.fn x = true ∨ X.env.scope.names.lookup x = some .local := by first | exact .inl rfl | exact .inr rfl | assumption) :
    DS X (.Assign [.Name x pos'] e pos) (gSet i f) := impS (ps_set hN hi hx he hs hf) fun _ _ _ h => gSet_le h

/-! ### targets -/
def tT (K : PySem.W.Frag) (js : List Nat) (g : D → DEnv → Option DEnv) : TG := fun v σ H Q => ∃ (ρ : DEnv) (st : Sto) (μ : List Addr) (d : D), RelS K μ H st ∧ RelE K μ σ H ρ ∧ Rep K μ H v d ∧ ∃ ρ' : DEnv, g d ρ = some ρ' ∧
  ∀ σ' : L2.St, RelE K μ σ' H ρ' → (∀ j, j ∉ js → σ'[j]? = σ[j]?) → σ'.length = σ.length → Q σ' H
def tTs (K : PySem.W.Frag) (js : List Nat) (g : List D → DEnv → Option DEnv) : TGs := fun vs σ H Q => ∃ (ρ : DEnv) (st : Sto) (μ : List Addr) (ds : List D), RelS K μ H st ∧ RelE K μ σ H ρ ∧ Reps K μ H vs ds ∧ ∃ ρ' : DEnv, g ds ρ = some ρ' ∧
  ∀ σ' : L2.St, RelE K μ σ' H ρ' → (∀ j, j ∉ js → σ'[j]? = σ[j]?) → σ'.length = σ.length → Q σ' H
abbrev DP (X : Cx) (tg : Expr) (js : List Nat) (g : D → DEnv → Option DEnv) : Prop := PG X tg (tT X.K js g)
abbrev DPs (X : Cx) (tgs : List Expr) (js : List Nat) (g : List D → DEnv → Option DEnv) : Prop := PGs X tgs (tTs X.K js g)
theorem impG {tg : Expr} {t t' : TG} (h : PG X tg t) (k : ∀ v σ H Q, t' v σ H Q → t v σ H Q) : PG X tg t' := ⟨fun pins s σ H v u Q I r q => h.run pins s σ H v u Q I r (k v σ H Q q)⟩
theorem impGs {tg : List Expr} {t t' : TGs} (h : PGs X tg t) (k : ∀ v σ H Q, t' v σ H Q → t v σ H Q) : PGs X tg t' := ⟨fun pins s σ H v u Q I r q => h.run pins s σ H v u Q I r (k v σ H Q q)⟩
def nName (i : Nat) : D → DEnv → Option DEnv := fun d ρ => some (ρ.set i (some d))
def nNil : List D → DEnv → Option DEnv := fun ds ρ => match ds with
  | [] => some ρ
  | _ => none
def nCons (g : D → DEnv → Option DEnv) (gs : List D → DEnv → Option DEnv) : List D → DEnv → Option DEnv := fun ds ρ => match ds with
  | d :: r => (g d ρ).bind fun ρ' => gs r ρ'
  | [] => none
def nTup (n : Nat) (gs : List D → DEnv → Option DEnv) : D → DEnv → Option DEnv := fun d ρ => match d with
  | .tup ds => if ds.length = n then gs ds ρ else none
  | _ => none
theorem t_name (i : Nat) {x : Str} (hN : X.N.Nodup) (hi : X.N[i]? = some x) (hx : Loc X.env.scope x) (hf : X.fn x = true ∨ X.env.scope.names.lookup x = some .local := by first | exact .inl rfl | exact .inr rfl | assumption) : DP X (.Name x pos) [i] (nName i) :=
  impG (pg_name hN hi hx hf) fun v σ H Q h => by
    obtain ⟨ρ, st, μ, d, rs, re, r, ρ', e, q⟩ := h
    cases e
    exact q _ (re.set i r) (fun j hj => List.getElem?_set_ne fun z => hj (by rw [z]; exact List.mem_singleton.mpr rfl)) List.length_set
theorem ts_nil : DPs X [] [] nNil := impGs pgs_nil fun vs σ H Q h => by
  obtain ⟨ρ, st, μ, ds, rs, re, r, ρ', e, q⟩ := h
  cases r with
  | nil => cases e; exact ⟨rfl, q σ re (fun _ _ => rfl) rfl⟩
  | cons _ _ => cases e
theorem ts_cons {t : Expr} {ts : List Expr} {js ks : List Nat} {g : D → DEnv → Option DEnv} {gs : List D → DEnv → Option DEnv} (h1 : DP X t js g) (h2 : DPs X ts ks gs)
    (hs : (assignEach (t :: ts) X.env).map (·.2) = assign t X.env :: (assignEach ts X.env).map (·.2) := by rfl) : DPs X (t :: ts) (js ++ ks) (nCons g gs) := impGs (pgs_cons h1 h2 hs) fun vs σ H Q h => by
  obtain ⟨ρ, st, μ, ds, rs, re, r, ρ', e, q⟩ := h
  cases r with
  | nil => cases e
  | @cons v vr d dr r1 r2 =>
    obtain ⟨ρ1, e1, e2⟩ := Option.bind_eq_some_iff.mp e
    refine ⟨v, vr, rfl, ρ, st, μ, d, rs, re, r1, ρ1, e1, fun σ1 re1 k1 l1 => ⟨ρ1, st, μ, dr, rs, re1, r2, ρ', e2, fun σ2 re2 k2 l2 => q σ2 re2 (fun j hj => ?_) (l2.trans l1)⟩⟩
    rw [k2 j fun z => hj (List.mem_append_right _ z), k1 j fun z => hj (List.mem_append_left _ z)]
theorem t_tup {es : List Expr} {k n : Nat} {js : List Nat} {gs : List D → DEnv → Option DEnv} (hc : X.calm = true) (h : DPs X es js gs) (hn : (assignEach es X.env).length = n := by rfl) (hst : (assignEach es X.env).findIdx? (·.1) = none := by rfl) :
    DP X (.Tuple es k pos) js (nTup n gs) := impG (pg_tup hc h hn hst) fun v σ H Q h => by
  obtain ⟨ρ, st, μ, d, rs, re, r, ρ', e, q⟩ := h
  cases r with
  | @tup a vs ds h1 h2 =>
    have e' : (if ds.length = n then gs ds ρ else none) = some ρ' := e
    split at e'
    · rename_i hl
      exact ⟨a, vs, rfl, h1, by rw [h2.length, hl], ρ, st, μ, ds, rs, re, h2, ρ', e', q⟩
    · cases e'
  | _ => cases e
theorem g_asg {tg : Expr} {js : List Nat} {g : D → DEnv → Option DEnv} (he : DE X e f) (hg : DP X tg js g) (hs : swapsWithSole [tg] e pos.line X.env = pure false := by rfl) (hw : swappedStores [tg] e X.env = pure none := by rfl)
    (h1 : (assignEach [tg] X.env).map (·.2) = [assign tg X.env] := by rfl) : DS X (.Assign [tg] e pos) (gAsg f g) := impS (ps_asg he hg hs hw h1) fun Dn σ H h => by
  obtain ⟨ρ, st, μ, rs, re, fl, ρ', st', e, q⟩ := h
  obtain ⟨p, e1, e2⟩ := Option.bind_eq_some_iff.mp e
  obtain ⟨ρ1, e3, e4⟩ := Option.map_eq_some_iff.mp e2
  cases e4
  exact ⟨ρ, st, μ, rs, re, p.1, p.2, e1, fun v H1 μ1 rs1 s1 r1 => ⟨ρ, p.2, μ1, p.1, rs1, re.step s1, r1, ρ', e3, fun σ' re' _ _ => q σ' H1 μ1 rs1 re' s1⟩⟩
theorem g_par (i j : Nat) {x y : Str} {a b : Expr} {ga : DFs} {px py pt : Pos} {kt k2 : Nat} {pt2 : Pos} (hc : X.calm = true) (hN : X.N.Nodup) (hi : X.N[i]? = some x) (hj : X.N[j]? = some y) (hij : i ≠ j)
    (hx : X.env.scope.names.lookup x = some .local) (hy : X.env.scope.names.lookup y = some .local) (ha : DAs X [a, b] ga)
    (hw : swappedStores [.Tuple [.Name x px, .Name y py] kt pt] (.Tuple [a, b] k2 pt2) X.env = pure (some [x, y]))
    (hs : swapsWithSole [.Tuple [.Name x px, .Name y py] kt pt] (.Tuple [a, b] k2 pt2) pos.line X.env = pure false := by rfl) :
    DS X (.Assign [.Tuple [.Name x px, .Name y py] kt pt] (.Tuple [a, b] k2 pt2) pos) (gPar i j ga) := impS (ps_par hc hN hi hj hij hx hy ha hw hs) fun Dn σ H h => by
  obtain ⟨ρ, st, μ, rs, re, fl, ρ', st', e, q⟩ := h
  obtain ⟨p, e1, e2⟩ := Option.bind_eq_some_iff.mp e
  obtain ⟨ds, st1⟩ := p
  refine ⟨ρ, st, μ, rs, re, ds, st1, e1, fun vs H1 μ1 rs1 s1 r1 => ?_⟩
  match ds, r1, e2 with
  | [], _, e2 => cases e2
  | [_], _, e2 => cases e2
  | _ :: _ :: _ :: _, _, e2 => cases e2
  | [d1, d2], r1, e2 =>
    obtain ⟨v, w, rfl, ra, rb⟩ := reps2 r1
    cases e2
    exact ⟨v, w, rfl, q _ H1 μ1 rs1 (((re.step s1).set i ra).set j rb) s1⟩
theorem g_aug (i : Nat) {x : Str} {op : Operator} {r : R2} {o : D → D → Sto → Option (D × Sto)} {pos' : Pos} (hN : X.N.Nodup) (hi : X.N[i]? = some x) (hx : Loc X.env.scope x) (he : DE X e f) (ho : OpR X (inplaceOp op) r) (hd : OpD X.K r o)
    (hf : X.fn x = true ∨ X.env.scope.names.lookup x = some .local := by first | exact .inl rfl | exact .inr rfl | assumption) : DS X (.AugAssign (.Name x pos') op e pos) (gAug i o f) := impS (ps_aug (ti := fun a b H Q => r a b H Q) hN hi hx he ho hf) fun Dn σ H h => by
  obtain ⟨ρ, st, μ, rs, re, fl, ρ', st', e, q⟩ := h
  unfold gAug at e
  split at e
  · rename_i a ea
    obtain ⟨p, e1, e2⟩ := Option.bind_eq_some_iff.mp e
    obtain ⟨p2, e3, e4⟩ := Option.map_eq_some_iff.mp e2
    cases e4
    obtain ⟨x, ex, rx⟩ := re.at_ i a ea
    refine ⟨x, ex, ρ, st, μ, rs, re, p.1, p.2, e1, fun v H1 μ1 rs1 s1 r1 => ?_⟩
    exact hd μ1 H1 p.2 _ x v a p.1 p2.1 _ rs1 (s1.rep _ _ rx) r1 e3 fun z H2 μ2 rs2 s2 r2 => q _ H2 μ2 rs2 (((re.step s1).step s2).set i r2) (s1.trans s2)
  · cases e
end

/-! ### while -/
def whileG (c : DFb) (g : DG) : Nat → DG
  | 0, _, _ => none
  | n + 1, ρ, st => (c ρ st).bind fun p => if p.1 = true then (g ρ p.2).bind fun r => match r.1 with
    | .nx => whileG c g n r.2.1 r.2.2
    | .ct => whileG c g n r.2.1 r.2.2
    | .bk => some (.nx, r.2.1, r.2.2)
    | .rt d => some (.rt d, r.2.1, r.2.2) else some (.nx, ρ, p.2)
def gWhile (fuel : DEnv → Sto → Nat) (c : DFb) (g : DG) : DG := fun ρ st => whileG c g (fuel ρ st) ρ st
theorem g_while {X : Cx} {c : Expr} {body : List Stmt} {gc : DFb} {g : DG} {pos : Pos} (fuel : DEnv → Sto → Nat) (hp : PassesOwn (model X.prog X.w) X.A X.env X.xe) (hc : DT X c gc) (hb : DSs X body g) : DS X (.While c body [] pos) (gWhile fuel gc g) :=
  impS (ps_while hp hc hb) fun Dn σ H h => by
    obtain ⟨ρ, st, μ, rs, re, fl, ρ', st', e, q⟩ := h
    refine ⟨fun m σ1 H1 => ∃ (ρ1 : DEnv) (st1 : Sto) (μ1 : List Addr), RelS X.K μ1 H1 st1 ∧ RelE X.K μ1 σ1 H1 ρ1 ∧ Step μ H μ1 H1 ∧ whileG gc g m ρ1 st1 = some (fl, ρ', st'), ⟨fuel ρ st, ρ, st, μ, rs, re, .refl, e⟩, ?_⟩
    rintro m σ1 H1 ⟨ρ1, st1, μ1, rs1, re1, s1, e1⟩
    cases m with
    | zero => cases e1
    | succ m =>
      obtain ⟨p, e2, e3⟩ := Option.bind_eq_some_iff.mp e1
      obtain ⟨k, st2⟩ := p
      refine ⟨ρ1, st1, μ1, rs1, re1, k, st2, e2, fun H2 μ2 rs2 s2 => ?_⟩
      cases k with
      | false => cases e3; exact iteF (q _ H2 μ2 rs2 (re1.step s2) (s1.trans s2))
      | true =>
        obtain ⟨r, e4, e5⟩ := Option.bind_eq_some_iff.mp e3
        obtain ⟨fl3, ρ3, st3⟩ := r
        refine iteT ⟨fun σ4 H4 => ∃ (ρ4 : DEnv) (st4 : Sto) (μ4 : List Addr), RelS X.K μ4 H4 st4 ∧ RelE X.K μ4 σ4 H4 ρ4 ∧ Step μ H μ4 H4 ∧ whileG gc g m ρ4 st4 = some (fl, ρ', st'), fun σ4 H4 h4 => ⟨m, Nat.lt_succ_self m, h4⟩, ρ1, st2, μ2, rs2, re1.step s2, fl3, ρ3, st3, e4, ?_⟩
        cases fl3 with
        | nx => exact fun σ4 H4 μ4 rs4 re4 s4 => ⟨ρ3, st3, μ4, rs4, re4, (s1.trans s2).trans s4, e5⟩
        | ct => exact fun σ4 H4 μ4 rs4 re4 s4 => ⟨ρ3, st3, μ4, rs4, re4, (s1.trans s2).trans s4, e5⟩
        | bk => cases e5; exact fun σ4 H4 μ4 rs4 re4 s4 => q σ4 H4 μ4 rs4 re4 ((s1.trans s2).trans s4)
        | rt d => cases e5; exact fun v H4 μ4 rs4 s4 r4 => q v H4 μ4 rs4 ((s1.trans s2).trans s4) r4

/-! ### what is walked -/
inductive Src where
  | seq (ds : List D) | cell (n : Nat)
def Src.items (st : Sto) : Src → Option (List D)
  | .seq ds => some ds
  | .cell n => match st[n]? with
    | some (.lst xs) => some xs
    | none => none
def ItOk (K : PySem.W.Frag) (μ : List Addr) (H : Hp) (J : It) (src : Src) : Prop :=
  ∀ (μ' : List Addr) (H' : Hp) (st' : Sto), Step μ H μ' H' → RelS K μ' H' st' → ∀ ds, src.items st' = some ds → ∀ i : Nat,
    (∀ d, ds[i]? = some d → J.go i H' ∧ ∀ x H'', J.yld i H' x H'' → RelS K μ' H'' st' ∧ Step μ' H' μ' H'' ∧ Rep K μ' H'' x d) ∧ (ds.length ≤ i → J.stop i H')
abbrev DI := DEnv → Sto → Option (Src × Sto)
def tI (K : PySem.W.Frag) (f : DI) : TI := fun σ H R => ∃ (ρ : DEnv) (st : Sto) (μ : List Addr), RelS K μ H st ∧ RelE K μ σ H ρ ∧ ∃ (src : Src) (st' : Sto), f ρ st = some (src, st') ∧
  ∀ (J : It) (H' : Hp) (μ' : List Addr), RelS K μ' H' st' → Step μ H μ' H' → ItOk K μ' H' J src → R J H'
abbrev DIx (X : Cx) (tg e : Expr) (f : DI) : Prop := PI X tg e (tI X.K f)
theorem impI {X : Cx} {tg e : Expr} {t t' : TI} (h : PI X tg e t) (k : ∀ σ H R, t' σ H R → t σ H R) : PI X tg e t' := ⟨fun pins s σ H R I q => h.run pins s σ H R I (k σ H R q)⟩
section
variable {K : PySem.W.Frag} {μ : List Addr} {H : Hp} {st : Sto}
theorem items_sq (rs : RelS K μ H st) {n : Nat} {a : Addr} {ds : List D} (h : μ[n]? = some a) (e : (Src.cell n).items st = some ds) : ∃ vs, SqL K H a vs ∧ Reps K μ H vs ds := by
  obtain ⟨b, vs, e1, h1, h2⟩ := lstD_rep rs (.ref h) (d := .ref n) e
  cases e1
  exact ⟨vs, h1, h2⟩
theorem it_list {n : Nat} {a : Addr} (h : μ[n]? = some a) : ItOk K μ H (Itl K a) (.cell n) := by
  intro μ' H' st' s rs ds e i
  obtain ⟨vs, h1, h2⟩ := items_sq rs (s.at h) e
  refine ⟨fun d hd => ?_, fun hl => ⟨vs, h1, by rw [h2.length]; exact hl⟩⟩
  obtain ⟨v, e1, r⟩ := h2.get hd
  refine ⟨⟨vs, v, h1, e1⟩, fun x H'' y => ?_⟩
  obtain ⟨rfl, y⟩ := y
  have ex := y vs h1
  rw [e1] at ex
  cases ex
  exact ⟨rs, .refl, r⟩
theorem it_tup {a : Addr} {vs : List V} {ds : List D} (h : SqT K H a vs) (r : Reps K μ H vs ds) : ItOk K μ H (Itt K a) (.seq ds) := by
  intro μ' H' st' s rs ds' e i
  cases e
  have h1 := s.tup h
  have h2 := s.reps _ _ r
  refine ⟨fun d hd => ?_, fun hl => ⟨vs, h1, by rw [h2.length]; exact hl⟩⟩
  obtain ⟨v, e1, r⟩ := h2.get hd
  refine ⟨⟨vs, v, h1, e1⟩, fun x H'' y => ?_⟩
  obtain ⟨rfl, y⟩ := y
  have ex := y vs h1
  rw [e1] at ex
  cases ex
  exact ⟨rs, .refl, r⟩
theorem it_frz {a : Addr} {vs : List V} {ds : List D} (h : Frz K H a vs) (r : Reps K μ H vs ds) : ItOk K μ H (Itl K a) (.seq ds) := by
  intro μ' H' st' s rs ds' e i
  cases e
  have h1 := (s.frz h).sq
  have h2 := s.reps _ _ r
  refine ⟨fun d hd => ?_, fun hl => ⟨vs, h1, by rw [h2.length]; exact hl⟩⟩
  obtain ⟨v, e1, r⟩ := h2.get hd
  refine ⟨⟨vs, v, h1, e1⟩, fun x H'' y => ?_⟩
  obtain ⟨rfl, y⟩ := y
  have ex := y vs h1
  rw [e1] at ex
  cases ex
  exact ⟨rs, .refl, r⟩
def rngD (lo : Int) (n : Nat) : List D := (List.range n).map fun i => .int (lo + (i : Nat))
theorem it_rng {lo : Int} {n : Nat} : ItOk K μ H (Itr lo n) (.seq (rngD lo n)) := by
  intro μ' H' st' s rs ds' e i
  cases e
  refine ⟨fun d hd => ?_, fun hl => show n ≤ i by simpa [rngD] using hl⟩
  unfold rngD at hd
  rw [List.getElem?_map] at hd
  obtain ⟨j, e1, e2⟩ := Option.map_eq_some_iff.mp hd
  obtain ⟨hl, e3⟩ := List.getElem?_eq_some_iff.mp e1
  have hi : i < n := by simpa using hl
  have ej : j = i := by rw [← e3]; simp
  subst ej
  refine ⟨hi, fun x H'' y => ?_⟩
  obtain ⟨rfl, rfl⟩ := y
  rw [← e2]
  exact ⟨rs, .refl, .int _⟩
end
/-- a list or a tuple -/
def srcOf (f : DF) : DI := fun ρ st => (f ρ st).bind fun p => match p.1 with
  | .tup ds => some (.seq ds, p.2)
  | .ref n => if n < p.2.length then some (.cell n, p.2) else none
  | .fz ds => some (.seq ds, p.2)
  | _ => none
def RngOk (j : Int) : Prop := -(2 ^ 62) ≤ j ∧ j < 2 ^ 62
noncomputable instance (j : Int) : Decidable (RngOk j) := Classical.propDecidable _
theorem rngOk {j : Int} (h : decide (-(2 ^ 62) ≤ j ∧ j < 2 ^ 62) = true) : RngOk j := by
  have z := of_decide_eq_true h
  exact z
noncomputable def srcRng1 (f : DFs) : DI := fun ρ st => (f ρ st).bind fun p => match p.1 with
  | [.int j] => if RngOk j then some (.seq (rngD 0 j.toNat), p.2) else none
  | _ => none
noncomputable def srcRng2 (f : DFs) : DI := fun ρ st => (f ρ st).bind fun p => match p.1 with
  | [.int i, .int j] => if RngOk i ∧ RngOk j then some (.seq (rngD i (j - i).toNat), p.2) else none
  | _ => none
section
variable {X : Cx} {tg : Expr}
def iSeqA (K : PySem.W.Frag) (tl : TE) : TI := fun σ H R => tl σ H fun x H1 => ∃ a, x = .ref a ∧ (((∃ xs, SqL K H1 a xs) ∧ R (Itl K a) H1) ∨ ((∃ xs, SqT K H1 a xs) ∧ R (Itt K a) H1))
theorem pi_seqA {l : Expr} {tl : TE} (hl : PE X l tl) : PI X tg l (iSeqA X.K tl) := by
  constructor
  intro pins s σ H R I h
  refine thn (hl.run pins s σ H _ I h) fun v s1 q => ?_
  obtain ⟨x, H1, I1, r1, a, rfl, q⟩ := q
  cases r1
  have fresh : ∀ b ∈ [s1.heap.objs.size], FpOk X pins H1 b := fun b hb => by
    rw [List.mem_singleton.mp hb]
    exact I1.fpOk (Nat.le_refl _) (I1.hok.fresh (Nat.le_refl _))
  rcases q with ⟨⟨xs, hq⟩, q⟩ | ⟨⟨xs, hq⟩, q⟩
  · obtain ⟨its, _, p, _⟩ := I1.list hq
    refine wpAny_pyIter_list p.isList ⟨_, [s1.heap.objs.size], _, _, H1, rfl, ?_, turn_list a _, ⟨_, Heap.get?_push_size _ rfl, rfl, rfl⟩, fresh, q⟩
    exact I1.kept (t' := s1.toks) fun b o e => Heap.get?_push_of_some _ e
  · obtain ⟨its, _, p, _⟩ := I1.tuple hq
    refine wpAny_pyIter_tuple (show s1.heap.IsTuple a its.toArray from p) ⟨_, [s1.heap.objs.size], _, _, H1, rfl, ?_, turn_tuple a _, ⟨_, Heap.get?_push_size _ rfl, rfl, rfl⟩, fresh, q⟩
    exact I1.kept (t' := s1.toks) fun b o e => Heap.get?_push_of_some _ e
theorem i_seq {l : Expr} {f : DF} (hl : DE X l f) : DIx X tg l (srcOf f) := impI (pi_seqA hl) fun σ H R h => by
  obtain ⟨ρ, st, μ, rs, re, src, st', e, q⟩ := h
  obtain ⟨p, e1, e2⟩ := Option.bind_eq_some_iff.mp e
  obtain ⟨d, st1⟩ := p
  refine ⟨ρ, st, μ, rs, re, d, st1, e1, fun x H1 μ1 rs1 s1 r1 => ?_⟩
  cases r1 with
  | @tup a vs ds h1 h2 =>
    cases e2
    exact ⟨a, rfl, .inr ⟨⟨vs, h1⟩, q _ H1 μ1 rs1 s1 (it_tup h1 h2)⟩⟩
  | @ref a n h1 =>
    have e' : (if n < st1.length then some (Src.cell n, st1) else none) = some (src, st') := e2
    split at e'
    · rename_i hn
      cases e'
      obtain ⟨vs, h2, _⟩ := (rs1.ok n a _ h1 (List.getElem?_eq_getElem hn)).sq
      exact ⟨a, rfl, .inl ⟨⟨vs, h2⟩, q _ H1 μ1 rs1 s1 (it_list h1)⟩⟩
    · cases e'
  | @fz a vs ds h1 h2 =>
    cases e2
    exact ⟨a, rfl, .inl ⟨⟨vs, h1.sq⟩, q _ H1 μ1 rs1 s1 (it_frz h1 h2)⟩⟩
  | _ => cases e2
theorem i_rng1 {a : Expr} {f : DFs} {p pos : Pos} (hg : Gl X "range") (hm : X.mg "range" = none) (ha : DAs X [a] f) (hs : starEach [a] X.env = [(false, eval a X.env)] := by rfl) : DIx X tg (.Call (.Name "range" p) [a] [] pos) (srcRng1 f) :=
  impI (pi_range1 hg hm ha hs) fun σ H R h => by
    obtain ⟨ρ, st, μ, rs, re, src, st', e, q⟩ := h
    obtain ⟨p, e1, e2⟩ := Option.bind_eq_some_iff.mp e
    obtain ⟨ds, st1⟩ := p
    refine ⟨ρ, st, μ, rs, re, ds, st1, e1, fun vs H1 μ1 rs1 s1 r1 => ?_⟩
    dsimp only at e2
    split at e2
    · rename_i j
      split at e2
      · rename_i hj
        obtain ⟨x, rfl, rx⟩ := reps1 r1
        cases rx
        cases e2
        exact ⟨j, rfl, hj.1, hj.2, q _ H1 μ1 rs1 s1 it_rng⟩
      · cases e2
    · cases e2
theorem i_rng2 {a b : Expr} {f : DFs} {p pos : Pos} (hg : Gl X "range") (hm : X.mg "range" = none) (ha : DAs X [a, b] f) (hs : starEach [a, b] X.env = [(false, eval a X.env), (false, eval b X.env)] := by rfl) (hs2 : starEach [b] X.env = [(false, eval b X.env)] := by rfl) :
    DIx X tg (.Call (.Name "range" p) [a, b] [] pos) (srcRng2 f) :=
  impI (pi_range2 hg hm ha hs hs2) fun σ H R h => by
    obtain ⟨ρ, st, μ, rs, re, src, st', e, q⟩ := h
    obtain ⟨p, e1, e2⟩ := Option.bind_eq_some_iff.mp e
    obtain ⟨ds, st1⟩ := p
    refine ⟨ρ, st, μ, rs, re, ds, st1, e1, fun vs H1 μ1 rs1 s1 r1 => ?_⟩
    dsimp only at e2
    split at e2
    · rename_i i j
      split at e2
      · rename_i hj
        obtain ⟨x, y, rfl, rx, ry⟩ := reps2 r1
        cases rx
        cases ry
        cases e2
        exact ⟨i, j, rfl, ⟨hj.1.1, hj.1.2, hj.2.1, hj.2.2⟩, q _ H1 μ1 rs1 s1 it_rng⟩
      · cases e2
    · cases e2
end

/-! ### for -/
/-- the walked list stays as it is -/
noncomputable def sameSrc (src : Src) (st st2 : Sto) : Bool := match src with
  | .seq _ => true
  | .cell n => @decide (st2[n]? = st[n]?) (Classical.propDecidable _)
noncomputable def loopG (src : Src) (n : D → DEnv → Option DEnv) (g : DG) : List D → DG
  | [], ρ, st => some (.nx, ρ, st)
  | d :: r, ρ, st => (n d ρ).bind fun ρ1 => (g ρ1 st).bind fun q => match q.1 with
    | .nx => if sameSrc src st q.2.2 = true then loopG src n g r q.2.1 q.2.2 else none
    | .ct => if sameSrc src st q.2.2 = true then loopG src n g r q.2.1 q.2.2 else none
    | .bk => some (.nx, q.2.1, q.2.2)
    | .rt d => some (.rt d, q.2.1, q.2.2)
noncomputable def gFor (it : DI) (n : D → DEnv → Option DEnv) (g : DG) : DG := fun ρ st => (it ρ st).bind fun p => (p.1.items p.2).bind fun ds => loopG p.1 n g ds ρ p.2
theorem same_items {src : Src} {st st2 : Sto} (h : sameSrc src st st2 = true) : src.items st2 = src.items st := by
  cases src with
  | seq ds => rfl
  | cell n =>
    unfold sameSrc at h
    have h' := @of_decide_eq_true _ (Classical.propDecidable _) h
    unfold Src.items
    simp only
    rw [h']
theorem g_for {X : Cx} {tg iter : Expr} {body : List Stmt} {fi : DI} {js : List Nat} {n : D → DEnv → Option DEnv} {g : DG} {pos : Pos} (hp : PassesOwn (model X.prog X.w) X.A X.env X.xe) (hc : X.calm = true) (hi : DIx X tg iter fi) (hg : DP X tg js n) (hb : DSs X body g)
    (hs : ∀ x, foldedSetIterable iter X.env x = pure x := by intro _; rfl) : DS X (.For tg iter body [] pos) (gFor fi n g) :=
  impS (ps_for hp hc hi hg hb hs) fun Dn σ H h => by
    obtain ⟨ρ, st, μ, rs, re, fl, ρ', st', e, q⟩ := h
    obtain ⟨p, e1, e2⟩ := Option.bind_eq_some_iff.mp e
    obtain ⟨src, st1⟩ := p
    obtain ⟨ds, e3, e4⟩ := Option.bind_eq_some_iff.mp e2
    refine ⟨ρ, st, μ, rs, re, src, st1, e1, fun J H1 μ1 rs1 s1 ok => ?_⟩
    refine ⟨fun i m σ2 H2 => ∃ (ρ2 : DEnv) (st2 : Sto) (μ2 : List Addr), RelS X.K μ2 H2 st2 ∧ RelE X.K μ2 σ2 H2 ρ2 ∧ Step μ1 H1 μ2 H2 ∧ src.items st2 = some ds ∧ i ≤ ds.length ∧ m = ds.length - i ∧ loopG src n g (ds.drop i) ρ2 st2 = some (fl, ρ', st'),
      ⟨ds.length, ρ, st1, μ1, rs1, re.step s1, .refl, e3, Nat.zero_le _, rfl, by rw [List.drop_zero]; exact e4⟩, ?_⟩
    rintro i m σ2 H2 ⟨ρ2, st2, μ2, rs2, re2, s2, it2, hi2, rfl, e5⟩
    obtain ⟨k1, k2⟩ := ok μ2 H2 st2 s2 rs2 ds it2 i
    by_cases hlt : i < ds.length
    · have hd : ds[i]? = some ds[i] := List.getElem?_eq_getElem hlt
      obtain ⟨go, ky⟩ := k1 _ hd
      refine .inr ⟨go, fun σ4 H4 => ∃ (ρ4 : DEnv) (st4 : Sto) (μ4 : List Addr), RelS X.K μ4 H4 st4 ∧ RelE X.K μ4 σ4 H4 ρ4 ∧ Step μ1 H1 μ4 H4 ∧ src.items st4 = some ds ∧ loopG src n g (ds.drop (i + 1)) ρ4 st4 = some (fl, ρ', st'),
        fun σ4 H4 ⟨ρ4, st4, μ4, a1, a2, a3, a4, a5⟩ => ⟨ds.length - (i + 1), by omega, ρ4, st4, μ4, a1, a2, a3, a4, hlt, rfl, a5⟩, fun x H3 y => ?_⟩
      obtain ⟨rs3, s3, r3⟩ := ky x H3 y
      rw [List.drop_eq_getElem_cons hlt] at e5
      obtain ⟨ρ3, e6, e7⟩ := Option.bind_eq_some_iff.mp e5
      obtain ⟨r, e8, e9⟩ := Option.bind_eq_some_iff.mp e7
      obtain ⟨fl5, ρ5, st5⟩ := r
      refine ⟨ρ2, st2, μ2, ds[i], rs3, re2.step s3, r3, ρ3, e6, fun σ3 re3 _ _ => ⟨ρ3, st2, μ2, rs3, re3, fl5, ρ5, st5, e8, ?_⟩⟩
      have next : sameSrc src st2 st5 = true → loopG src n g (ds.drop (i + 1)) ρ5 st5 = some (fl, ρ', st') → ∀ (σ4 : L2.St) (H4 : Hp) (μ4 : List Addr), RelS X.K μ4 H4 st5 → RelE X.K μ4 σ4 H4 ρ5 → Step μ2 H3 μ4 H4 →
          ∃ (ρ4 : DEnv) (st4 : Sto) (μ4 : List Addr), RelS X.K μ4 H4 st4 ∧ RelE X.K μ4 σ4 H4 ρ4 ∧ Step μ1 H1 μ4 H4 ∧ src.items st4 = some ds ∧ loopG src n g (ds.drop (i + 1)) ρ4 st4 = some (fl, ρ', st') :=
        fun hsame hl σ4 H4 μ4 a1 a2 a3 => ⟨ρ5, st5, μ4, a1, a2, (s2.trans s3).trans a3, (same_items hsame).trans it2, hl⟩
      cases fl5 with
      | nx =>
        have e10 : (if sameSrc src st2 st5 = true then loopG src n g (ds.drop (i + 1)) ρ5 st5 else none) = some (fl, ρ', st') := e9
        split at e10
        · rename_i hsame
          exact next hsame e10
        · cases e10
      | ct =>
        have e10 : (if sameSrc src st2 st5 = true then loopG src n g (ds.drop (i + 1)) ρ5 st5 else none) = some (fl, ρ', st') := e9
        split at e10
        · rename_i hsame
          exact next hsame e10
        · cases e10
      | bk => cases e9; exact fun σ4 H4 μ4 a1 a2 a3 => q σ4 H4 μ4 a1 a2 (((s1.trans s2).trans s3).trans a3)
      | rt d => cases e9; exact fun v H4 μ4 a1 a2 a3 => q v H4 μ4 a1 (((s1.trans s2).trans s3).trans a2) a3
    · have hle : ds.length ≤ i := by omega
      rw [List.drop_of_length_le hle] at e5
      cases e5
      exact .inl ⟨k2 hle, q _ H2 μ2 rs2 re2 (s1.trans s2)⟩
end DL
end

section
set_option Elab.async false
set_option linter.all false
set_option maxRecDepth 100000
set_option maxHeartbeats 4000000
/-! The data layer, part E: new lists, comprehensions, methods of lists, stores, defs. -/
namespace DL
open PySem PySem.Spec PyProof.Rows L2

/-! ### a list that nobody else holds -/
abbrev DLi := DEnv → Sto → Option (List D × Sto)
def tL (K : PySem.W.Frag) (f : DLi) : TE := fun σ H Q => ∃ (ρ : DEnv) (st : Sto) (μ : List Addr), RelS K μ H st ∧ RelE K μ σ H ρ ∧ ∃ (ds : List D) (st' : Sto), f ρ st = some (ds, st') ∧
  ∀ (p : Addr) (H' : Hp) (μ' : List Addr) (vs : List V), RelS K μ' H' st' → Step μ H μ' H' → H' p = some (.lst vs) → H p = none → p ∉ μ' → Reps K μ' H' vs ds → Q (.ref p) H'
abbrev DL (X : Cx) (e : Expr) (f : DLi) : Prop := PE X e (tL X.K f)
section
variable {K : PySem.W.Frag} {μ μ' : List Addr} {H H' : Hp} {st : Sto} {p : Addr} {vs ws : List V} {ds : List D}
mutual
theorem rep_mono (hm : ∀ (n : Nat) (a : Addr), μ[n]? = some a → μ'[n]? = some a) (ht : ∀ a vs, SqT K H a vs → SqT K H' a vs) (hz : ∀ a vs, Frz K H a vs → Frz K H' a vs) : ∀ (d : D) (v : V), Rep K μ H v d → Rep K μ' H' v d
  | .non, _, h => by cases h; exact .non
  | .bl _, _, h => by cases h; exact .bl _
  | .int _, _, h => by cases h; exact .int _
  | .str _, _, h => by cases h; exact .str _
  | .tup ds, _, h => by
    cases h with
    | tup h1 h2 => exact .tup (ht _ _ h1) (reps_mono hm ht hz ds _ h2)
  | .ref n, _, h => by
    cases h with
    | ref h1 => exact .ref (hm _ _ h1)
  | .fz ds, _, h => by
    cases h with
    | fz h1 h2 => exact .fz (hz _ _ h1) (reps_mono hm ht hz ds _ h2)
theorem reps_mono (hm : ∀ (n : Nat) (a : Addr), μ[n]? = some a → μ'[n]? = some a) (ht : ∀ a vs, SqT K H a vs → SqT K H' a vs) (hz : ∀ a vs, Frz K H a vs → Frz K H' a vs) : ∀ (ds : List D) (vs : List V), Reps K μ H vs ds → Reps K μ' H' vs ds
  | [], _, h => by cases h; exact .nil
  | d :: ds, _, h => by
    cases h with
    | cons h1 h2 => exact .cons (rep_mono hm ht hz d _ h1) (reps_mono hm ht hz ds _ h2)
end
theorem tup_other (e : H p = some (.lst ws)) {o : HO} (a : Addr) (xs : List V) (h : SqT K H a xs) : SqT K (upd H p o) a xs := by
  rcases h with (h | ⟨u, h⟩) | h
  · exact .inl (.inl (by rw [upd_ne (ne_of h e (by intro z; cases z))]; exact h))
  · exact .inl (.inr ⟨u, by rw [upd_ne (ne_of h e (by intro z; cases z))]; exact h⟩)
  · exact .inr h
theorem frz_other (e : H p = some (.lst ws)) {o : HO} (a : Addr) (xs : List V) (h : Frz K H a xs) : Frz K (upd H p o) a xs := fun H2 k => h H2 fun u hu m => by
  have ha : a ≠ p := by
    rintro rfl
    rw [e] at hu
    cases hu
    cases m
  exact k u (by rw [upd_ne ha]; exact hu) m
theorem Reps.other (e : H p = some (.lst ws)) {o : HO} {xs : List V} {es : List D} (r : Reps K μ H xs es) : Reps K μ (upd H p o) xs es := reps_mono (fun _ _ h => h) (tup_other e) (frz_other e) _ _ r
/-- a list that is no cell is written -/
theorem RelS.other (rs : RelS K μ H st) (hp : p ∉ μ) (e : H p = some (.lst ws)) {o : HO} : RelS K μ (upd H p o) st := by
  refine ⟨rs.len, fun n a c e1 e2 => ?_, rs.inj⟩
  have ha : a ≠ p := fun z => hp (z ▸ List.mem_of_getElem? e1)
  have h := rs.ok n a c e1 e2
  cases c with
  | lst ds =>
    obtain ⟨vs, q, r⟩ := h
    exact ⟨vs, by rw [upd_ne ha]; exact q, r.other e⟩
/-- it becomes a cell -/
theorem RelS.adopt (rs : RelS K μ H st) (hp : p ∉ μ) (e : H p = some (.lst vs)) (r : Reps K μ H vs ds) : RelS K (μ ++ [p]) H (st ++ [.lst ds]) := by
  have up : ∀ (n : Nat) (a : Addr), μ[n]? = some a → (μ ++ [p])[n]? = some a := fun n a h => by
    rw [List.getElem?_append_left (List.getElem?_eq_some_iff.mp h).1]
    exact h
  have old : ∀ {n : Nat} {a : Addr} {c : Cell}, (μ ++ [p])[n]? = some a → (st ++ [Cell.lst ds])[n]? = some c → (μ[n]? = some a ∧ st[n]? = some c) ∨ (n = μ.length ∧ a = p ∧ c = .lst ds) := fun {n a c} e1 e2 => by
    by_cases hn : n < μ.length
    · rw [List.getElem?_append_left hn] at e1
      rw [List.getElem?_append_left (by rw [← rs.len]; exact hn)] at e2
      exact .inl ⟨e1, e2⟩
    · have hl : n < (μ ++ [p]).length := (List.getElem?_eq_some_iff.mp e1).1
      rw [List.length_append, List.length_singleton] at hl
      have hn' : n = μ.length := by omega
      subst hn'
      rw [List.getElem?_concat_length] at e1
      rw [rs.len, List.getElem?_concat_length] at e2
      cases e1
      cases e2
      exact .inr ⟨rfl, rfl, rfl⟩
  refine ⟨by rw [List.length_append, List.length_append, rs.len] <;> rfl, fun n a c e1 e2 => ?_, fun i j a xs ys e1 e2 e3 e4 => ?_⟩
  · rcases old e1 e2 with ⟨e1, e2⟩ | ⟨_, rfl, rfl⟩
    · have h := rs.ok n a c e1 e2
      cases c with
      | lst ds =>
        obtain ⟨vs, q, r⟩ := h
        exact ⟨vs, q, reps_mono up (fun _ _ h => h) (fun _ _ h => h) _ _ r⟩
    · exact ⟨vs, e, reps_mono up (fun _ _ h => h) (fun _ _ h => h) _ _ r⟩
  · rcases old e1 e3 with ⟨a1, a2⟩ | ⟨a1, a2, a3⟩
    · rcases old e2 e4 with ⟨b1, b2⟩ | ⟨b1, b2, b3⟩
      · exact rs.inj i j a xs ys a1 b1 a2 b2
      · subst b2
        exact absurd (List.mem_of_getElem? a1) hp
    · rcases old e2 e4 with ⟨b1, b2⟩ | ⟨b1, b2, b3⟩
      · subst a2
        exact absurd (List.mem_of_getElem? b1) hp
      · omega
theorem step_adopt {μ1 : List Addr} {H1 : Hp} (s : Step μ1 H1 μ H) (h : H1 p = none) : Step μ1 H1 (μ ++ [p]) H := by
  obtain ⟨x, rfl, hx⟩ := s.ext
  exact ⟨⟨x ++ [p], by rw [List.append_assoc], fun a ha => (List.mem_append.mp ha).elim (hx a) fun z => by rw [List.mem_singleton.mp z]; exact h⟩, s.keep, s.dom⟩
theorem step_other {μ1 : List Addr} {H1 : Hp} (s : Step μ1 H1 μ H) (h : H1 p = none) {o : HO} : Step μ1 H1 μ (upd H p o) :=
  ⟨s.ext, fun a u e k => by rw [upd_ne (ne_of_none e h)]; exact s.keep a u e k, fun a u e => by
    obtain ⟨w, hw⟩ := s.dom a u e
    exact ⟨w, by rw [upd_ne (ne_of_none e h)]; exact hw⟩⟩
end
theorem Step.back {μ μ' : List Addr} {H H' : Hp} (s : Step μ H μ' H') {p : Addr} (h : H' p = none) : H p = none := by
  cases hq : H p with
  | none => rfl
  | some o =>
    obtain ⟨o', h'⟩ := s.dom p o hq
    rw [h] at h'
    cases h'
def dNew (f : DLi) : DF := fun ρ st => (f ρ st).map fun p => (.ref p.2.length, p.2 ++ [.lst p.1])
theorem dNew_le {K : PySem.W.Frag} {f : DLi} {σ : L2.St} {H : Hp} {Q : VK} (h : tD K (dNew f) σ H Q) : tL K f σ H Q := by
  obtain ⟨ρ, st, μ, rs, re, d, st', e, q⟩ := h
  obtain ⟨p, e1, e2⟩ := Option.map_eq_some_iff.mp e
  cases e2
  exact ⟨ρ, st, μ, rs, re, p.1, p.2, e1, fun a H1 μ1 vs rs1 s1 h1 h2 h3 r1 => q _ H1 _ (rs1.adopt h3 h1 r1) (step_adopt s1 h2) (.ref (by rw [← rs1.len]; exact List.getElem?_concat_length))⟩
section
variable {X : Cx} {e : Expr} {es : List Expr} {f : DLi} {pos : Pos}
theorem d_new (h : DL X e f) : DE X e (dNew f) := imp h fun _ _ _ => dNew_le
/-- a display -/
theorem l_lst {g : DFs} (h : DAs X es g) : DL X (.List es pos) (fun ρ st => (g ρ st).bind fun p => if p.1.length ≤ 16777216 then some p else none) := imp (pe_lst h) fun σ H Q q => by
  obtain ⟨ρ, st, μ, rs, re, ds, st', e, q⟩ := q
  obtain ⟨p, e1, e2⟩ := Option.bind_eq_some_iff.mp e
  split at e2
  · rename_i hl
    cases e2
    refine ⟨ρ, st, μ, rs, re, ds, st', e1, fun vs H1 μ1 rs1 s1 r1 => ⟨by rw [r1.length, line_eq]; exact hl, fun a ha => ?_⟩⟩
    exact q a _ μ1 vs (rs1.new ha) (s1.trans (step_new ha)) upd_same (s1.back ha) (rs1.out ha) ((step_new ha).reps _ _ r1)
  · cases e2
end

/-! ### list comprehensions -/
def wipeD (ρ : DEnv) : List Nat → DEnv
  | [] => ρ
  | v :: vs => (wipeD ρ vs).set v none
theorem wipe_rel {K : PySem.W.Frag} {μ : List Addr} {σ : L2.St} {H : Hp} {ρ : DEnv} (re : RelE K μ σ H ρ) : ∀ vs : List Nat, RelE K μ (wipe σ vs) H (wipeD ρ vs)
  | [] => re
  | v :: vs => by
    have ih := wipe_rel re vs
    refine ⟨by unfold wipe wipeD; rw [List.length_set, List.length_set, ih.len], fun i d e => ?_⟩
    unfold wipeD at e
    unfold wipe
    by_cases hi : v = i
    · subst hi
      by_cases hl : v < (wipeD ρ vs).length
      · rw [List.getElem?_set_self hl] at e
        cases e
      · rw [List.getElem?_eq_none (by rw [List.length_set]; omega)] at e
        cases e
    · rw [List.getElem?_set_ne hi] at e ⊢
      exact ih.at_ i d e
theorem wipe_get {σ : L2.St} {i : Nat} : ∀ {vs : List Nat}, (wipe σ vs)[i]? = if i ∈ vs then (σ[i]?).map (fun _ => none) else σ[i]?
  | [] => by simp [wipe]
  | v :: vs => by
    unfold wipe
    by_cases hi : v = i
    · subst hi
      rw [if_pos List.mem_cons_self]
      by_cases hl : v < (wipe σ vs).length
      · rw [List.getElem?_set_self hl]
        rw [wipe_length] at hl
        rw [List.getElem?_eq_getElem hl]
        rfl
      · rw [List.getElem?_eq_none (by rw [List.length_set]; omega)]
        rw [wipe_length] at hl
        rw [List.getElem?_eq_none (by omega)]
        rfl
    · rw [List.getElem?_set_ne hi, wipe_get (vs := vs)]
      by_cases hm : i ∈ vs
      · rw [if_pos hm, if_pos (List.mem_cons_of_mem _ hm)]
      · rw [if_neg hm, if_neg fun z => (List.mem_cons.mp z).elim (fun e => hi e.symm) hm]
theorem wipe_same {σ σ2 : L2.St} {vs : List Nat} (h : ∀ j, j ∉ vs → σ2[j]? = (wipe σ vs)[j]?) (hl : σ2.length = (wipe σ vs).length) : wipe σ2 vs = wipe σ vs := by
  apply List.ext_getElem?
  intro i
  rw [wipe_get (σ := σ2)]
  by_cases hm : i ∈ vs
  · rw [if_pos hm, wipe_get, if_pos hm]
    rw [wipe_length] at hl
    by_cases hi : i < σ.length
    · rw [List.getElem?_eq_getElem hi, List.getElem?_eq_getElem (by omega)]
      rfl
    · rw [List.getElem?_eq_none (by omega), List.getElem?_eq_none (by omega)]
  · rw [if_neg hm]
    exact h i hm
noncomputable def lcItems (src : Src) (n : D → DEnv → Option DEnv) (tt : DFb) (el : DF) : List D → DEnv → Sto → Option (List D × Sto)
  | [], _, st => some ([], st)
  | d :: r, ρ, st => (n d ρ).bind fun ρ1 => (tt ρ1 st).bind fun b => if b.1 = true then (el ρ1 b.2).bind fun y => if sameSrc src st y.2 = true then (lcItems src n tt el r ρ y.2).map fun q => (y.1 :: q.1, q.2) else none
    else if sameSrc src st b.2 = true then lcItems src n tt el r ρ b.2 else none
noncomputable def lLc (it : DI) (n : D → DEnv → Option DEnv) (tt : DFb) (el : DF) (own : List Nat) : DLi := fun ρ st => (it ρ st).bind fun p => (p.1.items p.2).bind fun ds => (lcItems p.1 n tt el ds (wipeD ρ own) p.2).bind fun q =>
  if q.1.length ≤ 16777216 then some q else none
def tYesD : DFb := fun _ st => some (true, st)
theorem tYes_le {K : PySem.W.Frag} {σ : L2.St} {H : Hp} {Q : Bool → Hp → Prop} (h : tDb K tYesD σ H Q) : tYes σ H Q := by
  obtain ⟨ρ, st, μ, rs, re, b, st', e, q⟩ := h
  cases e
  exact q H μ rs .refl
theorem lc_len {src : Src} {n : D → DEnv → Option DEnv} {tt : DFb} {el : DF} : ∀ {ds : List D} {ρ : DEnv} {st : Sto} {q : List D × Sto}, lcItems src n tt el ds ρ st = some q → q.1.length ≤ ds.length
  | [], _, _, _, h => by cases h; exact Nat.zero_le _
  | d :: r, ρ, st, q, h => by
    obtain ⟨ρ1, e1, h⟩ := Option.bind_eq_some_iff.mp h
    obtain ⟨b, e2, h⟩ := Option.bind_eq_some_iff.mp h
    split at h
    · obtain ⟨y, e3, h⟩ := Option.bind_eq_some_iff.mp h
      split at h
      · obtain ⟨q1, e4, h⟩ := Option.map_eq_some_iff.mp h
        cases h
        have := lc_len e4
        simp only [List.length_cons]
        omega
      · cases h
    · split at h
      · have := lc_len h
        simp only [List.length_cons]
        omega
      · cases h
theorem lLc_le {K : PySem.W.Frag} {fi : DI} {js own : List Nat} {n : D → DEnv → Option DEnv} {tt : DFb} {el : DF} (hj : ∀ j ∈ js, j ∈ own) {σ : L2.St} {H : Hp} {Q : VK} (h : tL K (lLc fi n tt el own) σ H Q) :
    tLc (tI K fi) (tT K js n) (tDb K tt) (tD K el) own σ H Q := by
  obtain ⟨ρ, st, μ, rs, re, items, st', e, q⟩ := h
  obtain ⟨p, e1, e⟩ := Option.bind_eq_some_iff.mp e
  obtain ⟨src, st1⟩ := p
  obtain ⟨ds, e2, e⟩ := Option.bind_eq_some_iff.mp e
  obtain ⟨q1, e3, e⟩ := Option.bind_eq_some_iff.mp e
  split at e
  · rename_i hlen
    cases e
    refine ⟨ρ, st, μ, rs, re, src, st1, e1, fun J H1 μ1 rs1 s1 ok D hD => ?_⟩
    have outD : ∀ {μ2 : List Addr} {H2 : Hp}, Step μ1 H1 μ2 H2 → RelS K μ1 H1 st1 → True := fun _ _ => trivial
    refine ⟨fun i m H2 => ∃ (st2 : Sto) (μ2 : List Addr) (acc : List V) (da rest : List DL.D), RelS K μ2 H2 st2 ∧ D ∉ μ2 ∧ H2 D = some (.lst acc) ∧ Reps K μ2 H2 acc da ∧ Step μ1 H1 μ2 H2 ∧ src.items st2 = some ds ∧ i ≤ ds.length ∧ m = ds.length - i ∧
        lcItems src n tt el (ds.drop i) (wipeD ρ own) st2 = some (rest, st') ∧ da ++ rest = items,
      ⟨ds.length, st1, μ1, [], [], items, rs1.new hD, rs1.out hD, upd_same, .nil, step_new hD, e2, Nat.zero_le _, rfl, by rw [List.drop_zero]; exact e3, rfl⟩, ?_⟩
    rintro i m H2 ⟨st2, μ2, acc, da, rest, rs2, nD, eD, rD, s2, it2, hi2, rfl, el2, hit⟩
    obtain ⟨k1, k2⟩ := ok μ2 H2 st2 s2 rs2 ds it2 i
    by_cases hlt : i < ds.length
    · obtain ⟨go, ky⟩ := k1 _ (List.getElem?_eq_getElem hlt)
      refine .inr ⟨go, fun H4 => ∃ (st4 : Sto) (μ4 : List Addr) (acc : List V) (da rest : List DL.D), RelS K μ4 H4 st4 ∧ D ∉ μ4 ∧ H4 D = some (.lst acc) ∧ Reps K μ4 H4 acc da ∧ Step μ1 H1 μ4 H4 ∧ src.items st4 = some ds ∧
          lcItems src n tt el (ds.drop (i + 1)) (wipeD ρ own) st4 = some (rest, st') ∧ da ++ rest = items,
        fun H4 ⟨st4, μ4, acc, da, rest, a1, a2, a3, a4, a5, a6, a7, a8⟩ => ⟨ds.length - (i + 1), by omega, st4, μ4, acc, da, rest, a1, a2, a3, a4, a5, a6, hlt, rfl, a7, a8⟩, fun x H3 y => ?_⟩
      obtain ⟨rs3, s3, r3⟩ := ky x H3 y
      rw [List.drop_eq_getElem_cons hlt] at el2
      obtain ⟨ρ3, e6, el2⟩ := Option.bind_eq_some_iff.mp el2
      obtain ⟨b, e7, el2⟩ := Option.bind_eq_some_iff.mp el2
      obtain ⟨bb, st5⟩ := b
      have re2 : RelE K μ2 (wipe σ own) H3 (wipeD ρ own) := ((wipe_rel (re.step (s1.trans s2)) own).step s3)
      have out : ∀ {μ' : List Addr} {H' : Hp}, Step μ2 H3 μ' H' → H' D = some (.lst acc) ∧ D ∉ μ' := fun {μ' H'} s => by
        have d3 : H3 D = some (.lst acc) := s3.keep D _ eD (.inl nD)
        refine ⟨s.keep D _ d3 (.inl nD), fun z => ?_⟩
        obtain ⟨x, rfl, hx⟩ := s.ext
        rcases List.mem_append.mp z with z | z
        · exact nD z
        · rw [hx D z] at d3
          cases d3
      refine ⟨_, st2, μ2, ds[i], rs3, re2, r3, ρ3, e6, fun σ3 re3 hk hl => ⟨wipe_same (fun j hjn => hk j fun z => hjn (hj j z)) hl, ρ3, st2, μ2, rs3, re3, bb, st5, e7, fun H5 μ5 rs5 s5 => ?_⟩⟩
      cases bb with
      | true =>
        obtain ⟨y, e8, el2⟩ := Option.bind_eq_some_iff.mp (show ((el ρ3 st5).bind fun y => if sameSrc src st2 y.2 = true then (lcItems src n tt el (ds.drop (i + 1)) (wipeD ρ own) y.2).map fun q => (y.1 :: q.1, q.2) else none) = some (rest, st') from el2)
        obtain ⟨dy, st6⟩ := y
        refine iteT ⟨ρ3, st5, μ5, rs5, re3.step s5, dy, st6, e8, fun vy H6 μ6 rs6 s6 r6 => ?_⟩
        obtain ⟨d6, n6⟩ := out (s5.trans s6)
        dsimp only at el2
        split at el2
        · rename_i hsame
          obtain ⟨q2, e9, el2⟩ := Option.map_eq_some_iff.mp el2
          obtain ⟨rest2, stE⟩ := q2
          cases el2
          have hacc : acc.length = da.length := rD.length
          have hbound := lc_len e9
          refine ⟨acc, d6, by rw [line_eq, hacc]; rw [← hit, List.length_append, List.length_cons] at hlen; omega, st6, μ6, acc ++ [vy], da ++ [dy], rest2, rs6.other n6 d6, n6, upd_same, ?_, step_other (((s2.trans s3).trans s5).trans s6) hD, ?_, e9, by rw [← hit, List.append_assoc]; rfl⟩
          · exact ((((s3.trans s5).trans s6).reps _ _ rD).append (.cons r6 .nil)).other d6
          · exact (same_items hsame).trans it2
        · cases el2
      | false =>
        refine iteF ?_
        have el3 : (if sameSrc src st2 st5 = true then lcItems src n tt el (ds.drop (i + 1)) (wipeD ρ own) st5 else none) = some (rest, st') := el2
        obtain ⟨d5, n5⟩ := out s5
        split at el3
        · rename_i hsame
          exact ⟨st5, μ5, acc, da, rest, rs5, n5, d5, (s3.trans s5).reps _ _ rD, (s2.trans s3).trans s5, (same_items hsame).trans it2, el3, hit⟩
        · cases el3
    · have hle : ds.length ≤ i := by omega
      rw [List.drop_of_length_le hle] at el2
      cases el2
      rw [List.append_nil] at hit
      subst hit
      exact .inl ⟨k2 hle, q D H2 μ2 acc rs2 (s1.trans s2) eD (s1.back hD) nD rD⟩
  · cases e
section
variable {X : Cx} {elt tg iter : Expr} {ifs : List Expr} {scope : Scope} {own : List (Str × Nat)} {pos spos : Pos} {fi : DI} {js : List Nat} {n : D → DEnv → Option DEnv} {tt : DFb} {el : DF}
/-- what a comprehension's block is shown for -/
abbrev Blk (X : Cx) (scope : Scope) (p : Cx → Prop) : Prop := ∀ (s : Shared) (H : Hp) (C : Addr) (cl : List (Str × Addr)) (fp : List Addr), p (X.blk s H scope (compEnvC scope cl C X.env) fp)
theorem impTs {X : Cx} {t t' : TT} {ifs : List Expr} (h : PTs X ifs t) (k : ∀ σ H Q, t' σ H Q → t σ H Q) : PTs X ifs t' := ⟨fun pins s σ H Q I q => h.run pins s σ H Q I (k σ H Q q)⟩
theorem dts_nil {X : Cx} : PTs X [] (tDb X.K tYesD) := impTs pts_nil fun _ _ _ h => tYes_le h
theorem l_lc (hc : X.calm = true) (hN : X.N.Nodup) (hi : DIx X tg iter fi) (ok : BlkOk X.N X.env.scope scope own) (hj : ∀ j ∈ js, j ∈ own.map (·.2))
    (hg : Blk X scope fun Y => DP Y tg js n) (ht : Blk X scope fun Y => PTs Y ifs (tDb X.K tt)) (he : Blk X scope fun Y => DE Y elt el) (hs : ∀ x, foldedSetIterable iter X.env x = pure x := by intro _; rfl) :
    DL X (.ListComp elt [⟨tg, iter, ifs, 0⟩] scope pos) (lLc fi n tt el (own.map (·.2))) := imp (pe_lc hc hN hi ok hg ht he hs) fun _ _ _ h => lLc_le hj h
theorem g_setLc (i : Nat) {y : Str} {py : Pos} (hc : X.calm = true) (hN : X.N.Nodup) (hy : X.N[i]? = some y) (hyl : X.env.scope.names.lookup y = some .local)
    (hsw : swapsWith (.ListComp elt [⟨tg, iter, ifs, 0⟩] scope pos) (some (.Name y py)) spos.line X.env = pure true) (hi : DIx X tg iter fi) (ok : BlkOk X.N X.env.scope scope own) (hj : ∀ j ∈ js, j ∈ own.map (·.2))
    (hg : Blk X scope fun Y => DP Y tg js n) (ht : Blk X scope fun Y => PTs Y ifs (tDb X.K tt)) (he : Blk X scope fun Y => DE Y elt el) (hs : ∀ x, foldedSetIterable iter X.env x = pure x := by intro _; rfl) :
    DS X (.Assign [.Name y py] (.ListComp elt [⟨tg, iter, ifs, 0⟩] scope pos) spos) (gSet i (dNew (lLc fi n tt el (own.map (·.2))))) :=
  impS (ps_setLc hc hN hy hyl hsw hi ok hg ht he hs) fun Dn σ H h => lLc_le hj (dNew_le (Q := fun x H1 => gName i x σ H1 Dn.nx) (by
    obtain ⟨ρ, st, μ, rs, re, fl, ρ', st', e, q⟩ := h
    obtain ⟨p, e1, e2⟩ := Option.map_eq_some_iff.mp e
    cases e2
    exact ⟨ρ, st, μ, rs, re, p.1, p.2, e1, fun v H1 μ1 rs1 s1 r1 => q _ H1 μ1 rs1 ((re.step s1).set i r1) s1⟩))

/-! ### tuple(..), len(..), sum(..), all(..), any(..) of a new list -/
def dOf (o : List D → Sto → Option (D × Sto)) (f : DLi) : DF := fun ρ st => (f ρ st).bind fun p => o p.1 p.2
def NewD (K : PySem.W.Frag) (r : List V → Hp → VK → Prop) (o : List D → Sto → Option (D × Sto)) : Prop :=
  ∀ (μ : List Addr) (H : Hp) (st st' : Sto) (p : Addr) (vs : List V) (ds : List D) (d : D) (Q : VK), RelS K μ H st → H p = some (.lst vs) → p ∉ μ → Reps K μ H vs ds → o ds st = some (d, st') → Post K μ H st' d Q → r [.ref p] H Q
theorem dOf_le {K : PySem.W.Frag} {f : DLi} {r : List V → Hp → VK → Prop} {o : List D → Sto → Option (D × Sto)} (hd : NewD K r o) {σ : L2.St} {H : Hp} {Q : VK} (h : tD K (dOf o f) σ H Q) : tCB r (tCons (tL K f) tNil) σ H Q := by
  obtain ⟨ρ, st, μ, rs, re, d, st', e, q⟩ := h
  obtain ⟨p, e1, e2⟩ := Option.bind_eq_some_iff.mp e
  exact ⟨ρ, st, μ, rs, re, p.1, p.2, e1, fun a H1 μ1 vs rs1 s1 h1 h2 h3 r1 => hd μ1 H1 p.2 st' a vs p.1 d Q rs1 h1 h3 r1 e2 (q.after s1)⟩
def oTupN : List D → Sto → Option (D × Sto) := fun ds st => some (.tup ds, st)
def oLenN : List D → Sto → Option (D × Sto) := fun ds st => some (.int ds.length, st)
def oSumN : List D → Sto → Option (D × Sto) := fun ds st => (intsD ds).map fun ns => (.int ns.sum, st)
def oAllN : List D → Sto → Option (D × Sto) := fun ds st => (blsD ds).map fun ns => (.bl (ns.all id), st)
def oAnyN : List D → Sto → Option (D × Sto) := fun ds st => (blsD ds).map fun ns => (.bl (ns.any id), st)
theorem nd_tup {K : PySem.W.Frag} : NewD K (fun xs H Q => ∃ p ys, xs = [.ref p] ∧ ((SqL K H p ys ∧ ∀ l, H l = none → Q (.ref l) (upd H l (.tup ys))) ∨ (SqT K H p ys ∧ Q (.ref p) H))) oTupN := by
  intro μ H st st' p vs ds d Q rs h1 h2 r e q
  cases e
  exact ⟨p, vs, rfl, .inl ⟨SqL.of h1, fun l hl => q _ _ μ (rs.new hl) (step_new hl) (.tup (SqT.of upd_same) ((step_new hl).reps _ _ r))⟩⟩
theorem nd_len {K : PySem.W.Frag} : NewD K (fun xs H Q => ∃ x n, xs = [x] ∧ LenV K x H n ∧ Q (.int n) H) oLenN := by
  intro μ H st st' p vs ds d Q rs h1 h2 r e q
  cases e
  exact ⟨_, ds.length, rfl, .inl ⟨vs, SqL.of h1, r.length.symm⟩, q _ H μ rs .refl (.int _)⟩
theorem nd_sum {K : PySem.W.Frag} : NewD K (rSum K) oSumN := by
  intro μ H st st' p vs ds d Q rs h1 h2 r e q
  obtain ⟨ns, e3, e4⟩ := Option.map_eq_some_iff.mp e
  cases e4
  exact ⟨p, ns, rfl, by rw [← ints_rep r e3]; exact SqL.of h1, q _ H μ rs .refl (.int _)⟩
theorem nd_all {K : PySem.W.Frag} : NewD K (rAll K) oAllN := by
  intro μ H st st' p vs ds d Q rs h1 h2 r e q
  obtain ⟨ns, e3, e4⟩ := Option.map_eq_some_iff.mp e
  cases e4
  exact ⟨p, ns, rfl, by rw [← bls_rep r e3]; exact SqL.of h1, q _ H μ rs .refl (.bl _)⟩
theorem nd_any {K : PySem.W.Frag} : NewD K (rAny K) oAnyN := by
  intro μ H st st' p vs ds d Q rs h1 h2 r e q
  obtain ⟨ns, e3, e4⟩ := Option.map_eq_some_iff.mp e
  cases e4
  exact ⟨p, ns, rfl, by rw [← bls_rep r e3]; exact SqL.of h1, q _ H μ rs .refl (.bl _)⟩
theorem d_ofTy {e : Expr} {f : DLi} {x : Str} {p : Pos} {T : String} {r : List V → Hp → VK → Prop} {o : List D → Sto → Option (D × Sto)} (hc : CallR X (.type T) r) (hd : NewD X.K r o) (hg : Gl X x) (hm : X.mg x = none) (hv : bootBuiltins x = some (.type T)) (ha : DL X e f)
    (hn : x ≠ "__name__" := by decide) (hdb : (x == ("__debug__" : Str)) = false := by decide)
    (he : starEach [e] X.env = (false, eval e X.env) :: starEach [] X.env := by rfl) (hpl : (backTo pos (starEach [] X.env)).any (·.1) = false := by rfl) : DE X (.Call (.Name x p) [e] [] pos) (dOf o f) :=
  imp (pe_callTy hc hg hm hv (pa_cons ha pa_nil he) hn hdb he hpl) fun _ _ _ h => dOf_le hd h
theorem d_ofB {e : Expr} {f : DLi} {x : Str} {p : Pos} {id : String} {r : List V → Hp → VK → Prop} {o : List D → Sto → Option (D × Sto)} (hc : CallR X (.builtin id) r) (hd : NewD X.K r o) (hg : Gl X x) (hm : X.mg x = none) (hv : bootBuiltins x = some (.builtin id)) (ha : DL X e f)
    (hn : x ≠ "__name__" := by decide) (hdb : (x == ("__debug__" : Str)) = false := by decide)
    (he : starEach [e] X.env = (false, eval e X.env) :: starEach [] X.env := by rfl) (hpl : (backTo pos (starEach [] X.env)).any (·.1) = false := by rfl) : DE X (.Call (.Name x p) [e] [] pos) (dOf o f) :=
  imp (pe_callB hc hg hm hv (pa_cons ha pa_nil he) hn hdb he hpl) fun _ _ _ h => dOf_le hd h
/-- for x in a new list -/
def srcNew (f : DLi) : DI := fun ρ st => (f ρ st).map fun p => (.seq p.1, p.2)
theorem i_new {l : Expr} {f : DLi} (hl : DL X l f) : DIx X tg l (srcNew f) := impI (pi_list hl) fun σ H R h => by
  obtain ⟨ρ, st, μ, rs, re, src, st', e, q⟩ := h
  obtain ⟨p, e1, e2⟩ := Option.map_eq_some_iff.mp e
  cases e2
  refine ⟨ρ, st, μ, rs, re, p.1, p.2, e1, fun a H1 μ1 vs rs1 s1 h1 h2 h3 r1 => ⟨a, rfl, ⟨vs, SqL.of h1⟩, q _ H1 μ1 rs1 s1 ?_⟩⟩
  intro μ' H' st2 s rs2 ds' e i
  cases e
  have g1 : SqL X.K H' a vs := SqL.of (s.keep a _ h1 (.inl h3))
  have g2 := s.reps _ _ r1
  refine ⟨fun d hd => ?_, fun hl => ⟨vs, g1, by rw [g2.length]; exact hl⟩⟩
  obtain ⟨v, e5, r⟩ := g2.get hd
  refine ⟨⟨vs, v, g1, e5⟩, fun x H'' y => ?_⟩
  obtain ⟨rfl, y⟩ := y
  have ex := y vs g1
  rw [e5] at ex
  cases ex
  exact ⟨rs2, .refl, r⟩

/-! ### isinstance -/
theorem d_isi {e t : Expr} {f : DF} {T : String} {p tp : Pos} {tn : Str} (hT : isT T) (hg : Gl X "isinstance") (hm : X.mg "isinstance" = none) (ha : DE X e f) (ht : t = .Name tn tp) (hg2 : Gl X tn) (hm2 : X.mg tn = none) (hv2 : bootBuiltins tn = some (.type T)) (hn2 : tn ≠ "__name__" := by decide) (hd2 : (tn == ("__debug__" : Str)) = false := by decide)
    (he : starEach [e, t] X.env = (false, eval e X.env) :: starEach [t] X.env := by rfl) (he2 : starEach [t] X.env = (false, eval t X.env) :: starEach [] X.env := by rfl) (hpl : (backTo pos (starEach [t] X.env)).any (·.1) = false := by rfl) :
    DE X (.Call (.Name "isinstance" p) [e, t] [] pos) (dIsi T f) := by
  subst ht
  exact imp (pe_callB call_isi hg hm (by decide +kernel) (pa_cons ha (pa_cons (pe_bltn (v := .ty T) hg2 hm2 hv2 rfl hn2 hd2) pa_nil he2) he) (by decide) (by decide) he hpl) fun _ _ _ h => dIsi_le hT h
end
end DL
end

section
set_option Elab.async false
set_option linter.all false
set_option maxRecDepth 100000
set_option maxHeartbeats 4000000
/-! The data layer, part F: methods of lists, stores into lists, defs. -/
namespace DL
open PySem PySem.Spec PyProof.Rows L2

/-! ### methods of a list -/
def isLstD (st : Sto) : D → Bool
  | .ref n => decide (n < st.length)
  | .fz _ => true
  | _ => false
def dMeth (o : D → List D → Sto → Option (D × Sto)) (f : DF) (g : DFs) : DF := fun ρ st => (f ρ st).bind fun p => if isLstD p.2 p.1 = true then (g ρ p.2).bind fun q => o p.1 q.1 q.2 else none
def MethD (K : PySem.W.Frag) (r : V → List V → Hp → VK → Prop) (o : D → List D → Sto → Option (D × Sto)) : Prop :=
  ∀ (μ : List Addr) (H : Hp) (st st' : Sto) (x : V) (xs : List V) (a : D) (ds : List D) (d : D) (Q : VK), RelS K μ H st → Rep K μ H x a → Reps K μ H xs ds → o a ds st = some (d, st') → Post K μ H st' d Q → r x xs H Q
def oApp : D → List D → Sto → Option (D × Sto)
  | .ref n, [y], st => match st[n]? with
    | some (.lst xs) => if xs.length < 16777216 then some (.non, st.set n (.lst (xs ++ [y]))) else none
    | none => none
  | _, _, _ => none
def oPopAt : D → List D → Sto → Option (D × Sto)
  | .ref n, [.int i], st => match st[n]? with
    | some (.lst xs) => if -(2 ^ 63) ≤ i ∧ i < 2 ^ 63 then (seqIndex? i xs.length).bind fun k => (xs[k]?).map fun y => (y, st.set n (.lst (xs.eraseIdx k))) else none
    | none => none
  | _, _, _ => none
def oPop : D → List D → Sto → Option (D × Sto)
  | .ref n, [], st => match st[n]? with
    | some (.lst xs) => (xs[xs.length - 1]?).map fun y => (y, st.set n (.lst xs.dropLast))
    | none => none
  | _, _, _ => none
section
variable {K : PySem.W.Frag}
theorem tyV_lst {μ : List Addr} {H : Hp} {st : Sto} (rs : RelS K μ H st) {x : V} {d : D} (r : Rep K μ H x d) (h : isLstD st d = true) : tyV K "list" x H := by
  cases r with
  | @ref a n h1 =>
    have hn : n < st.length := of_decide_eq_true h
    obtain ⟨vs, h2, _⟩ := (rs.ok n a _ h1 (List.getElem?_eq_getElem hn)).sq
    exact .inl ⟨rfl, vs, h2⟩
  | fz h1 h2 => exact .inl ⟨rfl, _, h1.sq⟩
  | _ => cases h
theorem md_app : MethD K rAppend oApp := by
  intro μ H st st' x xs a ds d Q rs rx rr e q
  unfold oApp at e
  split at e
  · rename_i n y
    split at e
    · rename_i ws e1
      split at e
      · rename_i hl
        cases e
        obtain ⟨l, vs, rfl, h1, h2, h3⟩ := lst_rep rs rx e1
        obtain ⟨vy, rfl, ry⟩ := reps1 rr
        refine ⟨l, vs, vy, rfl, rfl, h2, by rw [line_eq, h3.length]; exact hl, ?_⟩
        exact q _ _ μ (rs.write h1 e1 (h3.append (.cons ry .nil))) (step_write h1 h2) .non
      · cases e
    · cases e
  · cases e
theorem md_popAt : MethD K rPopAt oPopAt := by
  intro μ H st st' x xs a ds d Q rs rx rr e q
  unfold oPopAt at e
  split at e
  · rename_i n i
    split at e
    · rename_i ws e1
      split at e
      · rename_i hl
        obtain ⟨k, e2, e⟩ := Option.bind_eq_some_iff.mp e
        obtain ⟨y, e3, e⟩ := Option.map_eq_some_iff.mp e
        cases e
        obtain ⟨l, vs, rfl, h1, h2, h3⟩ := lst_rep rs rx e1
        obtain ⟨vy, rfl, ry⟩ := reps1 rr
        cases ry
        obtain ⟨vv, e4, rv⟩ := h3.get e3
        refine ⟨l, vs, i, k, vv, rfl, rfl, h2, hl.1, hl.2, by rw [h3.length]; exact e2, e4, ?_⟩
        exact q _ _ μ (rs.write h1 e1 (h3.erase k)) (step_write h1 h2) ((step_write h1 h2).rep _ _ rv)
      · cases e
    · cases e
  · cases e
theorem md_pop : MethD K rPop oPop := by
  intro μ H st st' x xs a ds d Q rs rx rr e q
  unfold oPop at e
  split at e
  · rename_i n
    split at e
    · rename_i ws e1
      obtain ⟨y, e3, e⟩ := Option.map_eq_some_iff.mp e
      cases e
      obtain ⟨l, vs, rfl, h1, h2, h3⟩ := lst_rep rs rx e1
      cases rr
      obtain ⟨vv, e4, rv⟩ := h3.get e3
      refine ⟨l, vs, vv, rfl, rfl, h2, by rw [h3.length]; exact e4, ?_⟩
      exact q _ _ μ (rs.write h1 e1 h3.dropLast) (step_write h1 h2) ((step_write h1 h2).rep _ _ rv)
    · cases e
  · cases e
theorem dMeth_le {f : DF} {g : DFs} {r : V → List V → Hp → VK → Prop} {o : D → List D → Sto → Option (D × Sto)} (hd : MethD K r o) {σ : L2.St} {H : Hp} {Q : VK} (h : tD K (dMeth o f g) σ H Q) : tBM K "list" r (tD K f) (tDs K g) σ H Q := by
  obtain ⟨ρ, st, μ, rs, re, d, st', e, q⟩ := h
  obtain ⟨p, e1, e⟩ := Option.bind_eq_some_iff.mp e
  split at e
  · rename_i hl
    obtain ⟨p2, e2, e⟩ := Option.bind_eq_some_iff.mp e
    exact ⟨ρ, st, μ, rs, re, p.1, p.2, e1, fun x H1 μ1 rs1 s1 r1 => ⟨tyV_lst rs1 r1 hl, ρ, p.2, μ1, rs1, re.step s1, p2.1, p2.2, e2, fun xs H2 μ2 rs2 s2 r2 => hd μ2 H2 p2.2 st' x xs p.1 p2.1 d Q rs2 (s2.rep _ _ r1) r2 e (q.after (s1.trans s2))⟩⟩
  · cases e
end
section
variable {X : Cx} {o e i : Expr} {f fo fi fe : DF} {apos cpos pos pos2 : Pos}
theorem d_app {g : DFs} (ho : DE X o f) (ha : DAs X [e] g) (hbase : attributeBase o "append" X.env (eval o X.env) = eval o X.env := by rfl)
    (hline : (apos.endLine == cpos.line) = true := by rfl) (hs : starEach [e] X.env = (false, eval e X.env) :: starEach [] X.env := by rfl) : DE X (.Call (.Attribute o "append" apos) [e] [] cpos) (dMeth oApp f g) :=
  imp (pe_bm PySem.F.plainAttrs_list PySem.F.slot_list_append PySem.F.type_list_append mt_append ho ha hbase (by rw [hs]; rfl) hline hs (by rfl)) fun _ _ _ h => dMeth_le md_app h
theorem d_popAt {g : DFs} (ho : DE X o f) (ha : DAs X [e] g) (hbase : attributeBase o "pop" X.env (eval o X.env) = eval o X.env := by rfl)
    (hline : (apos.endLine == cpos.line) = true := by rfl) (hs : starEach [e] X.env = (false, eval e X.env) :: starEach [] X.env := by rfl) : DE X (.Call (.Attribute o "pop" apos) [e] [] cpos) (dMeth oPopAt f g) :=
  imp (pe_bm PySem.F.plainAttrs_list PySem.F.slot_list_pop PySem.F.type_list_pop mt_popAt ho ha hbase (by rw [hs]; rfl) hline hs (by rfl)) fun _ _ _ h => dMeth_le md_popAt h
theorem d_pop (ho : DE X o f) (hbase : attributeBase o "pop" X.env (eval o X.env) = eval o X.env := by rfl) (hline : (apos.endLine == cpos.line) = true := by rfl) : DE X (.Call (.Attribute o "pop" apos) [] [] cpos) (dMeth oPop f dNil) :=
  imp (pe_bm0 PySem.F.plainAttrs_list PySem.F.slot_list_pop PySem.F.type_list_pop mt_pop ho hbase hline) fun σ H Q h => by
    obtain ⟨ρ, st, μ, rs, re, d, st', e1, q⟩ := dMeth_le md_pop h
    refine ⟨ρ, st, μ, rs, re, d, st', e1, fun x H1 μ1 rs1 s1 r1 => ?_⟩
    obtain ⟨h1, ρ2, st2, μ2, rs2, re2, ds, st3, e2, q2⟩ := q x H1 μ1 rs1 s1 r1
    cases e2
    exact ⟨h1, q2 [] H1 μ2 rs2 .refl .nil⟩

/-! ### xs[i] = e -/
def gSetIx (fe fo fi : DF) : DG := fun ρ st => (fe ρ st).bind fun p => (fo ρ p.2).bind fun q => (fi ρ q.2).bind fun r => match q.1, r.1 with
  | .ref n, .int k => match r.2[n]? with
    | some (.lst xs) => (ixN xs.length k).map fun j => (.nx, ρ, r.2.set n (.lst (xs.set j p.1)))
    | none => none
  | _, _ => none
theorem g_setIx (he : DE X e fe) (ho : DE X o fo) (hi : DE X i fi) (hs : swapsWithSole [.Subscript o i pos2] e pos.line X.env = pure false := by rfl) (hw : swappedStores [.Subscript o i pos2] e X.env = pure none := by rfl)
    (h1 : (assignEach [.Subscript o i pos2] X.env).map (·.2) = [assign (.Subscript o i pos2) X.env] := by rfl)
    (ha : ∀ v, assign (.Subscript o i pos2) X.env v = (do
      let ov ← holding [v] (eval o X.env)
      let iv ← holding [v, ov] (eval i X.env)
      standAt pos2
      holding [v, ov, iv] (setItem ov iv v)
      release [v, ov, iv] []) := by intro _; rfl) : DS X (.Assign [.Subscript o i pos2] e pos) (gSetIx fe fo fi) :=
  impS (ps_asg he (pg_sub ho hi set_list ha) hs hw h1) fun Dn σ H h => by
    obtain ⟨ρ, st, μ, rs, re, fl, ρ', st', e, q⟩ := h
    obtain ⟨p, e1, e⟩ := Option.bind_eq_some_iff.mp e
    obtain ⟨p2, e2, e⟩ := Option.bind_eq_some_iff.mp e
    obtain ⟨p3, e3, e⟩ := Option.bind_eq_some_iff.mp e
    refine ⟨ρ, st, μ, rs, re, p.1, p.2, e1, fun v H1 μ1 rs1 s1 r1 => ⟨ρ, p.2, μ1, rs1, re.step s1, p2.1, p2.2, e2, fun y H2 μ2 rs2 s2 r2 => ⟨ρ, p2.2, μ2, rs2, (re.step s1).step s2, p3.1, p3.2, e3, fun z H3 μ3 rs3 s3 r3 => ?_⟩⟩⟩
    have ry := s3.rep _ _ r2
    split at e
    · rename_i n k ea eb
      split at e
      · rename_i xs ec
        obtain ⟨j, e4, e⟩ := Option.map_eq_some_iff.mp e
        cases e
        rw [ea] at ry
        rw [eb] at r3
        cases r3
        obtain ⟨l, vs, rfl, g1, g2, g3⟩ := lst_rep rs3 ry ec
        refine ⟨l, vs, k, j, rfl, rfl, g2, by rw [g3.length]; exact e4, ?_⟩
        have st3 := step_write (o := .lst (vs.set j v)) g1 g2
        exact q σ _ μ3 (rs3.write g1 ec (Reps.set ((s2.trans s3).rep _ _ r1) j g3)) ((((re.step s1).step s2).step s3).step st3) (((s1.trans s2).trans s3).trans st3)
      · cases e
    · cases e
end

/-! ### what a call leaves behind is forgotten where nothing names it -/
mutual
def belowD (L : Nat) : D → Bool
  | .ref n => decide (n < L)
  | .tup xs => belowDs L xs
  | .fz xs => belowDs L xs
  | _ => true
def belowDs (L : Nat) : List D → Bool
  | [] => true
  | d :: ds => belowD L d && belowDs L ds
end
def belowC (L : Nat) : Cell → Bool
  | .lst xs => belowDs L xs
def dropOk (L : Nat) (st : Sto) (d : D) (st' : Sto) : Prop := L ≤ st'.length ∧ belowD L d = true ∧ ∀ i, i < L → st'[i]? = st[i]? ∨ ∃ c, st'[i]? = some c ∧ belowC L c = true
noncomputable def gcFn (F : Fn) : Fn := fun ds st => (F ds st).map fun r => @ite _ (dropOk st.length st r.1 r.2) (Classical.propDecidable _) (r.1, r.2.take st.length) r
section
variable {K : PySem.W.Frag} {μ μ' : List Addr} {H H' : Hp} {L : Nat}
mutual
theorem below_of : ∀ (d : D) (v : V), Rep K μ H v d → belowD μ.length d = true
  | .non, _, _ => by simp [belowD]
  | .bl _, _, _ => by simp [belowD]
  | .int _, _, _ => by simp [belowD]
  | .str _, _, _ => by simp [belowD]
  | .tup ds, _, h => by
    cases h with
    | tup _ h2 => simp only [belowD]; exact belows_of ds _ h2
  | .fz ds, _, h => by
    cases h with
    | fz _ h2 => simp only [belowD]; exact belows_of ds _ h2
  | .ref n, _, h => by
    cases h with
    | ref h1 => simp only [belowD]; exact decide_eq_true (List.getElem?_eq_some_iff.mp h1).1
theorem belows_of : ∀ (ds : List D) (vs : List V), Reps K μ H vs ds → belowDs μ.length ds = true
  | [], _, _ => by simp [belowDs]
  | d :: ds, _, h => by
    cases h with
    | cons h1 h2 => simp only [belowDs, below_of d _ h1, belows_of ds _ h2]; rfl
end
mutual
theorem rep_cut (hm : ∀ (n : Nat) (a : Addr), n < L → μ'[n]? = some a → μ[n]? = some a) : ∀ (d : D) (v : V), Rep K μ' H v d → belowD L d = true → Rep K μ H v d
  | .non, _, h, _ => by cases h; exact .non
  | .bl _, _, h, _ => by cases h; exact .bl _
  | .int _, _, h, _ => by cases h; exact .int _
  | .str _, _, h, _ => by cases h; exact .str _
  | .tup ds, _, h, b => by
    cases h with
    | tup h1 h2 => simp only [belowD] at b; exact .tup h1 (reps_cut hm ds _ h2 b)
  | .fz ds, _, h, b => by
    cases h with
    | fz h1 h2 => simp only [belowD] at b; exact .fz h1 (reps_cut hm ds _ h2 b)
  | .ref n, _, h, b => by
    cases h with
    | ref h1 => simp only [belowD] at b; exact .ref (hm _ _ (of_decide_eq_true b) h1)
theorem reps_cut (hm : ∀ (n : Nat) (a : Addr), n < L → μ'[n]? = some a → μ[n]? = some a) : ∀ (ds : List D) (vs : List V), Reps K μ' H vs ds → belowDs L ds = true → Reps K μ H vs ds
  | [], _, h, _ => by cases h; exact .nil
  | d :: ds, _, h, b => by
    cases h with
    | cons h1 h2 =>
      simp only [belowDs, Bool.and_eq_true] at b
      exact .cons (rep_cut hm d _ h1 b.1) (reps_cut hm ds _ h2 b.2)
end
theorem gc_post {st st' : Sto} {d : D} {Q : VK} (rs : RelS K μ H st) (ok : dropOk st.length st d st') (q : Post K μ H (st'.take st.length) d Q) : Post K μ H st' d Q := by
  intro v H' μ' rs' s' r'
  obtain ⟨x, rfl, hx⟩ := s'.ext
  have hm : ∀ (n : Nat) (a : Addr), n < st.length → (μ ++ x)[n]? = some a → μ[n]? = some a := fun n a hn h => by
    rw [List.getElem?_append_left (by rw [rs.len]; exact hn)] at h
    exact h
  have tk : ∀ {n : Nat} {c : Cell}, (st'.take st.length)[n]? = some c → n < st.length ∧ st'[n]? = some c := fun {n c} h => by
    rw [List.getElem?_take] at h
    split at h
    · exact ⟨by assumption, h⟩
    · cases h
  refine q v H' μ ⟨?_, fun n a c e1 e2 => ?_, fun i j a xs ys e1 e2 e3 e4 => ?_⟩ ⟨⟨[], by simp, by simp⟩, s'.keep, s'.dom⟩ (rep_cut hm _ _ r' ok.2.1)
  · rw [List.length_take, rs.len]
    have := ok.1
    omega
  · obtain ⟨hn, e2⟩ := tk e2
    have e1' : (μ ++ x)[n]? = some a := by
      rw [List.getElem?_append_left (by rw [rs.len]; exact hn)]
      exact e1
    have h := rs'.ok n a c e1' e2
    have hb : belowC st.length c = true := by
      rcases ok.2.2 n hn with z | ⟨c', z, hb⟩
      · rw [e2] at z
        have h0 := rs.ok n a c e1 z.symm
        cases c with
        | lst ds =>
          obtain ⟨vs, _, r⟩ := h0
          have := belows_of ds vs r
          rw [rs.len] at this
          exact this
      · rw [e2] at z
        cases z
        exact hb
    cases c with
    | lst ds =>
      obtain ⟨vs, h1, r⟩ := h
      exact ⟨vs, h1, reps_cut hm _ _ r hb⟩
  · obtain ⟨h1, e3⟩ := tk e3
    obtain ⟨h2, e4⟩ := tk e4
    refine rs'.inj i j a xs ys ?_ ?_ e3 e4
    · rw [List.getElem?_append_left (by rw [rs.len]; exact h1)]; exact e1
    · rw [List.getElem?_append_left (by rw [rs.len]; exact h2)]; exact e2
theorem spD_gc {n : Nat} {F : Fn} (vs : List V) (Q : VK) (E : XK) (h : spD K n (gcFn F) vs H Q E) : spD K n F vs H Q E := by
  obtain ⟨ds, st, μ, rs, r, hl, d, st', e, q⟩ := h
  obtain ⟨p, e1, e2⟩ := Option.map_eq_some_iff.mp e
  refine ⟨ds, st, μ, rs, r, hl, p.1, p.2, e1, ?_⟩
  split at e2
  · rename_i ok
    cases e2
    exact gc_post rs ok q
  · cases e2
    exact q
end

/-! ### a def -/
def startD (N : Nat) (ds : List D) : DEnv := ds.map some ++ List.replicate (N - ds.length) none
/-- what a body gives -/
def fnBody (N : Nat) (g : DG) : Fn := fun ds st => (g (startD N ds) st).bind fun r => match r.1 with
  | .rt d => some (d, r.2.2)
  | .nx => some (.non, r.2.2)
  | _ => none
noncomputable def fnG (N : Nat) (g : DG) : Fn := gcFn (fnBody N g)
/-- the module's name x is a def that gives F: of n values, the last ones dv by default -/
def DCall (P : Program) (w : World) (K : PySem.W.Frag) (mg : Str → Option Value) (base : Heap) (k : Nat) (x : Str) (n : Nat) (F : Fn) (dv : List D) : Prop :=
  ∃ (f : Addr) (fd : FuncData) (ps : List Str) (ds : List Value) (dvs : List V), FnOk P w K mg base CX0 k f fd ps (spD K n F) ∧ mg x = some (.ref f) ∧ PySem.W.keepIn K (.ref f) = true ∧ Binds K fd ps ds ∧ Vals dvs ds ∧ ∀ μ H, Reps K μ H dvs dv
theorem DCall.mono {P : Program} {w : World} {K : PySem.W.Frag} {mg : Str → Option Value} {base : Heap} {j k : Nat} {x : Str} {n : Nat} {F : Fn} {dv : List D} (h : DCall P w K mg base j x n F dv) (hjk : j ≤ k) : DCall P w K mg base k x n F dv := by
  obtain ⟨f, fd, ps, ds, dvs, h1, h2⟩ := h
  exact ⟨f, fd, ps, ds, dvs, h1.mono hjk, h2⟩
section
variable {X : Cx} {e : Expr} {es : List Expr} {g : DFs} {F : Fn} {n k m : Nat} {dv : List D} {x : Str} {p pos : Pos}
theorem c_call (C : DCall X.prog X.w X.K X.mg X.base k x n F dv) (hr : Room k X.A) (hg : Gl X x) (hnn : NArg g m) (hlen : m + dv.length = n) (ha : DAs X (e :: es) g) (hdb : (x == ("__debug__" : Str)) = false := by decide)
    (he : starEach (e :: es) X.env = (false, eval e X.env) :: starEach es X.env := by rfl) (hpl : (backTo pos (starEach es X.env)).any (·.1) = false := by rfl) : DE X (.Call (.Name x p) (e :: es) [] pos) (dCall F dv g) := by
  obtain ⟨f, fd, ps, ds, dvs, h1, h2, h3, h4, h5, h6⟩ := C
  exact d_call h1 hr hg h2 h3 h4 h5 h6 hnn hlen ha hdb he hpl
theorem c_call0 (C : DCall X.prog X.w X.K X.mg X.base k x n F dv) (hr : Room k X.A) (hg : Gl X x) (hlen : dv.length = n) (hdb : (x == ("__debug__" : Str)) = false := by decide) : DE X (.Call (.Name x p) [] [] pos) (dCall F dv dNil) := by
  obtain ⟨f, fd, ps, ds, dvs, h1, h2, h3, h4, h5, h6⟩ := C
  exact d_call0 h1 hr hg h2 h3 h4 h5 h6 hlen hdb
end
theorem startD_rel {K : PySem.W.Frag} {μ : List Addr} {H : Hp} {N : List Str} {vs : List V} {ds : List D} (r : Reps K μ H vs ds) : RelE K μ (L2.start N vs) H (startD N.length ds) := by
  have hl := r.length
  refine ⟨by unfold L2.start startD; simp [hl], fun i d e => ?_⟩
  unfold startD at e
  unfold L2.start
  by_cases hi : i < ds.length
  · rw [List.getElem?_append_left (by simpa using hi), List.getElem?_map] at e
    obtain ⟨d', e1, e2⟩ := Option.map_eq_some_iff.mp e
    cases e2
    obtain ⟨v, e3, rv⟩ := r.get e1
    exact ⟨v, by rw [List.getElem?_append_left (by simpa [hl] using hi), List.getElem?_map, e3]; rfl, rv⟩
  · rw [List.getElem?_append_right (by simpa using hi), List.getElem?_replicate] at e
    split at e <;> cases e
section
variable {P : Program} {w : World} {K : PySem.W.Frag} {mg : Str → Option Value} {base : Heap} {x qual : Str} {params : Arguments} {body : List Stmt} {scope : Scope} {dvs : List V} {f : Addr} {fd : FuncData} {N ps : List Str} {k : Nat} {g : DG}
/-- THE RULE for a def -/
theorem fn_ok (F : FunD K x qual params body scope dvs [] f fd) (S : FnScope N ps scope)
    (hb : ∀ (cdv : Value) (A : Around) (outer : List Env) (s : Shared) (H : Hp) (E : XK), Room k (A.deeper (envOfC qual scope s.heap.objs.size f cdv)) → DSs (cxOf CX0 P w K mg base N qual scope f cdv A outer s H E).nox body g) :
    FnOk P w K mg base CX0 (k + 1) f fd ps (spD K ps.length (fnG N.length g)) := by
  refine FnOk.imp (F.ok (sp := spD K ps.length (fnBody N.length g)) S (fun vs H Q E h => spD_len vs H Q E h) fun cdv A outer s H vs Q E hr h => ⟨_, PSs.nox (hb cdv A outer s H E hr), ?_⟩) fun vs H Q E h => spD_gc vs Q E h
  obtain ⟨ds, st, μ, rs, r, hl, d, st', e, q⟩ := h
  obtain ⟨r1, e1, e2⟩ := Option.bind_eq_some_iff.mp e
  obtain ⟨fl, ρ', st1⟩ := r1
  refine ⟨startD N.length ds, st, μ, rs, startD_rel r, fl, ρ', st1, e1, ?_⟩
  cases fl with
  | rt d' => cases e2; exact fun v H' μ' rs' s' r' => q v H' μ' rs' s' r'
  | nx => cases e2; exact fun σ' H' μ' rs' re' s' => q .non H' μ' rs' s' .non
  | bk => cases e2
  | ct => cases e2
end
end DL
end

section
set_option Elab.async false
set_option linter.all false
set_option maxRecDepth 100000
set_option maxHeartbeats 4000000
/-! The data layer, part G: the head's facts, the law's end. -/
namespace DL
open PySem PySem.Spec PyProof.Rows L2

/-! ### constants of the module -/
mutual
def conB (K : PySem.W.Frag) : D → Value → Bool
  | .non, .none => true
  | .bl b, .bool c => b == c
  | .int i, .int j _ => decide (i = j)
  | .str x, .str y _ => decide (x = y)
  | .tup ds, .ref a => (match K.lookup a with
    | some ⟨.type c, _, .seq its _, _⟩ => decide (c = "tuple") && (decide (its.size ≤ sizeLine) && conBs K ds its.toList)
    | _ => false)
  | _, _ => false
def conBs (K : PySem.W.Frag) : List D → List Value → Bool
  | [], [] => true
  | d :: ds, u :: us => conB K d u && conBs K ds us
  | _, _ => false
end
mutual
theorem con_ok {K : PySem.W.Frag} : ∀ (d : D) (u : Value), conB K d u = true → ∃ v, RelV v u ∧ ∀ μ H, Rep K μ H v d
  | .non, u, h => by
    cases u <;> simp [conB] at h
    exact ⟨.non, rfl, fun _ _ => .non⟩
  | .bl b, u, h => by
    cases u <;> simp [conB] at h
    exact ⟨.bl b, congrArg Value.bool h.symm, fun _ _ => .bl b⟩
  | .int i, u, h => by
    cases u <;> simp [conB] at h
    subst h
    exact ⟨.int i, ⟨_, rfl⟩, fun _ _ => .int i⟩
  | .str x, u, h => by
    cases u <;> simp [conB] at h
    subst h
    exact ⟨.str x, ⟨_, rfl⟩, fun _ _ => .str x⟩
  | .tup ds, u, h => by
    cases u with
    | ref a =>
      have h' : (match K.lookup a with
        | some ⟨.type c, _, .seq its _, _⟩ => decide (c = "tuple") && (decide (its.size ≤ sizeLine) && conBs K ds its.toList)
        | _ => false) = true := by simpa only [conB] using h
      cases q : K.lookup a with
      | none => rw [q] at h'; cases h'
      | some o =>
        obtain ⟨oc, od, dt, osl⟩ := o
        rw [q] at h'
        cases oc with
        | type c =>
          cases dt with
          | seq its n =>
            obtain ⟨h1, h2⟩ := Bool.and_eq_true_iff.mp h'
            obtain ⟨h3, h4⟩ := Bool.and_eq_true_iff.mp h2
            obtain ⟨vs, r1, r2⟩ := cons_ok ds _ h4
            refine ⟨.ref a, rfl, fun μ H => .tup (.inr ⟨_, its, n, q, congrArg Value.type (of_decide_eq_true h1), rfl, of_decide_eq_true h3, r1⟩) (r2 μ H)⟩
          | _ => cases h'
        | _ => cases dt <;> cases h'
    | _ => simp [conB] at h
  | .ref n, u, h => by cases u <;> simp [conB] at h
  | .fz n, u, h => by cases u <;> simp [conB] at h
theorem cons_ok {K : PySem.W.Frag} : ∀ (ds : List D) (us : List Value), conBs K ds us = true → ∃ vs, Vals vs us ∧ ∀ μ H, Reps K μ H vs ds
  | [], [], _ => ⟨[], .nil, fun _ _ => .nil⟩
  | [], _ :: _, h => by simp [conBs] at h
  | _ :: _, [], h => by simp [conBs] at h
  | d :: ds, u :: us, h => by
    simp only [conBs, Bool.and_eq_true] at h
    obtain ⟨v, r1, r2⟩ := con_ok d u h.1
    obtain ⟨vs, r3, r4⟩ := cons_ok ds us h.2
    exact ⟨v :: vs, .cons r1 r3, fun μ H => .cons (r2 μ H) (r4 μ H)⟩
end
/-- the module's name x stands for the constant d -/
def conAt (K : PySem.W.Frag) (x : Str) (d : D) : Bool := match PySem.W.nsIn K mainGlobals x with
  | some (some u) => conB K d u
  | _ => false
def ConstD (K : PySem.W.Frag) (mg : Str → Option Value) (x : Str) (d : D) : Prop := ∃ (u : Value) (v : V), mg x = some u ∧ RelV v u ∧ ∀ μ H, Rep K μ H v d
theorem conAt_ok {K : PySem.W.Frag} {h : Heap} {mg : Str → Option Value} (X : K.In h) (G : h.Ns mainGlobals mg) {x : Str} {d : D} (c : conAt K x d = true) : ConstD K mg x d := by
  unfold conAt at c
  split at c
  · rename_i u e
    obtain ⟨v, r1, r2⟩ := con_ok d u c
    exact ⟨u, v, PySem.W.mg_of X G e, r1, r2⟩
  · cases c
theorem c_glob {X : Cx} {x : Str} {d : D} {pos : Pos} (h : ConstD X.K X.mg x d) (hg : Gl X x) (hd : (x == ("__debug__" : Str)) = false := by decide) : DE X (.Name x pos) (dC d) := by
  obtain ⟨u, v, h1, h2, h3⟩ := h
  exact d_glob hg h1 h2 h3 hd

/-! ### the head -/
open He
abbrev AlE : Type := AlD × Bool
def obsE (n : Nat) (fa : List Fa) (fn : List DefD) (ex : PySem.W.Frag → Bool) (g : Addr → Option Obj) : AlE := (obsD fa fn (frG g (asD g n)), ex (frG g (asD g n)))
def hookE (n : Nat) (fa : List Fa) (fn : List DefD) (ex : PySem.W.Frag → Bool) : PySem.W.Hook where
  α := AlE
  obs := fun s => obsE n fa fn ex s.heap.get?
  val := fun _ => (valD fn, true)
  says := fun _ h => ∃ K : PySem.W.Frag, K.In h ∧ SaysD fa fn K ∧ ex K = true
  of := fun _ _ e => ⟨_, frG_in, congrArg (fun z : AlE => z.1) e, congrArg (fun z : AlE => z.2) e⟩
  keeps := fun _ _ _ ⟨K, hK, c⟩ k => ⟨K, PySem.W.Frag.In.keeps hK k, c⟩
theorem obsE_eq {n : Nat} {fa : List Fa} {fn : List DefD} {ex : PySem.W.Frag → Bool} {g : Addr → Option Obj} {s : Shared} (h : ∀ a, g a = s.heap.get? a) : obsE n fa fn ex g = (hookE n fa fn ex).obs s := by
  have e : g = s.heap.get? := funext h
  rw [e] <;> rfl
/-- one def of the text without defaults; with them -/
def defD (x : Str) (s : Stmt) (dfl : List Dv := []) : DefD := ⟨(x, none), x, x, defArgs s, defBody s, defScope s, dfl, []⟩

/-! ### the script -/
theorem frz_of {K : PySem.W.Frag} {H : Hp} {a : Addr} {vs : List V} (hO : Only H) (h : SqL K H a vs) : Frz K H a vs := fun H' k => by
  rcases h with (h | ⟨o, h⟩) | h
  · rcases hO a with z | ⟨o, xs, z⟩
    · rw [h] at z; cases z
    · rw [h] at z; cases z
  · exact .inl (.inr ⟨o, k _ h rfl⟩)
  · exact .inr h
theorem ints_reps {K : PySem.W.Frag} {μ : List Addr} {H : Hp} : ∀ ns : List Int, Reps K μ H (ns.map V.int) (ns.map D.int)
  | [] => .nil
  | n :: ns => .cons (.int n) (ints_reps ns)
/-- the law's promise from what its def gives -/
theorem law_sp {K : PySem.W.Frag} {F : Fn} {ns : List Int} (h : ∃ st', F [.fz (ns.map D.int)] [] = some (.bl true, st')) {H : Hp} {a : Addr} (hO : Only H) (hS : SqL K H a (ns.map V.int)) {E : XK} :
    spD K 1 F [.ref a] H (fun v _ => v = .bl true) E := by
  obtain ⟨st', e⟩ := h
  refine ⟨[.fz (ns.map D.int)], [], [], ⟨rfl, fun n a c e1 _ => by simp at e1, fun i j a xs ys e1 _ _ _ => by simp at e1⟩, .cons (.fz (frz_of hO hS) (ints_reps ns)) .nil, rfl, _, st', e, ?_⟩
  intro v H' μ' _ _ r
  cases r
  rfl
/-- how a def stands: called with all its values -/
theorem dcall {P : Program} {w : World} {K : PySem.W.Frag} {mg : Str → Option Value} {base : Heap} {k n : Nat} {F : Fn} {x : Str} {f : Addr} {fd : FuncData} {ps : List Str} (h : FnOk P w K mg base CX0 k f fd ps (spD K n F)) (hm : mg x = some (.ref f)) (kp : PySem.W.keepIn K (.ref f) = true)
    (b : Binds K fd ps []) : DCall P w K mg base k x n F [] := ⟨f, fd, ps, [], [], h, hm, kp, b, .nil, fun _ _ => .nil⟩
theorem dcallD {P : Program} {w : World} {K : PySem.W.Frag} {mg : Str → Option Value} {base : Heap} {k n : Nat} {F : Fn} {x : Str} {f : Addr} {fd : FuncData} {ps : List Str} {dvs : List V} {dv : List D} (h : FnOk P w K mg base CX0 k f fd ps (spD K n F)) (hm : mg x = some (.ref f)) (kp : PySem.W.keepIn K (.ref f) = true)
    (b : ∃ ds, Vals dvs ds ∧ Binds K fd ps ds) (hv : ∀ μ H, Reps K μ H dvs dv) : DCall P w K mg base k x n F dv := by
  obtain ⟨ds, r, b⟩ := b
  exact ⟨f, fd, ps, ds, dvs, h, hm, kp, b, r, hv⟩
theorem fn_none {P : Program} {w : World} {K : PySem.W.Frag} {mg : Str → Option Value} {base : Heap} {k n : Nat} {f : Addr} {fd : FuncData} {ps : List Str} : FnOk P w K mg base CX0 k f fd ps (spD K n fun _ _ => none) where
  len := fun vs H Q E h => by
    obtain ⟨_, _, _, _, _, _, _, _, e, _⟩ := h
    cases e
  run := fun A outer s H args us vs Q E _ _ _ _ h => by
    obtain ⟨_, _, _, _, _, _, _, _, e, _⟩ := h
    cases e
theorem hu65 {A : Around} {k : Nat} (hr : Room k A) : A.units + 65 < cLine := by have := hr.un; omega
/-! ### op= -/
def oAddI : D → D → Sto → Option (D × Sto)
  | .int i, .int j, st => some (.int (i + j), st)
  | _, _, _ => none
theorem od_addI {K : PySem.W.Frag} : OpD K (rI0 fun i j => .int (i + j)) oAddI := by
  intro μ H st st' x y a b d Q rs rx ry e q
  cases rx with
  | int i =>
    cases ry with
    | int j => cases e; exact ⟨i, j, rfl, rfl, q _ H μ rs .refl (.int _)⟩
    | _ => cases e
  | _ => cases e
end DL
end

section
set_option Elab.async false
set_option linter.all false
set_option maxRecDepth 100000
set_option maxHeartbeats 4000000
/-! The walk of law_k46_stretches: printed by gen.py. -/
namespace W
open PySem PySem.Spec PyProof.Rows L2 DL
def topS (i : Nat) : Stmt := PySem.Challenge.pw_camhouse_k46_stretches.main.body.getD i (.Pass ⟨0, 0, 0, 0⟩)
def C_WHOLE_MOVE : D := (.tup [(.tup [(.int 0), (.int 1)]), (.bl true), (.tup [(.int 1), (.int 1)]), (.bl true)])
variable {P : Program} {w : World} {K : PySem.W.Frag} {mg : Str → Option Value} {base : Heap}
/-! ### gcd_of -/
abbrev s_gcd_of : Stmt := topS 1
theorem sc_gcd_of : FnScope ["one", "other", "left", "right"] ["one", "other"] (defScope s_gcd_of) := ⟨rfl, rfl, rfl, by decide +kernel, rfl, by decide +kernel, by decide +kernel⟩
def fuel_gcd_of : DEnv → Sto → Nat := fun ρ _ => match ρ[3]? with | some (some (D.int i)) => i.natAbs + 1 | _ => 0
noncomputable def G_gcd_of : DG := (gSeq (gSet 2 (dCB bAbs (dCons (dVar 0) dNil)))
    (gSeq (gSet 3 (dCB bAbs (dCons (dVar 1) dNil)))
    (gSeq (gWhile fuel_gcd_of (dTr (dVar 3)) (gPar 2 3 (dCons (dVar 3) (dCons (dBin oMod (dVar 2) (dVar 3)) dNil))))
    (gRet (dVar 2)))))
noncomputable def F_gcd_of : Fn := fnG 4 G_gcd_of
theorem ok_gcd_of {f : Addr} {fd : FuncData} (F : FunD K "gcd_of" "gcd_of" (defArgs s_gcd_of) (defBody s_gcd_of) (defScope s_gcd_of) [] [] f fd) (m_abs : mg "abs" = none) :
    FnOk P w K mg base CX0 1 f fd ["one", "other"] (spD K 2 F_gcd_of) := by
  have nd := sc_gcd_of.nd
  exact fn_ok F sc_gcd_of fun cdv A outer s H E hr => (gs_cons (g_set 2 nd rfl (.inl rfl) (d_callB call_abs cd_abs (by rfl) m_abs (by decide +kernel) (da_cons (d_var 0 rfl (.inl rfl)) da_nil)))
    (gs_cons (g_set 3 nd rfl (.inl rfl) (d_callB call_abs cd_abs (by rfl) m_abs (by decide +kernel) (da_cons (d_var 1 rfl (.inl rfl)) da_nil)))
    (gs_cons (g_while fuel_gcd_of PassesOwn.never (dt_tr (d_var 3 rfl (.inl rfl)) (by intro _; rfl)) (gs_one (g_par 2 3 rfl nd rfl rfl (by decide) rfl rfl (da_cons (d_var 3 rfl (.inl rfl)) (da_cons (d_bin op_modN od_mod (d_var 2 rfl (.inl rfl)) (d_var 3 rfl (.inl rfl))) da_nil)) (by rfl))))
    (gs_one (g_ret (d_var 2 rfl (.inl rfl)))))))
/-! ### ratio -/
abbrev s_ratio : Stmt := topS 3
theorem sc_ratio : FnScope ["above", "below", "common"] ["above", "below"] (defScope s_ratio) := ⟨rfl, rfl, rfl, by decide +kernel, rfl, by decide +kernel, by decide +kernel⟩
noncomputable def G_ratio : DG := (gSeq (gSet 2 (dCall F_gcd_of [] (dCons (dVar 0) (dCons (dVar 1) dNil))))
    (gSeq (gIf (dB (dBin oLt (dVar 1) (dC (.int 0)))) (gSet 2 (dUn oNeg (dVar 2))) gNext)
    (gRet (dTup (dCons (dBin oFdiv (dVar 0) (dVar 2)) (dCons (dBin oFdiv (dVar 1) (dVar 2)) dNil))))))
noncomputable def F_ratio : Fn := fnG 3 G_ratio
theorem ok_ratio {f : Addr} {fd : FuncData} (F : FunD K "ratio" "ratio" (defArgs s_ratio) (defBody s_ratio) (defScope s_ratio) [(.int 1)] [] f fd) (c_gcd_of : DCall P w K mg base 1 "gcd_of" 2 F_gcd_of []) :
    FnOk P w K mg base CX0 2 f fd ["above", "below"] (spD K 2 F_ratio) := by
  have nd := sc_ratio.nd
  exact fn_ok F sc_ratio fun cdv A outer s H E hr => (gs_cons (g_set 2 nd rfl (.inl rfl) (c_call c_gcd_of (hr.mono (by omega)) (by rfl) (narg_cons (narg_cons narg_nil)) rfl (da_cons (d_var 0 rfl (.inl rfl)) (da_cons (d_var 1 rfl (.inl rfl)) da_nil))))
    (gs_cons (g_if (dt_cmp op_ltA od_ord (d_var 1 rfl (.inl rfl)) d_int (nomark _)) (gs_one (g_set 2 nd rfl (.inl rfl) (d_un un_neg ud_neg (d_var 2 rfl (.inl rfl))))) gs_nil)
    (gs_one (g_ret (d_tup (da_cons (d_bin op_fdivA od_fdiv (d_var 0 rfl (.inl rfl)) (d_var 2 rfl (.inl rfl))) (da_cons (d_bin op_fdivA od_fdiv (d_var 1 rfl (.inl rfl)) (d_var 2 rfl (.inl rfl))) da_nil)))))))
/-! ### add_ratio -/
abbrev s_add_ratio : Stmt := topS 4
theorem sc_add_ratio : FnScope ["one", "other"] ["one", "other"] (defScope s_add_ratio) := ⟨rfl, rfl, rfl, by decide +kernel, rfl, by decide +kernel, by decide +kernel⟩
noncomputable def G_add_ratio : DG := (gRet (dCall F_ratio [] (dCons (dBin oAdd (dBin oMul (dBin oIx (dVar 0) (dC (.int 0))) (dBin oIx (dVar 1) (dC (.int 1)))) (dBin oMul (dBin oIx (dVar 1) (dC (.int 0))) (dBin oIx (dVar 0) (dC (.int 1))))) (dCons (dBin oMul (dBin oIx (dVar 0) (dC (.int 1))) (dBin oIx (dVar 1) (dC (.int 1)))) dNil))))
noncomputable def F_add_ratio : Fn := fnG 2 G_add_ratio
theorem ok_add_ratio {f : Addr} {fd : FuncData} (F : FunD K "add_ratio" "add_ratio" (defArgs s_add_ratio) (defBody s_add_ratio) (defScope s_add_ratio) [] [] f fd) (c_ratio : DCall P w K mg base 2 "ratio" 2 F_ratio []) :
    FnOk P w K mg base CX0 3 f fd ["one", "other"] (spD K 2 F_add_ratio) := by
  have nd := sc_add_ratio.nd
  exact fn_ok F sc_add_ratio fun cdv A outer s H E hr => (gs_one (g_ret (c_call c_ratio (hr.mono (by omega)) (by rfl) (narg_cons (narg_cons narg_nil)) rfl (da_cons (d_bin op_addA od_add (d_bin op_mulB od_mul (d_ix ix_seq od_ix (d_var 0 rfl (.inl rfl)) d_int (fun _ _ => rfl)) (d_ix ix_seq od_ix (d_var 1 rfl (.inl rfl)) d_int (fun _ _ => rfl))) (d_bin op_mulB od_mul (d_ix ix_seq od_ix (d_var 1 rfl (.inl rfl)) d_int (fun _ _ => rfl)) (d_ix ix_seq od_ix (d_var 0 rfl (.inl rfl)) d_int (fun _ _ => rfl)))) (da_cons (d_bin op_mulB od_mul (d_ix ix_seq od_ix (d_var 0 rfl (.inl rfl)) d_int (fun _ _ => rfl)) (d_ix ix_seq od_ix (d_var 1 rfl (.inl rfl)) d_int (fun _ _ => rfl))) da_nil)))))
/-! ### times_ratio -/
abbrev s_times_ratio : Stmt := topS 5
theorem sc_times_ratio : FnScope ["one", "other"] ["one", "other"] (defScope s_times_ratio) := ⟨rfl, rfl, rfl, by decide +kernel, rfl, by decide +kernel, by decide +kernel⟩
noncomputable def G_times_ratio : DG := (gRet (dCall F_ratio [] (dCons (dBin oMul (dBin oIx (dVar 0) (dC (.int 0))) (dBin oIx (dVar 1) (dC (.int 0)))) (dCons (dBin oMul (dBin oIx (dVar 0) (dC (.int 1))) (dBin oIx (dVar 1) (dC (.int 1)))) dNil))))
noncomputable def F_times_ratio : Fn := fnG 2 G_times_ratio
theorem ok_times_ratio {f : Addr} {fd : FuncData} (F : FunD K "times_ratio" "times_ratio" (defArgs s_times_ratio) (defBody s_times_ratio) (defScope s_times_ratio) [] [] f fd) (c_ratio : DCall P w K mg base 2 "ratio" 2 F_ratio []) :
    FnOk P w K mg base CX0 3 f fd ["one", "other"] (spD K 2 F_times_ratio) := by
  have nd := sc_times_ratio.nd
  exact fn_ok F sc_times_ratio fun cdv A outer s H E hr => (gs_one (g_ret (c_call c_ratio (hr.mono (by omega)) (by rfl) (narg_cons (narg_cons narg_nil)) rfl (da_cons (d_bin op_mulB od_mul (d_ix ix_seq od_ix (d_var 0 rfl (.inl rfl)) d_int (fun _ _ => rfl)) (d_ix ix_seq od_ix (d_var 1 rfl (.inl rfl)) d_int (fun _ _ => rfl))) (da_cons (d_bin op_mulB od_mul (d_ix ix_seq od_ix (d_var 0 rfl (.inl rfl)) d_int (fun _ _ => rfl)) (d_ix ix_seq od_ix (d_var 1 rfl (.inl rfl)) d_int (fun _ _ => rfl))) da_nil)))))
/-! ### less_ratio -/
abbrev s_less_ratio : Stmt := topS 6
theorem sc_less_ratio : FnScope ["one", "other"] ["one", "other"] (defScope s_less_ratio) := ⟨rfl, rfl, rfl, by decide +kernel, rfl, by decide +kernel, by decide +kernel⟩
noncomputable def G_less_ratio : DG := (gRet (dBin oLt (dBin oMul (dBin oIx (dVar 0) (dC (.int 0))) (dBin oIx (dVar 1) (dC (.int 1)))) (dBin oMul (dBin oIx (dVar 1) (dC (.int 0))) (dBin oIx (dVar 0) (dC (.int 1))))))
noncomputable def F_less_ratio : Fn := fnG 2 G_less_ratio
theorem ok_less_ratio {f : Addr} {fd : FuncData} (F : FunD K "less_ratio" "less_ratio" (defArgs s_less_ratio) (defBody s_less_ratio) (defScope s_less_ratio) [] [] f fd)  :
    FnOk P w K mg base CX0 1 f fd ["one", "other"] (spD K 2 F_less_ratio) := by
  have nd := sc_less_ratio.nd
  exact fn_ok F sc_less_ratio fun cdv A outer s H E hr => (gs_one (g_ret (d_cmp op_ltA od_ord (d_bin op_mulB od_mul (d_ix ix_seq od_ix (d_var 0 rfl (.inl rfl)) d_int (fun _ _ => rfl)) (d_ix ix_seq od_ix (d_var 1 rfl (.inl rfl)) d_int (fun _ _ => rfl))) (d_bin op_mulB od_mul (d_ix ix_seq od_ix (d_var 1 rfl (.inl rfl)) d_int (fun _ _ => rfl)) (d_ix ix_seq od_ix (d_var 0 rfl (.inl rfl)) d_int (fun _ _ => rfl))) (nomark _))))
/-! ### middle_ratio -/
abbrev s_middle_ratio : Stmt := topS 7
theorem sc_middle_ratio : FnScope ["one", "other"] ["one", "other"] (defScope s_middle_ratio) := ⟨rfl, rfl, rfl, by decide +kernel, rfl, by decide +kernel, by decide +kernel⟩
noncomputable def G_middle_ratio : DG := (gRet (dCall F_times_ratio [] (dCons (dCall F_add_ratio [] (dCons (dVar 0) (dCons (dVar 1) dNil))) (dCons (dTup (dCons (dC (.int 1)) (dCons (dC (.int 2)) dNil))) dNil))))
noncomputable def F_middle_ratio : Fn := fnG 2 G_middle_ratio
theorem ok_middle_ratio {f : Addr} {fd : FuncData} (F : FunD K "middle_ratio" "middle_ratio" (defArgs s_middle_ratio) (defBody s_middle_ratio) (defScope s_middle_ratio) [] [] f fd) (c_times_ratio : DCall P w K mg base 3 "times_ratio" 2 F_times_ratio []) (c_add_ratio : DCall P w K mg base 3 "add_ratio" 2 F_add_ratio []) :
    FnOk P w K mg base CX0 4 f fd ["one", "other"] (spD K 2 F_middle_ratio) := by
  have nd := sc_middle_ratio.nd
  exact fn_ok F sc_middle_ratio fun cdv A outer s H E hr => (gs_one (g_ret (c_call c_times_ratio (hr.mono (by omega)) (by rfl) (narg_cons (narg_cons narg_nil)) rfl (da_cons (c_call c_add_ratio (hr.mono (by omega)) (by rfl) (narg_cons (narg_cons narg_nil)) rfl (da_cons (d_var 0 rfl (.inl rfl)) (da_cons (d_var 1 rfl (.inl rfl)) da_nil))) (da_cons (d_tup (da_cons d_int (da_cons d_int da_nil))) da_nil)))))
/-! ### holds_at -/
abbrev s_holds_at : Stmt := topS 10
theorem sc_holds_at : FnScope ["condition", "moment"] ["condition", "moment"] (defScope s_holds_at) := ⟨rfl, rfl, rfl, by decide +kernel, rfl, by decide +kernel, by decide +kernel⟩
noncomputable def G_holds_at : DG := (gRet (dBin oGt (dBin oAdd (dBin oMul (dBin oIx (dVar 0) (dC (.int 0))) (dBin oIx (dVar 1) (dC (.int 1)))) (dBin oMul (dBin oIx (dVar 0) (dC (.int 1))) (dBin oIx (dVar 1) (dC (.int 0))))) (dC (.int 0))))
noncomputable def F_holds_at : Fn := fnG 2 G_holds_at
theorem ok_holds_at {f : Addr} {fd : FuncData} (F : FunD K "holds_at" "holds_at" (defArgs s_holds_at) (defBody s_holds_at) (defScope s_holds_at) [] [] f fd)  :
    FnOk P w K mg base CX0 1 f fd ["condition", "moment"] (spD K 2 F_holds_at) := by
  have nd := sc_holds_at.nd
  exact fn_ok F sc_holds_at fun cdv A outer s H E hr => (gs_one (g_ret (d_cmp op_gtA od_ord (d_bin op_addA od_add (d_bin op_mulB od_mul (d_ix ix_seq od_ix (d_var 0 rfl (.inl rfl)) d_int (fun _ _ => rfl)) (d_ix ix_seq od_ix (d_var 1 rfl (.inl rfl)) d_int (fun _ _ => rfl))) (d_bin op_mulB od_mul (d_ix ix_seq od_ix (d_var 0 rfl (.inl rfl)) d_int (fun _ _ => rfl)) (d_ix ix_seq od_ix (d_var 1 rfl (.inl rfl)) d_int (fun _ _ => rfl)))) d_int (nomark _))))
/-! ### narrowed -/
abbrev s_narrowed : Stmt := topS 11
theorem sc_narrowed : FnScope ["told", "condition", "low", "low_in", "high", "high_in", "bound"] ["told", "condition"] (defScope s_narrowed) := ⟨rfl, rfl, rfl, by decide +kernel, rfl, by decide +kernel, by decide +kernel⟩
noncomputable def G_narrowed : DG := (gSeq (gAsg (dVar 0) (nTup 4 (nCons (nName 2) (nCons (nName 3) (nCons (nName 4) (nCons (nName 5) nNil))))))
    (gSeq (gIf (dB (dBin oEq (dBin oIx (dVar 1) (dC (.int 1))) (dC (.int 0)))) (gSeq (gIf (dB (dBin oGt (dBin oIx (dVar 1) (dC (.int 0))) (dC (.int 0)))) (gRet (dVar 0)) gNext)
    (gRet (dC .non))) gNext)
    (gSeq (gSet 6 (dCall F_ratio [] (dCons (dUn oNeg (dBin oIx (dVar 1) (dC (.int 0)))) (dCons (dBin oIx (dVar 1) (dC (.int 1))) dNil))))
    (gSeq (gIf (dB (dBin oGt (dBin oIx (dVar 1) (dC (.int 1))) (dC (.int 0)))) (gIf (dNotT (dTr (dCall F_less_ratio [] (dCons (dVar 6) (dCons (dVar 2) dNil))))) (gSeq (gSet 2 (dVar 6))
    (gSet 3 (dC (.bl false)))) gNext) (gIf (dNotT (dTr (dCall F_less_ratio [] (dCons (dVar 4) (dCons (dVar 6) dNil))))) (gSeq (gSet 4 (dVar 6))
    (gSet 5 (dC (.bl false)))) gNext))
    (gSeq (gIf (dNotT (dTr (dCall F_less_ratio [] (dCons (dVar 2) (dCons (dVar 4) dNil))))) (gRet (dC .non)) gNext)
    (gRet (dTup (dCons (dVar 2) (dCons (dVar 3) (dCons (dVar 4) (dCons (dVar 5) dNil)))))))))))
noncomputable def F_narrowed : Fn := fnG 7 G_narrowed
theorem ok_narrowed {f : Addr} {fd : FuncData} (F : FunD K "narrowed" "narrowed" (defArgs s_narrowed) (defBody s_narrowed) (defScope s_narrowed) [] [] f fd) (c_ratio : DCall P w K mg base 2 "ratio" 2 F_ratio []) (c_less_ratio : DCall P w K mg base 1 "less_ratio" 2 F_less_ratio []) :
    FnOk P w K mg base CX0 3 f fd ["told", "condition"] (spD K 2 F_narrowed) := by
  have nd := sc_narrowed.nd
  exact fn_ok F sc_narrowed fun cdv A outer s H E hr => (gs_cons (g_asg (d_var 0 rfl (.inl rfl)) (t_tup rfl (ts_cons (t_name 2 nd rfl (.inl rfl)) (ts_cons (t_name 3 nd rfl (.inl rfl)) (ts_cons (t_name 4 nd rfl (.inl rfl)) (ts_cons (t_name 5 nd rfl (.inl rfl)) ts_nil))))))
    (gs_cons (g_if (dt_cmp (op_eqA hr.units) od_eq (d_ix ix_seq od_ix (d_var 1 rfl (.inl rfl)) d_int (fun _ _ => rfl)) d_int (nomark _)) (gs_cons (g_if (dt_cmp op_gtA od_ord (d_ix ix_seq od_ix (d_var 1 rfl (.inl rfl)) d_int (fun _ _ => rfl)) d_int (nomark _)) (gs_one (g_ret (d_var 0 rfl (.inl rfl)))) gs_nil)
    (gs_one (g_ret d_non))) gs_nil)
    (gs_cons (g_set 6 nd rfl (.inl rfl) (c_call c_ratio (hr.mono (by omega)) (by rfl) (narg_cons (narg_cons narg_nil)) rfl (da_cons (d_un un_neg ud_neg (d_ix ix_seq od_ix (d_var 1 rfl (.inl rfl)) d_int (fun _ _ => rfl))) (da_cons (d_ix ix_seq od_ix (d_var 1 rfl (.inl rfl)) d_int (fun _ _ => rfl)) da_nil))))
    (gs_cons (g_if (dt_cmp op_gtA od_ord (d_ix ix_seq od_ix (d_var 1 rfl (.inl rfl)) d_int (fun _ _ => rfl)) d_int (nomark _)) (gs_one (g_if (dt_not (dt_tr (c_call c_less_ratio (hr.mono (by omega)) (by rfl) (narg_cons (narg_cons narg_nil)) rfl (da_cons (d_var 6 rfl (.inl rfl)) (da_cons (d_var 2 rfl (.inl rfl)) da_nil))) (by intro _; rfl))) (gs_cons (g_set 2 nd rfl (.inl rfl) (d_var 6 rfl (.inl rfl)))
    (gs_one (g_set 3 nd rfl (.inl rfl) d_bl))) gs_nil)) (gs_one (g_if (dt_not (dt_tr (c_call c_less_ratio (hr.mono (by omega)) (by rfl) (narg_cons (narg_cons narg_nil)) rfl (da_cons (d_var 4 rfl (.inl rfl)) (da_cons (d_var 6 rfl (.inl rfl)) da_nil))) (by intro _; rfl))) (gs_cons (g_set 4 nd rfl (.inl rfl) (d_var 6 rfl (.inl rfl)))
    (gs_one (g_set 5 nd rfl (.inl rfl) d_bl))) gs_nil)))
    (gs_cons (g_if (dt_not (dt_tr (c_call c_less_ratio (hr.mono (by omega)) (by rfl) (narg_cons (narg_cons narg_nil)) rfl (da_cons (d_var 2 rfl (.inl rfl)) (da_cons (d_var 4 rfl (.inl rfl)) da_nil))) (by intro _; rfl))) (gs_one (g_ret d_non)) gs_nil)
    (gs_one (g_ret (d_tup (da_cons (d_var 2 rfl (.inl rfl)) (da_cons (d_var 3 rfl (.inl rfl)) (da_cons (d_var 4 rfl (.inl rfl)) (da_cons (d_var 5 rfl (.inl rfl)) da_nil))))))))))))
/-! ### stretch -/
abbrev s_stretch : Stmt := topS 12
theorem sc_stretch : FnScope ["conditions", "told", "condition"] ["conditions"] (defScope s_stretch) := ⟨rfl, rfl, rfl, by decide +kernel, rfl, by decide +kernel, by decide +kernel⟩
noncomputable def G_stretch : DG := (gSeq (gSet 1 (dC C_WHOLE_MOVE))
    (gSeq (gFor (srcOf (dVar 0)) (nName 2) (gSeq (gSet 1 (dCall F_narrowed [] (dCons (dVar 1) (dCons (dVar 2) dNil))))
    (gIf (dB (dBin oIsN (dVar 1) (dC .non))) (gRet (dC .non)) gNext)))
    (gRet (dVar 1))))
noncomputable def F_stretch : Fn := fnG 3 G_stretch
theorem ok_stretch {f : Addr} {fd : FuncData} (F : FunD K "stretch" "stretch" (defArgs s_stretch) (defBody s_stretch) (defScope s_stretch) [] [] f fd) (c_narrowed : DCall P w K mg base 3 "narrowed" 2 F_narrowed []) (k_WHOLE_MOVE : ConstD K mg "WHOLE_MOVE" C_WHOLE_MOVE) :
    FnOk P w K mg base CX0 4 f fd ["conditions"] (spD K 1 F_stretch) := by
  have nd := sc_stretch.nd
  exact fn_ok F sc_stretch fun cdv A outer s H E hr => (gs_cons (g_set 1 nd rfl (.inl rfl) (c_glob k_WHOLE_MOVE (by rfl)))
    (gs_cons (g_for PassesOwn.never rfl (i_seq (d_var 0 rfl (.inl rfl))) (t_name 2 nd rfl (.inl rfl)) (gs_cons (g_set 1 nd rfl (.inl rfl) (c_call c_narrowed (hr.mono (by omega)) (by rfl) (narg_cons (narg_cons narg_nil)) rfl (da_cons (d_var 1 rfl (.inl rfl)) (da_cons (d_var 2 rfl (.inl rfl)) da_nil))))
    (gs_one (g_if (dt_cmp op_isN od_isN (d_var 1 rfl (.inl rfl)) d_non (nomark _)) (gs_one (g_ret d_non)) gs_nil))))
    (gs_one (g_ret (d_var 1 rfl (.inl rfl))))))
/-! ### middle_moment -/
abbrev s_middle_moment : Stmt := topS 13
theorem sc_middle_moment : FnScope ["told"] ["told"] (defScope s_middle_moment) := ⟨rfl, rfl, rfl, by decide +kernel, rfl, by decide +kernel, by decide +kernel⟩
noncomputable def G_middle_moment : DG := (gRet (dCall F_middle_ratio [] (dCons (dBin oIx (dVar 0) (dC (.int 0))) (dCons (dBin oIx (dVar 0) (dC (.int 2))) dNil))))
noncomputable def F_middle_moment : Fn := fnG 1 G_middle_moment
theorem ok_middle_moment {f : Addr} {fd : FuncData} (F : FunD K "middle_moment" "middle_moment" (defArgs s_middle_moment) (defBody s_middle_moment) (defScope s_middle_moment) [] [] f fd) (c_middle_ratio : DCall P w K mg base 4 "middle_ratio" 2 F_middle_ratio []) :
    FnOk P w K mg base CX0 5 f fd ["told"] (spD K 1 F_middle_moment) := by
  have nd := sc_middle_moment.nd
  exact fn_ok F sc_middle_moment fun cdv A outer s H E hr => (gs_one (g_ret (c_call c_middle_ratio (hr.mono (by omega)) (by rfl) (narg_cons (narg_cons narg_nil)) rfl (da_cons (d_ix ix_seq od_ix (d_var 0 rfl (.inl rfl)) d_int (fun _ _ => rfl)) (da_cons (d_ix ix_seq od_ix (d_var 0 rfl (.inl rfl)) d_int (fun _ _ => rfl)) da_nil)))))
/-! ### excludes -/
abbrev s_excludes : Stmt := topS 14
theorem sc_excludes : FnScope ["one", "other"] ["one", "other"] (defScope s_excludes) := ⟨rfl, rfl, rfl, by decide +kernel, rfl, by decide +kernel, by decide +kernel⟩
noncomputable def G_excludes : DG := (gRet (dBin oIsN (dCall F_stretch [] (dCons (dTup (dCons (dVar 0) (dCons (dVar 1) dNil))) dNil)) (dC .non)))
noncomputable def F_excludes : Fn := fnG 2 G_excludes
theorem ok_excludes {f : Addr} {fd : FuncData} (F : FunD K "excludes" "excludes" (defArgs s_excludes) (defBody s_excludes) (defScope s_excludes) [] [] f fd) (c_stretch : DCall P w K mg base 4 "stretch" 1 F_stretch []) :
    FnOk P w K mg base CX0 5 f fd ["one", "other"] (spD K 2 F_excludes) := by
  have nd := sc_excludes.nd
  exact fn_ok F sc_excludes fun cdv A outer s H E hr => (gs_one (g_ret (d_cmp op_isN od_isN (c_call c_stretch (hr.mono (by omega)) (by rfl) (narg_cons narg_nil) rfl (da_cons (d_tup (da_cons (d_var 0 rfl (.inl rfl)) (da_cons (d_var 1 rfl (.inl rfl)) da_nil))) da_nil)) d_non (nomark _))))
/-! ### _law_draw -/
abbrev s_n_law_draw : Stmt := topS 16
theorem sc_n_law_draw : FnScope ["script", "j", "place", "cell", "k", "mixed"] ["script", "j"] (defScope s_n_law_draw) := ⟨rfl, rfl, rfl, by decide +kernel, rfl, by decide +kernel, by decide +kernel⟩
noncomputable def G_n_law_draw : DG := (gSeq (gIf (dNotT (dTr (dVar 0))) (gRet (dC (.int 0))) gNext)
    (gSeq (gSet 2 (dBin oFdiv (dVar 1) (dC (.int 8))))
    (gSeq (gSet 3 (dBin oMod (dCB bInt (dCons (dBin oIx (dVar 0) (dBin oMod (dVar 2) (dCB bMin2 (dCons (dCB bLen (dCons (dVar 0) dNil)) (dCons (dC (.int 63)) dNil))))) dNil)) (dBin oPow (dC (.int 10)) (dC (.int 40)))))
    (gSeq (gIf (dAndT (dB (dBin oLt (dVar 2) (dCB bMin2 (dCons (dCB bLen (dCons (dVar 0) dNil)) (dCons (dC (.int 63)) dNil))))) (dB (dBin oGe (dVar 3) (dBin oPow (dC (.int 10)) (dC (.int 24)))))) (gSeq (gFor (srcRng1 (dCons (dBin oMod (dCB bInt (dCons (dVar 1) dNil)) (dC (.int 8))) dNil)) (nName 4) (gSet 3 (dBin oFdiv (dVar 3) (dC (.int 1000)))))
    (gRet (dBin oMod (dVar 3) (dC (.int 1000))))) gNext)
    (gSeq (gSet 5 (dBin oMod (dCB bInt (dCons (dBin oMul (dBin oAdd (dVar 3) (dC (.int 7))) (dBin oAdd (dBin oMul (dC (.int 2)) (dVar 1)) (dC (.int 5)))) dNil)) (dC (.int 1000003))))
    (gSeq (gSet 5 (dBin oMod (dCB bInt (dCons (dBin oAdd (dBin oAdd (dBin oMul (dVar 5) (dVar 5)) (dBin oMul (dC (.int 48271)) (dVar 1))) (dVar 3)) dNil)) (dC (.int 998244353))))
    (gSeq (gSet 5 (dBin oMod (dCB bInt (dCons (dBin oAdd (dBin oAdd (dBin oMul (dVar 5) (dVar 5)) (dBin oMul (dC (.int 69621)) (dVar 5))) (dBin oMul (dC (.int 13)) (dVar 1))) dNil)) (dC (.int 1000000007))))
    (gRet (dBin oMod (dBin oFdiv (dVar 5) (dC (.int 1009))) (dC (.int 1000)))))))))))
noncomputable def F_n_law_draw : Fn := fnG 6 G_n_law_draw
theorem ok_n_law_draw {f : Addr} {fd : FuncData} (F : FunD K "_law_draw" "_law_draw" (defArgs s_n_law_draw) (defBody s_n_law_draw) (defScope s_n_law_draw) [] [] f fd) (m_int : mg "int" = none) (m_len : mg "len" = none) (m_min : mg "min" = none) (m_range : mg "range" = none) :
    FnOk P w K mg base CX0 1 f fd ["script", "j"] (spD K 2 F_n_law_draw) := by
  have nd := sc_n_law_draw.nd
  exact fn_ok F sc_n_law_draw fun cdv A outer s H E hr => (gs_cons (g_if (dt_not (dt_tr (d_var 0 rfl (.inl rfl)) (by intro _; rfl))) (gs_one (g_ret d_int)) gs_nil)
    (gs_cons (g_set 2 nd rfl (.inl rfl) (d_bin op_fdivA od_fdiv (d_var 1 rfl (.inl rfl)) d_int))
    (gs_cons (g_set 3 nd rfl (.inl rfl) (d_bin op_modN od_mod (d_callTy call_int1 cd_int (by rfl) m_int (by decide +kernel) (da_cons (d_ix ix_seq od_ix (d_var 0 rfl (.inl rfl)) (d_bin op_modN od_mod (d_var 2 rfl (.inl rfl)) (d_callB (call_min2 rfl) cd_min2 (by rfl) m_min (by decide +kernel) (da_cons (d_callB call_len cd_len (by rfl) m_len (by decide +kernel) (da_cons (d_var 0 rfl (.inl rfl)) da_nil)) (da_cons d_int da_nil)))) (fun _ _ => rfl)) da_nil)) (d_bin op_pow od_pow d_int d_int)))
    (gs_cons (g_if (PW.pt (dw_and (dt_cmp op_ltA od_ord (d_var 2 rfl (.inl rfl)) (d_callB (call_min2 rfl) cd_min2 (by rfl) m_min (by decide +kernel) (da_cons (d_callB call_len cd_len (by rfl) m_len (by decide +kernel) (da_cons (d_var 0 rfl (.inl rfl)) da_nil)) (da_cons d_int da_nil))) (nomark _)) (dw_and1 (dt_cmp op_geA od_ord (d_var 3 rfl (.inl rfl)) (d_bin op_pow od_pow d_int d_int) (nomark _))))) (gs_cons (g_for PassesOwn.never rfl (i_rng1 (by rfl) m_range (da_cons (d_bin op_modN od_mod (d_callTy call_int1 cd_int (by rfl) m_int (by decide +kernel) (da_cons (d_var 1 rfl (.inl rfl)) da_nil)) d_int) da_nil)) (t_name 4 nd rfl (.inl rfl)) (gs_one (g_set 3 nd rfl (.inl rfl) (d_bin op_fdivA od_fdiv (d_var 3 rfl (.inl rfl)) d_int))))
    (gs_one (g_ret (d_bin op_modN od_mod (d_var 3 rfl (.inl rfl)) d_int)))) gs_nil)
    (gs_cons (g_set 5 nd rfl (.inl rfl) (d_bin op_modN od_mod (d_callTy call_int1 cd_int (by rfl) m_int (by decide +kernel) (da_cons (d_bin op_mulB od_mul (d_bin op_addA od_add (d_var 3 rfl (.inl rfl)) d_int) (d_bin op_addA od_add (d_bin op_mulB od_mul d_int (d_var 1 rfl (.inl rfl))) d_int)) da_nil)) d_int))
    (gs_cons (g_set 5 nd rfl (.inl rfl) (d_bin op_modN od_mod (d_callTy call_int1 cd_int (by rfl) m_int (by decide +kernel) (da_cons (d_bin op_addA od_add (d_bin op_addA od_add (d_bin op_mulB od_mul (d_var 5 rfl (.inl rfl)) (d_var 5 rfl (.inl rfl))) (d_bin op_mulB od_mul d_int (d_var 1 rfl (.inl rfl)))) (d_var 3 rfl (.inl rfl))) da_nil)) d_int))
    (gs_cons (g_set 5 nd rfl (.inl rfl) (d_bin op_modN od_mod (d_callTy call_int1 cd_int (by rfl) m_int (by decide +kernel) (da_cons (d_bin op_addA od_add (d_bin op_addA od_add (d_bin op_mulB od_mul (d_var 5 rfl (.inl rfl)) (d_var 5 rfl (.inl rfl))) (d_bin op_mulB od_mul d_int (d_var 5 rfl (.inl rfl)))) (d_bin op_mulB od_mul d_int (d_var 1 rfl (.inl rfl)))) da_nil)) d_int))
    (gs_one (g_ret (d_bin op_modN od_mod (d_bin op_fdivA od_fdiv (d_var 5 rfl (.inl rfl)) d_int) d_int))))))))))
/-! ### _law_tape -/
abbrev s_n_law_tape : Stmt := topS 17
theorem sc_n_law_tape : FnScope ["script", "j"] ["script"] (defScope s_n_law_tape) := ⟨rfl, rfl, rfl, by decide +kernel, rfl, by decide +kernel, by decide +kernel⟩
noncomputable def G_n_law_tape : DG := (gRet (dNew (lLc (srcRng1 (dCons (dC (.int 504)) dNil)) (nName 1) tYesD (dCall F_n_law_draw [] (dCons (dVar 0) (dCons (dVar 1) dNil))) [1])))
noncomputable def F_n_law_tape : Fn := fnG 2 G_n_law_tape
theorem ok_n_law_tape {f : Addr} {fd : FuncData} (F : FunD K "_law_tape" "_law_tape" (defArgs s_n_law_tape) (defBody s_n_law_tape) (defScope s_n_law_tape) [] [] f fd) (c_n_law_draw : DCall P w K mg base 1 "_law_draw" 2 F_n_law_draw []) (m_range : mg "range" = none) :
    FnOk P w K mg base CX0 2 f fd ["script"] (spD K 1 F_n_law_tape) := by
  have nd := sc_n_law_tape.nd
  exact fn_ok F sc_n_law_tape fun cdv A outer s H E hr => (gs_one (g_ret (d_new (l_lc rfl nd (own := [("j", 1)]) (js := [1]) (i_rng1 (by rfl) m_range (da_cons d_int da_nil)) (by exact blkOk_by (N := ["script", "j"]) (sc := defScope s_n_law_tape) (by decide +kernel)) (by decide) (fun _ _ _ _ _ => by exact (t_name 1 nd rfl (.inl rfl))) (fun _ _ _ _ _ => by exact dts_nil) (fun _ _ _ _ _ => by exact (c_call c_n_law_draw (hr.mono (by omega)) (by rfl) (narg_cons (narg_cons narg_nil)) rfl (da_cons (d_var 0 rfl (.inr (.inl rfl))) (da_cons (d_var 1 rfl (.inl rfl)) da_nil))))))))
/-! ### _law_next -/
abbrev s_n_law_next : Stmt := topS 18
theorem sc_n_law_next : FnScope ["tape", "many"] ["tape", "many"] (defScope s_n_law_next) := ⟨rfl, rfl, rfl, by decide +kernel, rfl, by decide +kernel, by decide +kernel⟩
noncomputable def G_n_law_next : DG := (gSeq (gIf (dNotT (dTr (dVar 0))) (gRet (dC (.int 0))) gNext)
    (gRet (dBin oMod (dCB bInt (dCons (dMeth oPopAt (dVar 0) (dCons (dC (.int 0)) dNil)) dNil)) (dVar 1))))
noncomputable def F_n_law_next : Fn := fnG 2 G_n_law_next
theorem ok_n_law_next {f : Addr} {fd : FuncData} (F : FunD K "_law_next" "_law_next" (defArgs s_n_law_next) (defBody s_n_law_next) (defScope s_n_law_next) [] [] f fd) (m_int : mg "int" = none) :
    FnOk P w K mg base CX0 1 f fd ["tape", "many"] (spD K 2 F_n_law_next) := by
  have nd := sc_n_law_next.nd
  exact fn_ok F sc_n_law_next fun cdv A outer s H E hr => (gs_cons (g_if (dt_not (dt_tr (d_var 0 rfl (.inl rfl)) (by intro _; rfl))) (gs_one (g_ret d_int)) gs_nil)
    (gs_one (g_ret (d_bin op_modN od_mod (d_callTy call_int1 cd_int (by rfl) m_int (by decide +kernel) (da_cons (d_popAt (d_var 0 rfl (.inl rfl)) (da_cons d_int da_nil)) da_nil)) (d_var 1 rfl (.inl rfl))))))
/-! ### _law_number -/
abbrev s_n_law_number : Stmt := topS 19
theorem sc_n_law_number : FnScope ["tape", "low", "high", "above"] ["tape", "low", "high"] (defScope s_n_law_number) := ⟨rfl, rfl, rfl, by decide +kernel, rfl, by decide +kernel, by decide +kernel⟩
noncomputable def G_n_law_number : DG := (gSeq (gSet 3 (dCall F_n_law_next [] (dCons (dVar 0) (dCons (dC (.int 1000)) dNil))))
    (gRet (dBin oAdd (dVar 1) (dBin oMod (dCB bInt (dCons (dBin oAdd (dBin oMul (dVar 3) (dC (.int 1000))) (dCall F_n_law_next [] (dCons (dVar 0) (dCons (dC (.int 1000)) dNil)))) dNil)) (dBin oAdd (dBin oSub (dVar 2) (dVar 1)) (dC (.int 1)))))))
noncomputable def F_n_law_number : Fn := fnG 4 G_n_law_number
theorem ok_n_law_number {f : Addr} {fd : FuncData} (F : FunD K "_law_number" "_law_number" (defArgs s_n_law_number) (defBody s_n_law_number) (defScope s_n_law_number) [] [] f fd) (c_n_law_next : DCall P w K mg base 1 "_law_next" 2 F_n_law_next []) (m_int : mg "int" = none) :
    FnOk P w K mg base CX0 2 f fd ["tape", "low", "high"] (spD K 3 F_n_law_number) := by
  have nd := sc_n_law_number.nd
  exact fn_ok F sc_n_law_number fun cdv A outer s H E hr => (gs_cons (g_set 3 nd rfl (.inl rfl) (c_call c_n_law_next (hr.mono (by omega)) (by rfl) (narg_cons (narg_cons narg_nil)) rfl (da_cons (d_var 0 rfl (.inl rfl)) (da_cons d_int da_nil))))
    (gs_one (g_ret (d_bin op_addA od_add (d_var 1 rfl (.inl rfl)) (d_bin op_modN od_mod (d_callTy call_int1 cd_int (by rfl) m_int (by decide +kernel) (da_cons (d_bin op_addA od_add (d_bin op_mulB od_mul (d_var 3 rfl (.inl rfl)) d_int) (c_call c_n_law_next (hr.mono (by omega)) (by rfl) (narg_cons (narg_cons narg_nil)) rfl (da_cons (d_var 0 rfl (.inl rfl)) (da_cons d_int da_nil)))) da_nil)) (d_bin op_addA od_add (d_bin op_sub od_sub (d_var 2 rfl (.inl rfl)) (d_var 1 rfl (.inl rfl))) d_int))))))
/-! ### _law_edge -/
abbrev s_n_law_edge : Stmt := topS 20
theorem sc_n_law_edge : FnScope ["tape", "low", "high", "choice", "number"] ["tape", "low", "high"] (defScope s_n_law_edge) := ⟨rfl, rfl, rfl, by decide +kernel, rfl, by decide +kernel, by decide +kernel⟩
noncomputable def G_n_law_edge : DG := (gSeq (gSet 3 (dCall F_n_law_next [] (dCons (dVar 0) (dCons (dC (.int 6)) dNil))))
    (gSeq (gSet 4 (dCall F_n_law_number [] (dCons (dVar 0) (dCons (dVar 1) (dCons (dVar 2) dNil)))))
    (gRet (dBin oIx (dLst (dCons (dVar 1) (dCons (dVar 2) (dCons (dVar 4) (dCons (dVar 4) (dCons (dVar 4) (dCons (dVar 4) dNil))))))) (dVar 3)))))
noncomputable def F_n_law_edge : Fn := fnG 5 G_n_law_edge
theorem ok_n_law_edge {f : Addr} {fd : FuncData} (F : FunD K "_law_edge" "_law_edge" (defArgs s_n_law_edge) (defBody s_n_law_edge) (defScope s_n_law_edge) [] [] f fd) (c_n_law_next : DCall P w K mg base 1 "_law_next" 2 F_n_law_next []) (c_n_law_number : DCall P w K mg base 2 "_law_number" 3 F_n_law_number []) :
    FnOk P w K mg base CX0 3 f fd ["tape", "low", "high"] (spD K 3 F_n_law_edge) := by
  have nd := sc_n_law_edge.nd
  exact fn_ok F sc_n_law_edge fun cdv A outer s H E hr => (gs_cons (g_set 3 nd rfl (.inl rfl) (c_call c_n_law_next (hr.mono (by omega)) (by rfl) (narg_cons (narg_cons narg_nil)) rfl (da_cons (d_var 0 rfl (.inl rfl)) (da_cons d_int da_nil))))
    (gs_cons (g_set 4 nd rfl (.inl rfl) (c_call c_n_law_number (hr.mono (by omega)) (by rfl) (narg_cons (narg_cons (narg_cons narg_nil))) rfl (da_cons (d_var 0 rfl (.inl rfl)) (da_cons (d_var 1 rfl (.inl rfl)) (da_cons (d_var 2 rfl (.inl rfl)) da_nil)))))
    (gs_one (g_ret (d_ix ix_seq od_ix (d_lst (da_cons (d_var 1 rfl (.inl rfl)) (da_cons (d_var 2 rfl (.inl rfl)) (da_cons (d_var 4 rfl (.inl rfl)) (da_cons (d_var 4 rfl (.inl rfl)) (da_cons (d_var 4 rfl (.inl rfl)) (da_cons (d_var 4 rfl (.inl rfl)) da_nil))))))) (d_var 3 rfl (.inl rfl)) (fun _ _ => rfl))))))
/-! ### _law_same -/
abbrev s_n_law_same : Stmt := topS 21
theorem sc_n_law_same : FnScope ["actual", "due", "k"] ["actual", "due"] (defScope s_n_law_same) := ⟨rfl, rfl, rfl, by decide +kernel, rfl, by decide +kernel, by decide +kernel⟩
noncomputable def G_n_law_same (self : Fn) : DG := (gSeq (gIf (dTr (dIsi "tuple" (dVar 1))) (gSeq (gIf (dOrT (dNotT (dTr (dIsi "tuple" (dVar 0)))) (dB (dBin oNe (dCB bLen (dCons (dVar 0) dNil)) (dCB bLen (dCons (dVar 1) dNil))))) (gRet (dC (.bl false))) gNext)
    (gSeq (gFor (srcRng1 (dCons (dCB bLen (dCons (dVar 1) dNil)) dNil)) (nName 2) (gIf (dNotT (dTr (dCall self [] (dCons (dBin oIx (dVar 0) (dVar 2)) (dCons (dBin oIx (dVar 1) (dVar 2)) dNil))))) (gRet (dC (.bl false))) gNext))
    (gRet (dC (.bl true))))) gNext)
    (gSeq (gIf (dB (dBin oIsN (dVar 1) (dC .non))) (gRet (dBin oIsN (dVar 0) (dC .non))) gNext)
    (gSeq (gIf (dTr (dIsi "bool" (dVar 1))) (gRet (dAnd (dIsi "bool" (dVar 0)) (dBin oEq (dVar 0) (dVar 1)))) gNext)
    (gSeq (gIf (dTr (dIsi "int" (dVar 1))) (gRet (dAnd (dIsi "int" (dVar 0)) (dAnd (dNot (dIsi "bool" (dVar 0))) (dBin oEq (dVar 0) (dVar 1))))) gNext)
    (gRet (dAnd (dIsi "str" (dVar 0)) (dBin oEq (dVar 0) (dVar 1))))))))
noncomputable def F_n_law_same : Nat → Fn
  | 0 => fun _ _ => none
  | l + 1 => fnG 3 (G_n_law_same (F_n_law_same l))
theorem ok_n_law_same {l : Nat} {self : Fn} {f : Addr} {fd : FuncData} (F : FunD K "_law_same" "_law_same" (defArgs s_n_law_same) (defBody s_n_law_same) (defScope s_n_law_same) [] [] f fd) (m_bool : mg "bool" = none) (m_int : mg "int" = none) (m_isinstance : mg "isinstance" = none) (m_len : mg "len" = none) (m_range : mg "range" = none) (m_str : mg "str" = none) (m_tuple : mg "tuple" = none) (c_self : DCall P w K mg base (0 + l) "_law_same" 2 self []) :
    FnOk P w K mg base CX0 (0 + l + 1) f fd ["actual", "due"] (spD K 2 (fnG 3 (G_n_law_same self))) := by
  have nd := sc_n_law_same.nd
  exact fn_ok F sc_n_law_same fun cdv A outer s H E hr => (gs_cons (g_if (dt_tr (d_isi (T := "tuple") (by unfold isT; decide) (by rfl) m_isinstance (d_var 1 rfl (.inl rfl)) rfl (by rfl) m_tuple (by decide +kernel)) (by intro _; rfl)) (gs_cons (g_if (PW.pt (dw_or (dt_not (dt_tr (d_isi (T := "tuple") (by unfold isT; decide) (by rfl) m_isinstance (d_var 0 rfl (.inl rfl)) rfl (by rfl) m_tuple (by decide +kernel)) (by intro _; rfl))) (dw_or1 (dt_cmp (op_neA hr.units) od_ne (d_callB call_len cd_len (by rfl) m_len (by decide +kernel) (da_cons (d_var 0 rfl (.inl rfl)) da_nil)) (d_callB call_len cd_len (by rfl) m_len (by decide +kernel) (da_cons (d_var 1 rfl (.inl rfl)) da_nil)) (nomark _))))) (gs_one (g_ret d_bl)) gs_nil)
    (gs_cons (g_for PassesOwn.never rfl (i_rng1 (by rfl) m_range (da_cons (d_callB call_len cd_len (by rfl) m_len (by decide +kernel) (da_cons (d_var 1 rfl (.inl rfl)) da_nil)) da_nil)) (t_name 2 nd rfl (.inl rfl)) (gs_one (g_if (dt_not (dt_tr (c_call c_self (hr.mono (by omega)) (by rfl) (narg_cons (narg_cons narg_nil)) rfl (da_cons (d_ix ix_seq od_ix (d_var 0 rfl (.inl rfl)) (d_var 2 rfl (.inl rfl)) (fun _ _ => rfl)) (da_cons (d_ix ix_seq od_ix (d_var 1 rfl (.inl rfl)) (d_var 2 rfl (.inl rfl)) (fun _ _ => rfl)) da_nil))) (by intro _; rfl))) (gs_one (g_ret d_bl)) gs_nil)))
    (gs_one (g_ret d_bl)))) gs_nil)
    (gs_cons (g_if (dt_cmp op_isN od_isN (d_var 1 rfl (.inl rfl)) d_non (nomark _)) (gs_one (g_ret (d_cmp op_isN od_isN (d_var 0 rfl (.inl rfl)) d_non (nomark _)))) gs_nil)
    (gs_cons (g_if (dt_tr (d_isi (T := "bool") (by unfold isT; decide) (by rfl) m_isinstance (d_var 1 rfl (.inl rfl)) rfl (by rfl) m_bool (by decide +kernel)) (by intro _; rfl)) (gs_one (g_ret (d_and (d_isi (T := "bool") (by unfold isT; decide) (by rfl) m_isinstance (d_var 0 rfl (.inl rfl)) rfl (by rfl) m_bool (by decide +kernel)) (d_one (d_cmp (op_eqA hr.units) od_eq (d_var 0 rfl (.inl rfl)) (d_var 1 rfl (.inl rfl)) (nomark _)))))) gs_nil)
    (gs_cons (g_if (dt_tr (d_isi (T := "int") (by unfold isT; decide) (by rfl) m_isinstance (d_var 1 rfl (.inl rfl)) rfl (by rfl) m_int (by decide +kernel)) (by intro _; rfl)) (gs_one (g_ret (d_and (d_isi (T := "int") (by unfold isT; decide) (by rfl) m_isinstance (d_var 0 rfl (.inl rfl)) rfl (by rfl) m_int (by decide +kernel)) (d_and (d_not (d_isi (T := "bool") (by unfold isT; decide) (by rfl) m_isinstance (d_var 0 rfl (.inl rfl)) rfl (by rfl) m_bool (by decide +kernel))) (d_one (d_cmp (op_eqA hr.units) od_eq (d_var 0 rfl (.inl rfl)) (d_var 1 rfl (.inl rfl)) (nomark _))))))) gs_nil)
    (gs_one (g_ret (d_and (d_isi (T := "str") (by unfold isT; decide) (by rfl) m_isinstance (d_var 0 rfl (.inl rfl)) rfl (by rfl) m_str (by decide +kernel)) (d_one (d_cmp (op_eqA hr.units) od_eq (d_var 0 rfl (.inl rfl)) (d_var 1 rfl (.inl rfl)) (nomark _))))))))))
/-! ### _law_lowest -/
abbrev s_n_law_lowest : Stmt := topS 22
theorem sc_n_law_lowest : FnScope ["above", "below", "one", "other", "k"] ["above", "below"] (defScope s_n_law_lowest) := ⟨rfl, rfl, rfl, by decide +kernel, rfl, by decide +kernel, by decide +kernel⟩
noncomputable def G_n_law_lowest : DG := (gSeq (gIf (dB (dBin oLt (dVar 1) (dC (.int 0)))) (gSeq (gSet 0 (dBin oSub (dC (.int 0)) (dVar 0)))
    (gSet 1 (dBin oSub (dC (.int 0)) (dVar 1)))) gNext)
    (gSeq (gSet 2 (dCB bAbs (dCons (dVar 0) dNil)))
    (gSeq (gSet 3 (dVar 1))
    (gSeq (gFor (srcRng1 (dCons (dC (.int 200)) dNil)) (nName 4) (gSeq (gIf (dB (dBin oEq (dVar 3) (dC (.int 0)))) gBrk gNext)
    (gPar 2 3 (dCons (dVar 3) (dCons (dBin oMod (dCB bInt (dCons (dVar 2) dNil)) (dVar 3)) dNil)))))
    (gRet (dTup (dCons (dBin oFdiv (dVar 0) (dVar 2)) (dCons (dBin oFdiv (dVar 1) (dVar 2)) dNil))))))))
noncomputable def F_n_law_lowest : Fn := fnG 5 G_n_law_lowest
theorem ok_n_law_lowest {f : Addr} {fd : FuncData} (F : FunD K "_law_lowest" "_law_lowest" (defArgs s_n_law_lowest) (defBody s_n_law_lowest) (defScope s_n_law_lowest) [] [] f fd) (m_abs : mg "abs" = none) (m_int : mg "int" = none) (m_range : mg "range" = none) :
    FnOk P w K mg base CX0 1 f fd ["above", "below"] (spD K 2 F_n_law_lowest) := by
  have nd := sc_n_law_lowest.nd
  exact fn_ok F sc_n_law_lowest fun cdv A outer s H E hr => (gs_cons (g_if (dt_cmp op_ltA od_ord (d_var 1 rfl (.inl rfl)) d_int (nomark _)) (gs_cons (g_set 0 nd rfl (.inl rfl) (d_bin op_sub od_sub d_int (d_var 0 rfl (.inl rfl))))
    (gs_one (g_set 1 nd rfl (.inl rfl) (d_bin op_sub od_sub d_int (d_var 1 rfl (.inl rfl)))))) gs_nil)
    (gs_cons (g_set 2 nd rfl (.inl rfl) (d_callB call_abs cd_abs (by rfl) m_abs (by decide +kernel) (da_cons (d_var 0 rfl (.inl rfl)) da_nil)))
    (gs_cons (g_set 3 nd rfl (.inl rfl) (d_var 1 rfl (.inl rfl)))
    (gs_cons (g_for PassesOwn.never rfl (i_rng1 (by rfl) m_range (da_cons d_int da_nil)) (t_name 4 nd rfl (.inl rfl)) (gs_cons (g_if (dt_cmp (op_eqA hr.units) od_eq (d_var 3 rfl (.inl rfl)) d_int (nomark _)) (gs_one g_break) gs_nil)
    (gs_one (g_par 2 3 rfl nd rfl rfl (by decide) rfl rfl (da_cons (d_var 3 rfl (.inl rfl)) (da_cons (d_bin op_modN od_mod (d_callTy call_int1 cd_int (by rfl) m_int (by decide +kernel) (da_cons (d_var 2 rfl (.inl rfl)) da_nil)) (d_var 3 rfl (.inl rfl))) da_nil)) (by rfl)))))
    (gs_one (g_ret (d_tup (da_cons (d_bin op_fdivA od_fdiv (d_var 0 rfl (.inl rfl)) (d_var 2 rfl (.inl rfl))) (da_cons (d_bin op_fdivA od_fdiv (d_var 1 rfl (.inl rfl)) (d_var 2 rfl (.inl rfl))) da_nil)))))))))
/-! ### _law_between -/
abbrev s_n_law_between : Stmt := topS 23
theorem sc_n_law_between : FnScope ["one", "other"] ["one", "other"] (defScope s_n_law_between) := ⟨rfl, rfl, rfl, by decide +kernel, rfl, by decide +kernel, by decide +kernel⟩
noncomputable def G_n_law_between : DG := (gRet (dCall F_n_law_lowest [] (dCons (dBin oAdd (dBin oMul (dBin oIx (dVar 0) (dC (.int 0))) (dBin oIx (dVar 1) (dC (.int 1)))) (dBin oMul (dBin oIx (dVar 1) (dC (.int 0))) (dBin oIx (dVar 0) (dC (.int 1))))) (dCons (dBin oMul (dBin oMul (dC (.int 2)) (dBin oIx (dVar 0) (dC (.int 1)))) (dBin oIx (dVar 1) (dC (.int 1)))) dNil))))
noncomputable def F_n_law_between : Fn := fnG 2 G_n_law_between
theorem ok_n_law_between {f : Addr} {fd : FuncData} (F : FunD K "_law_between" "_law_between" (defArgs s_n_law_between) (defBody s_n_law_between) (defScope s_n_law_between) [] [] f fd) (c_n_law_lowest : DCall P w K mg base 1 "_law_lowest" 2 F_n_law_lowest []) :
    FnOk P w K mg base CX0 2 f fd ["one", "other"] (spD K 2 F_n_law_between) := by
  have nd := sc_n_law_between.nd
  exact fn_ok F sc_n_law_between fun cdv A outer s H E hr => (gs_one (g_ret (c_call c_n_law_lowest (hr.mono (by omega)) (by rfl) (narg_cons (narg_cons narg_nil)) rfl (da_cons (d_bin op_addA od_add (d_bin op_mulB od_mul (d_ix ix_seq od_ix (d_var 0 rfl (.inl rfl)) d_int (fun _ _ => rfl)) (d_ix ix_seq od_ix (d_var 1 rfl (.inl rfl)) d_int (fun _ _ => rfl))) (d_bin op_mulB od_mul (d_ix ix_seq od_ix (d_var 1 rfl (.inl rfl)) d_int (fun _ _ => rfl)) (d_ix ix_seq od_ix (d_var 0 rfl (.inl rfl)) d_int (fun _ _ => rfl)))) (da_cons (d_bin op_mulB od_mul (d_bin op_mulB od_mul d_int (d_ix ix_seq od_ix (d_var 0 rfl (.inl rfl)) d_int (fun _ _ => rfl))) (d_ix ix_seq od_ix (d_var 1 rfl (.inl rfl)) d_int (fun _ _ => rfl))) da_nil)))))
/-! ### _law_all_hold -/
abbrev s_n_law_all_hold : Stmt := topS 24
theorem sc_n_law_all_hold : FnScope ["conditions", "moment", "condition"] ["conditions", "moment"] (defScope s_n_law_all_hold) := ⟨rfl, rfl, rfl, by decide +kernel, rfl, by decide +kernel, by decide +kernel⟩
noncomputable def G_n_law_all_hold : DG := (gSeq (gFor (srcOf (dVar 0)) (nName 2) (gIf (dB (dBin oLe (dBin oAdd (dBin oMul (dBin oIx (dVar 2) (dC (.int 0))) (dBin oIx (dVar 1) (dC (.int 1)))) (dBin oMul (dBin oIx (dVar 2) (dC (.int 1))) (dBin oIx (dVar 1) (dC (.int 0))))) (dC (.int 0)))) (gRet (dC (.bl false))) gNext))
    (gRet (dC (.bl true))))
noncomputable def F_n_law_all_hold : Fn := fnG 3 G_n_law_all_hold
theorem ok_n_law_all_hold {f : Addr} {fd : FuncData} (F : FunD K "_law_all_hold" "_law_all_hold" (defArgs s_n_law_all_hold) (defBody s_n_law_all_hold) (defScope s_n_law_all_hold) [] [] f fd)  :
    FnOk P w K mg base CX0 1 f fd ["conditions", "moment"] (spD K 2 F_n_law_all_hold) := by
  have nd := sc_n_law_all_hold.nd
  exact fn_ok F sc_n_law_all_hold fun cdv A outer s H E hr => (gs_cons (g_for PassesOwn.never rfl (i_seq (d_var 0 rfl (.inl rfl))) (t_name 2 nd rfl (.inl rfl)) (gs_one (g_if (dt_cmp op_leA od_ord (d_bin op_addA od_add (d_bin op_mulB od_mul (d_ix ix_seq od_ix (d_var 2 rfl (.inl rfl)) d_int (fun _ _ => rfl)) (d_ix ix_seq od_ix (d_var 1 rfl (.inl rfl)) d_int (fun _ _ => rfl))) (d_bin op_mulB od_mul (d_ix ix_seq od_ix (d_var 2 rfl (.inl rfl)) d_int (fun _ _ => rfl)) (d_ix ix_seq od_ix (d_var 1 rfl (.inl rfl)) d_int (fun _ _ => rfl)))) d_int (nomark _)) (gs_one (g_ret d_bl)) gs_nil)))
    (gs_one (g_ret d_bl)))
/-! ### _law_points -/
abbrev s_n_law_points : Stmt := topS 25
theorem sc_n_law_points : FnScope ["conditions", "found", "p", "q", "point", "ordered", "at", "told"] ["conditions"] (defScope s_n_law_points) := ⟨rfl, rfl, rfl, by decide +kernel, rfl, by decide +kernel, by decide +kernel⟩
noncomputable def G_n_law_points : DG := (gSeq (gSet 1 (dLst (dCons (dTup (dCons (dC (.int 0)) (dCons (dC (.int 1)) dNil))) (dCons (dTup (dCons (dC (.int 1)) (dCons (dC (.int 1)) dNil))) dNil))))
    (gSeq (gFor (srcOf (dVar 0)) (nTup 2 (nCons (nName 2) (nCons (nName 3) nNil))) (gIf (dB (dBin oNe (dVar 3) (dC (.int 0)))) (gSeq (gSet 4 (dCall F_n_law_lowest [] (dCons (dBin oSub (dC (.int 0)) (dVar 2)) (dCons (dVar 3) dNil))))
    (gIf (dAndT (dB (dChain oLt oLt (dC (.int 0)) (dBin oIx (dVar 4) (dC (.int 0))) (dBin oIx (dVar 4) (dC (.int 1))))) (dB (dBin oNotIn (dVar 4) (dVar 1)))) (gDrop (dMeth oApp (dVar 1) (dCons (dVar 4) dNil))) gNext)) gNext))
    (gSeq (gSet 5 (dLst dNil))
    (gSeq (gFor (srcOf (dVar 1)) (nName 4) (gSeq (gSet 6 (dOf oLenN (lLc (srcOf (dVar 5)) (nName 7) (dB (dBin oLt (dBin oMul (dBin oIx (dVar 7) (dC (.int 0))) (dBin oIx (dVar 4) (dC (.int 1)))) (dBin oMul (dBin oIx (dVar 4) (dC (.int 0))) (dBin oIx (dVar 7) (dC (.int 1)))))) (dVar 7) [7])))
    (gSet 5 (dBin oAdd (dBin oAdd (dSl (dVar 5) oNo (oPart (dVar 6))) (dLst (dCons (dVar 4) dNil))) (dSl (dVar 5) (oPart (dVar 6)) oNo)))))
    (gRet (dVar 5))))))
noncomputable def F_n_law_points : Fn := fnG 8 G_n_law_points
theorem ok_n_law_points {f : Addr} {fd : FuncData} (F : FunD K "_law_points" "_law_points" (defArgs s_n_law_points) (defBody s_n_law_points) (defScope s_n_law_points) [] [] f fd) (c_n_law_lowest : DCall P w K mg base 1 "_law_lowest" 2 F_n_law_lowest []) (m_len : mg "len" = none) :
    FnOk P w K mg base CX0 2 f fd ["conditions"] (spD K 1 F_n_law_points) := by
  have nd := sc_n_law_points.nd
  exact fn_ok F sc_n_law_points fun cdv A outer s H E hr => (gs_cons (g_set 1 nd rfl (.inl rfl) (d_lst (da_cons (d_tup (da_cons d_int (da_cons d_int da_nil))) (da_cons (d_tup (da_cons d_int (da_cons d_int da_nil))) da_nil))))
    (gs_cons (g_for PassesOwn.never rfl (i_seq (d_var 0 rfl (.inl rfl))) (t_tup rfl (ts_cons (t_name 2 nd rfl (.inl rfl)) (ts_cons (t_name 3 nd rfl (.inl rfl)) ts_nil))) (gs_one (g_if (dt_cmp (op_neA hr.units) od_ne (d_var 3 rfl (.inl rfl)) d_int (nomark _)) (gs_cons (g_set 4 nd rfl (.inr rfl) (c_call c_n_law_lowest (hr.mono (by omega)) (by rfl) (narg_cons (narg_cons narg_nil)) rfl (da_cons (d_bin op_sub od_sub d_int (d_var 2 rfl (.inl rfl))) (da_cons (d_var 3 rfl (.inl rfl)) da_nil))))
    (gs_one (g_if (PW.pt (dw_and (dt_chain op_ltA od_ord op_ltA od_ord d_int (d_ix ix_seq od_ix (d_var 4 rfl (.inr (.inl rfl))) d_int (fun _ _ => rfl)) (d_ix ix_seq od_ix (d_var 4 rfl (.inr (.inl rfl))) d_int (fun _ _ => rfl))) (dw_and1 (dt_cmp (op_notInA (hu65 hr)) od_notIn (d_var 4 rfl (.inr (.inl rfl))) (d_var 1 rfl (.inl rfl)) (by rfl))))) (gs_one (g_expr (d_app (d_var 1 rfl (.inl rfl)) (da_cons (d_var 4 rfl (.inr (.inl rfl))) da_nil)))) gs_nil))) gs_nil)))
    (gs_cons (g_set 5 nd rfl (.inl rfl) (d_lst da_nil))
    (gs_cons (g_for PassesOwn.never rfl (i_seq (d_var 1 rfl (.inl rfl))) (t_name 4 nd rfl (.inr rfl)) (gs_cons (g_set 6 nd rfl (.inl rfl) (d_ofB call_len nd_len (by rfl) m_len (by decide +kernel) (l_lc rfl nd (own := [("told", 7)]) (js := [7]) (i_seq (d_var 5 rfl (.inl rfl))) (by exact blkOk_by (N := ["conditions", "found", "p", "q", "point", "ordered", "at", "told"]) (sc := defScope s_n_law_points) (by decide +kernel)) (by decide) (fun _ _ _ _ _ => by exact (t_name 7 nd rfl (.inl rfl))) (fun _ _ _ _ _ => by exact (pts_one (dt_cmp op_ltA od_ord (d_bin op_mulB od_mul (d_ix ix_seq od_ix (d_var 7 rfl (.inl rfl)) d_int (fun _ _ => rfl)) (d_ix ix_seq od_ix (d_var 4 rfl (.inr (.inl rfl))) d_int (fun _ _ => rfl))) (d_bin op_mulB od_mul (d_ix ix_seq od_ix (d_var 4 rfl (.inr (.inl rfl))) d_int (fun _ _ => rfl)) (d_ix ix_seq od_ix (d_var 7 rfl (.inl rfl)) d_int (fun _ _ => rfl))) (nomark _)))) (fun _ _ _ _ _ => by exact (d_var 7 rfl (.inl rfl))))))
    (gs_one (g_set 5 nd rfl (.inl rfl) (d_bin op_addA od_add (d_bin op_addA od_add (d_slice (d_var 5 rfl (.inl rfl)) do_none (do_some (d_var 6 rfl (.inl rfl)))) (d_lst (da_cons (d_var 4 rfl (.inr (.inl rfl))) da_nil))) (d_slice (d_var 5 rfl (.inl rfl)) (do_some (d_var 6 rfl (.inl rfl))) do_none))))))
    (gs_one (g_ret (d_var 5 rfl (.inl rfl))))))))
/-! ### _law_stretch -/
abbrev s_n_law_stretch : Stmt := topS 26
theorem sc_n_law_stretch : FnScope ["conditions", "points", "good", "k", "low", "high"] ["conditions"] (defScope s_n_law_stretch) := ⟨rfl, rfl, rfl, by decide +kernel, rfl, by decide +kernel, by decide +kernel⟩
noncomputable def G_n_law_stretch : DG := (gSeq (gSet 1 (dCall F_n_law_points [] (dCons (dVar 0) dNil)))
    (gSeq (gSet 2 (dLst dNil))
    (gSeq (gFor (srcRng1 (dCons (dBin oSub (dCB bLen (dCons (dVar 1) dNil)) (dC (.int 1))) dNil)) (nName 3) (gIf (dTr (dCall F_n_law_all_hold [] (dCons (dVar 0) (dCons (dCall F_n_law_between [] (dCons (dBin oIx (dVar 1) (dVar 3)) (dCons (dBin oIx (dVar 1) (dBin oAdd (dVar 3) (dC (.int 1)))) dNil))) dNil)))) (gDrop (dMeth oApp (dVar 2) (dCons (dVar 3) dNil))) gNext))
    (gSeq (gIf (dNotT (dTr (dVar 2))) (gRet (dC .non)) gNext)
    (gSeq (gSet 4 (dBin oIx (dVar 1) (dBin oIx (dVar 2) (dC (.int 0)))))
    (gSeq (gSet 5 (dBin oIx (dVar 1) (dBin oAdd (dBin oIx (dVar 2) (dUn oNeg (dC (.int 1)))) (dC (.int 1)))))
    (gRet (dTup (dCons (dVar 4) (dCons (dCall F_n_law_all_hold [] (dCons (dVar 0) (dCons (dVar 4) dNil))) (dCons (dVar 5) (dCons (dCall F_n_law_all_hold [] (dCons (dVar 0) (dCons (dVar 5) dNil))) dNil))))))))))))
noncomputable def F_n_law_stretch : Fn := fnG 6 G_n_law_stretch
theorem ok_n_law_stretch {f : Addr} {fd : FuncData} (F : FunD K "_law_stretch" "_law_stretch" (defArgs s_n_law_stretch) (defBody s_n_law_stretch) (defScope s_n_law_stretch) [] [] f fd) (c_n_law_points : DCall P w K mg base 2 "_law_points" 1 F_n_law_points []) (c_n_law_all_hold : DCall P w K mg base 1 "_law_all_hold" 2 F_n_law_all_hold []) (c_n_law_between : DCall P w K mg base 2 "_law_between" 2 F_n_law_between []) (m_len : mg "len" = none) (m_range : mg "range" = none) :
    FnOk P w K mg base CX0 3 f fd ["conditions"] (spD K 1 F_n_law_stretch) := by
  have nd := sc_n_law_stretch.nd
  exact fn_ok F sc_n_law_stretch fun cdv A outer s H E hr => (gs_cons (g_set 1 nd rfl (.inl rfl) (c_call c_n_law_points (hr.mono (by omega)) (by rfl) (narg_cons narg_nil) rfl (da_cons (d_var 0 rfl (.inl rfl)) da_nil)))
    (gs_cons (g_set 2 nd rfl (.inl rfl) (d_lst da_nil))
    (gs_cons (g_for PassesOwn.never rfl (i_rng1 (by rfl) m_range (da_cons (d_bin op_sub od_sub (d_callB call_len cd_len (by rfl) m_len (by decide +kernel) (da_cons (d_var 1 rfl (.inl rfl)) da_nil)) d_int) da_nil)) (t_name 3 nd rfl (.inl rfl)) (gs_one (g_if (dt_tr (c_call c_n_law_all_hold (hr.mono (by omega)) (by rfl) (narg_cons (narg_cons narg_nil)) rfl (da_cons (d_var 0 rfl (.inl rfl)) (da_cons (c_call c_n_law_between (hr.mono (by omega)) (by rfl) (narg_cons (narg_cons narg_nil)) rfl (da_cons (d_ix ix_seq od_ix (d_var 1 rfl (.inl rfl)) (d_var 3 rfl (.inl rfl)) (fun _ _ => rfl)) (da_cons (d_ix ix_seq od_ix (d_var 1 rfl (.inl rfl)) (d_bin op_addA od_add (d_var 3 rfl (.inl rfl)) d_int) (fun _ _ => rfl)) da_nil))) da_nil))) (by intro _; rfl)) (gs_one (g_expr (d_app (d_var 2 rfl (.inl rfl)) (da_cons (d_var 3 rfl (.inl rfl)) da_nil)))) gs_nil)))
    (gs_cons (g_if (dt_not (dt_tr (d_var 2 rfl (.inl rfl)) (by intro _; rfl))) (gs_one (g_ret d_non)) gs_nil)
    (gs_cons (g_set 4 nd rfl (.inl rfl) (d_ix ix_seq od_ix (d_var 1 rfl (.inl rfl)) (d_ix ix_seq od_ix (d_var 2 rfl (.inl rfl)) d_int (fun _ _ => rfl)) (fun _ _ => rfl)))
    (gs_cons (g_set 5 nd rfl (.inl rfl) (d_ix ix_seq od_ix (d_var 1 rfl (.inl rfl)) (d_bin op_addA od_add (d_ix ix_seq od_ix (d_var 2 rfl (.inl rfl)) (d_un un_neg ud_neg d_int) (fun _ _ => rfl)) d_int) (fun _ _ => rfl)))
    (gs_one (g_ret (d_tup (da_cons (d_var 4 rfl (.inl rfl)) (da_cons (c_call c_n_law_all_hold (hr.mono (by omega)) (by rfl) (narg_cons (narg_cons narg_nil)) rfl (da_cons (d_var 0 rfl (.inl rfl)) (da_cons (d_var 4 rfl (.inl rfl)) da_nil))) (da_cons (d_var 5 rfl (.inl rfl)) (da_cons (c_call c_n_law_all_hold (hr.mono (by omega)) (by rfl) (narg_cons (narg_cons narg_nil)) rfl (da_cons (d_var 0 rfl (.inl rfl)) (da_cons (d_var 5 rfl (.inl rfl)) da_nil))) da_nil)))))))))))))
/-! ### _law_condition -/
abbrev s_n_law_condition : Stmt := topS 27
theorem sc_n_law_condition : FnScope ["tape", "p"] ["tape"] (defScope s_n_law_condition) := ⟨rfl, rfl, rfl, by decide +kernel, rfl, by decide +kernel, by decide +kernel⟩
noncomputable def G_n_law_condition : DG := (gSeq (gIf (dB (dBin oEq (dCall F_n_law_next [] (dCons (dVar 0) (dCons (dC (.int 3)) dNil))) (dC (.int 2)))) (gSeq (gSet 1 (dCall F_n_law_edge [] (dCons (dVar 0) (dCons (dUn oNeg (dC (.int 99999))) (dCons (dC (.int 99999)) dNil)))))
    (gRet (dTup (dCons (dVar 1) (dCons (dCall F_n_law_edge [] (dCons (dVar 0) (dCons (dUn oNeg (dC (.int 99999))) (dCons (dC (.int 99999)) dNil)))) dNil))))) gNext)
    (gSeq (gSet 1 (dBin oSub (dCall F_n_law_next [] (dCons (dVar 0) (dCons (dC (.int 9)) dNil))) (dC (.int 4))))
    (gRet (dTup (dCons (dVar 1) (dCons (dBin oSub (dCall F_n_law_next [] (dCons (dVar 0) (dCons (dC (.int 9)) dNil))) (dC (.int 4))) dNil))))))
noncomputable def F_n_law_condition : Fn := fnG 2 G_n_law_condition
theorem ok_n_law_condition {f : Addr} {fd : FuncData} (F : FunD K "_law_condition" "_law_condition" (defArgs s_n_law_condition) (defBody s_n_law_condition) (defScope s_n_law_condition) [] [] f fd) (c_n_law_next : DCall P w K mg base 1 "_law_next" 2 F_n_law_next []) (c_n_law_edge : DCall P w K mg base 3 "_law_edge" 3 F_n_law_edge []) :
    FnOk P w K mg base CX0 4 f fd ["tape"] (spD K 1 F_n_law_condition) := by
  have nd := sc_n_law_condition.nd
  exact fn_ok F sc_n_law_condition fun cdv A outer s H E hr => (gs_cons (g_if (dt_cmp (op_eqA hr.units) od_eq (c_call c_n_law_next (hr.mono (by omega)) (by rfl) (narg_cons (narg_cons narg_nil)) rfl (da_cons (d_var 0 rfl (.inl rfl)) (da_cons d_int da_nil))) d_int (nomark _)) (gs_cons (g_set 1 nd rfl (.inl rfl) (c_call c_n_law_edge (hr.mono (by omega)) (by rfl) (narg_cons (narg_cons (narg_cons narg_nil))) rfl (da_cons (d_var 0 rfl (.inl rfl)) (da_cons (d_un un_neg ud_neg d_int) (da_cons d_int da_nil)))))
    (gs_one (g_ret (d_tup (da_cons (d_var 1 rfl (.inl rfl)) (da_cons (c_call c_n_law_edge (hr.mono (by omega)) (by rfl) (narg_cons (narg_cons (narg_cons narg_nil))) rfl (da_cons (d_var 0 rfl (.inl rfl)) (da_cons (d_un un_neg ud_neg d_int) (da_cons d_int da_nil)))) da_nil)))))) gs_nil)
    (gs_cons (g_set 1 nd rfl (.inl rfl) (d_bin op_sub od_sub (c_call c_n_law_next (hr.mono (by omega)) (by rfl) (narg_cons (narg_cons narg_nil)) rfl (da_cons (d_var 0 rfl (.inl rfl)) (da_cons d_int da_nil))) d_int))
    (gs_one (g_ret (d_tup (da_cons (d_var 1 rfl (.inl rfl)) (da_cons (d_bin op_sub od_sub (c_call c_n_law_next (hr.mono (by omega)) (by rfl) (narg_cons (narg_cons narg_nil)) rfl (da_cons (d_var 0 rfl (.inl rfl)) (da_cons d_int da_nil))) d_int) da_nil)))))))
/-! ### _law_moment -/
abbrev s_n_law_moment : Stmt := topS 28
theorem sc_n_law_moment : FnScope ["tape", "below"] ["tape"] (defScope s_n_law_moment) := ⟨rfl, rfl, rfl, by decide +kernel, rfl, by decide +kernel, by decide +kernel⟩
noncomputable def G_n_law_moment : DG := (gSeq (gSet 1 (dBin oAdd (dC (.int 1)) (dCall F_n_law_next [] (dCons (dVar 0) (dCons (dC (.int 9)) dNil)))))
    (gRet (dCall F_n_law_lowest [] (dCons (dCall F_n_law_next [] (dCons (dVar 0) (dCons (dBin oAdd (dVar 1) (dC (.int 1))) dNil))) (dCons (dVar 1) dNil)))))
noncomputable def F_n_law_moment : Fn := fnG 2 G_n_law_moment
theorem ok_n_law_moment {f : Addr} {fd : FuncData} (F : FunD K "_law_moment" "_law_moment" (defArgs s_n_law_moment) (defBody s_n_law_moment) (defScope s_n_law_moment) [] [] f fd) (c_n_law_next : DCall P w K mg base 1 "_law_next" 2 F_n_law_next []) (c_n_law_lowest : DCall P w K mg base 1 "_law_lowest" 2 F_n_law_lowest []) :
    FnOk P w K mg base CX0 2 f fd ["tape"] (spD K 1 F_n_law_moment) := by
  have nd := sc_n_law_moment.nd
  exact fn_ok F sc_n_law_moment fun cdv A outer s H E hr => (gs_cons (g_set 1 nd rfl (.inl rfl) (d_bin op_addA od_add d_int (c_call c_n_law_next (hr.mono (by omega)) (by rfl) (narg_cons (narg_cons narg_nil)) rfl (da_cons (d_var 0 rfl (.inl rfl)) (da_cons d_int da_nil)))))
    (gs_one (g_ret (c_call c_n_law_lowest (hr.mono (by omega)) (by rfl) (narg_cons (narg_cons narg_nil)) rfl (da_cons (c_call c_n_law_next (hr.mono (by omega)) (by rfl) (narg_cons (narg_cons narg_nil)) rfl (da_cons (d_var 0 rfl (.inl rfl)) (da_cons (d_bin op_addA od_add (d_var 1 rfl (.inl rfl)) d_int) da_nil))) (da_cons (d_var 1 rfl (.inl rfl)) da_nil))))))
/-! ### _law_stretch_right -/
abbrev s_n_law_stretch_right : Stmt := topS 29
theorem sc_n_law_stretch_right : FnScope ["conditions", "due", "middle"] ["conditions"] (defScope s_n_law_stretch_right) := ⟨rfl, rfl, rfl, by decide +kernel, rfl, by decide +kernel, by decide +kernel⟩
noncomputable def G_n_law_stretch_right : DG := (gSeq (gSet 1 (dCall F_n_law_stretch [] (dCons (dVar 0) dNil)))
    (gSeq (gIf (dNotT (dTr (dCall (F_n_law_same 8) [] (dCons (dCall F_stretch [] (dCons (dCB bTup (dCons (dVar 0) dNil)) dNil)) (dCons (dVar 1) dNil))))) (gRet (dC (.bl false))) gNext)
    (gSeq (gIf (dB (dBin oIsN (dVar 1) (dC .non))) (gRet (dC (.bl true))) gNext)
    (gSeq (gSet 2 (dCall F_n_law_between [] (dCons (dBin oIx (dVar 1) (dC (.int 0))) (dCons (dBin oIx (dVar 1) (dC (.int 2))) dNil))))
    (gRet (dAnd (dCall (F_n_law_same 8) [] (dCons (dCall F_middle_moment [] (dCons (dVar 1) dNil)) (dCons (dVar 2) dNil))) (dCall F_n_law_all_hold [] (dCons (dVar 0) (dCons (dVar 2) dNil)))))))))
noncomputable def F_n_law_stretch_right : Fn := fnG 3 G_n_law_stretch_right
theorem ok_n_law_stretch_right {f : Addr} {fd : FuncData} (F : FunD K "_law_stretch_right" "_law_stretch_right" (defArgs s_n_law_stretch_right) (defBody s_n_law_stretch_right) (defScope s_n_law_stretch_right) [] [] f fd) (c_n_law_stretch : DCall P w K mg base 3 "_law_stretch" 1 F_n_law_stretch []) (c_n_law_same : DCall P w K mg base 9 "_law_same" 2 (F_n_law_same 8) []) (c_stretch : DCall P w K mg base 4 "stretch" 1 F_stretch []) (c_n_law_between : DCall P w K mg base 2 "_law_between" 2 F_n_law_between []) (c_middle_moment : DCall P w K mg base 5 "middle_moment" 1 F_middle_moment []) (c_n_law_all_hold : DCall P w K mg base 1 "_law_all_hold" 2 F_n_law_all_hold []) (m_tuple : mg "tuple" = none) :
    FnOk P w K mg base CX0 10 f fd ["conditions"] (spD K 1 F_n_law_stretch_right) := by
  have nd := sc_n_law_stretch_right.nd
  exact fn_ok F sc_n_law_stretch_right fun cdv A outer s H E hr => (gs_cons (g_set 1 nd rfl (.inl rfl) (c_call c_n_law_stretch (hr.mono (by omega)) (by rfl) (narg_cons narg_nil) rfl (da_cons (d_var 0 rfl (.inl rfl)) da_nil)))
    (gs_cons (g_if (dt_not (dt_tr (c_call c_n_law_same (hr.mono (by omega)) (by rfl) (narg_cons (narg_cons narg_nil)) rfl (da_cons (c_call c_stretch (hr.mono (by omega)) (by rfl) (narg_cons narg_nil) rfl (da_cons (d_callTy call_tuple_of cd_tup (by rfl) m_tuple (by decide +kernel) (da_cons (d_var 0 rfl (.inl rfl)) da_nil)) da_nil)) (da_cons (d_var 1 rfl (.inl rfl)) da_nil))) (by intro _; rfl))) (gs_one (g_ret d_bl)) gs_nil)
    (gs_cons (g_if (dt_cmp op_isN od_isN (d_var 1 rfl (.inl rfl)) d_non (nomark _)) (gs_one (g_ret d_bl)) gs_nil)
    (gs_cons (g_set 2 nd rfl (.inl rfl) (c_call c_n_law_between (hr.mono (by omega)) (by rfl) (narg_cons (narg_cons narg_nil)) rfl (da_cons (d_ix ix_seq od_ix (d_var 1 rfl (.inl rfl)) d_int (fun _ _ => rfl)) (da_cons (d_ix ix_seq od_ix (d_var 1 rfl (.inl rfl)) d_int (fun _ _ => rfl)) da_nil))))
    (gs_one (g_ret (d_and (c_call c_n_law_same (hr.mono (by omega)) (by rfl) (narg_cons (narg_cons narg_nil)) rfl (da_cons (c_call c_middle_moment (hr.mono (by omega)) (by rfl) (narg_cons narg_nil) rfl (da_cons (d_var 1 rfl (.inl rfl)) da_nil)) (da_cons (d_var 2 rfl (.inl rfl)) da_nil))) (d_one (c_call c_n_law_all_hold (hr.mono (by omega)) (by rfl) (narg_cons (narg_cons narg_nil)) rfl (da_cons (d_var 0 rfl (.inl rfl)) (da_cons (d_var 2 rfl (.inl rfl)) da_nil)))))))))))
/-! ### law -/
abbrev s_law : Stmt := topS 30
theorem sc_law : FnScope ["script", "tape", "count", "conditions", "moments", "condition", "moment", "k", "one", "other"] ["script"] (defScope s_law) := ⟨rfl, rfl, rfl, by decide +kernel, rfl, by decide +kernel, by decide +kernel⟩
noncomputable def G_law : DG := (gSeq (gSet 1 (dCall F_n_law_tape [] (dCons (dVar 0) dNil)))
    (gSeq (gSet 2 (dCall F_n_law_next [] (dCons (dVar 1) (dCons (dC (.int 7)) dNil))))
    (gSeq (gSet 3 (dNew (lLc (srcRng1 (dCons (dVar 2) dNil)) (nName 7) tYesD (dCall F_n_law_condition [] (dCons (dVar 1) dNil)) [7])))
    (gSeq (gSet 4 (dBin oAdd (dLst (dCons (dTup (dCons (dC (.int 0)) (dCons (dC (.int 1)) dNil))) (dCons (dTup (dCons (dC (.int 1)) (dCons (dC (.int 1)) dNil))) dNil))) (dNew (lLc (srcRng1 (dCons (dC (.int 4)) dNil)) (nName 7) tYesD (dCall F_n_law_moment [] (dCons (dVar 1) dNil)) [7]))))
    (gSeq (gFor (srcOf (dVar 3)) (nName 5) (gFor (srcOf (dVar 4)) (nName 6) (gIf (dNotT (dTr (dCall (F_n_law_same 8) [] (dCons (dCall F_holds_at [] (dCons (dVar 5) (dCons (dVar 6) dNil))) (dCons (dCall F_n_law_all_hold [] (dCons (dLst (dCons (dVar 5) dNil)) (dCons (dVar 6) dNil))) dNil))))) (gRet (dC (.bl false))) gNext)))
    (gSeq (gFor (srcRng1 (dCons (dBin oAdd (dVar 2) (dC (.int 1))) dNil)) (nName 7) (gIf (dNotT (dTr (dCall F_n_law_stretch_right [] (dCons (dSl (dVar 3) oNo (oPart (dVar 7))) dNil)))) (gRet (dC (.bl false))) gNext))
    (gSeq (gFor (srcOf (dVar 3)) (nName 8) (gFor (srcOf (dVar 3)) (nName 9) (gIf (dNotT (dTr (dCall (F_n_law_same 8) [] (dCons (dCall F_excludes [] (dCons (dVar 8) (dCons (dVar 9) dNil))) (dCons (dBin oIsN (dCall F_n_law_stretch [] (dCons (dLst (dCons (dVar 8) (dCons (dVar 9) dNil))) dNil)) (dC .non)) dNil))))) (gRet (dC (.bl false))) gNext)))
    (gRet (dC (.bl true))))))))))
noncomputable def F_law : Fn := fnG 10 G_law
theorem ok_law {f : Addr} {fd : FuncData} (F : FunD K "law" "law" (defArgs s_law) (defBody s_law) (defScope s_law) [] [] f fd) (c_n_law_tape : DCall P w K mg base 2 "_law_tape" 1 F_n_law_tape []) (c_n_law_next : DCall P w K mg base 1 "_law_next" 2 F_n_law_next []) (c_n_law_condition : DCall P w K mg base 4 "_law_condition" 1 F_n_law_condition []) (c_n_law_moment : DCall P w K mg base 2 "_law_moment" 1 F_n_law_moment []) (c_n_law_same : DCall P w K mg base 9 "_law_same" 2 (F_n_law_same 8) []) (c_holds_at : DCall P w K mg base 1 "holds_at" 2 F_holds_at []) (c_n_law_all_hold : DCall P w K mg base 1 "_law_all_hold" 2 F_n_law_all_hold []) (c_n_law_stretch_right : DCall P w K mg base 10 "_law_stretch_right" 1 F_n_law_stretch_right []) (c_excludes : DCall P w K mg base 5 "excludes" 2 F_excludes []) (c_n_law_stretch : DCall P w K mg base 3 "_law_stretch" 1 F_n_law_stretch []) (m_range : mg "range" = none) :
    FnOk P w K mg base CX0 11 f fd ["script"] (spD K 1 F_law) := by
  have nd := sc_law.nd
  exact fn_ok F sc_law fun cdv A outer s H E hr => (gs_cons (g_set 1 nd rfl (.inr rfl) (c_call c_n_law_tape (hr.mono (by omega)) (by rfl) (narg_cons narg_nil) rfl (da_cons (d_var 0 rfl (.inl rfl)) da_nil)))
    (gs_cons (g_set 2 nd rfl (.inl rfl) (c_call c_n_law_next (hr.mono (by omega)) (by rfl) (narg_cons (narg_cons narg_nil)) rfl (da_cons (d_var 1 rfl (.inr (.inl rfl))) (da_cons d_int da_nil))))
    (gs_cons (g_setLc 3 rfl nd rfl rfl (sw_true rfl rfl rfl (by decide +kernel)) (own := [("k", 7)]) (js := [7]) (i_rng1 (by rfl) m_range (da_cons (d_var 2 rfl (.inl rfl)) da_nil)) (by exact blkOk_by (N := ["script", "tape", "count", "conditions", "moments", "condition", "moment", "k", "one", "other"]) (sc := defScope s_law) (by decide +kernel)) (by decide) (fun _ _ _ _ _ => by exact (t_name 7 nd rfl (.inl rfl))) (fun _ _ _ _ _ => by exact dts_nil) (fun _ _ _ _ _ => by exact (c_call c_n_law_condition (hr.mono (by omega)) (by rfl) (narg_cons narg_nil) rfl (da_cons (d_var 1 rfl (.inr (.inl rfl))) da_nil))))
    (gs_cons (g_set 4 nd rfl (.inl rfl) (d_bin op_addA od_add (d_lst (da_cons (d_tup (da_cons d_int (da_cons d_int da_nil))) (da_cons (d_tup (da_cons d_int (da_cons d_int da_nil))) da_nil))) (d_new (l_lc rfl nd (own := [("k", 7)]) (js := [7]) (i_rng1 (by rfl) m_range (da_cons d_int da_nil)) (by exact blkOk_by (N := ["script", "tape", "count", "conditions", "moments", "condition", "moment", "k", "one", "other"]) (sc := defScope s_law) (by decide +kernel)) (by decide) (fun _ _ _ _ _ => by exact (t_name 7 nd rfl (.inl rfl))) (fun _ _ _ _ _ => by exact dts_nil) (fun _ _ _ _ _ => by exact (c_call c_n_law_moment (hr.mono (by omega)) (by rfl) (narg_cons narg_nil) rfl (da_cons (d_var 1 rfl (.inr (.inl rfl))) da_nil)))))))
    (gs_cons (g_for PassesOwn.never rfl (i_seq (d_var 3 rfl (.inl rfl))) (t_name 5 nd rfl (.inl rfl)) (gs_one (g_for PassesOwn.never rfl (i_seq (d_var 4 rfl (.inl rfl))) (t_name 6 nd rfl (.inl rfl)) (gs_one (g_if (dt_not (dt_tr (c_call c_n_law_same (hr.mono (by omega)) (by rfl) (narg_cons (narg_cons narg_nil)) rfl (da_cons (c_call c_holds_at (hr.mono (by omega)) (by rfl) (narg_cons (narg_cons narg_nil)) rfl (da_cons (d_var 5 rfl (.inl rfl)) (da_cons (d_var 6 rfl (.inl rfl)) da_nil))) (da_cons (c_call c_n_law_all_hold (hr.mono (by omega)) (by rfl) (narg_cons (narg_cons narg_nil)) rfl (da_cons (d_lst (da_cons (d_var 5 rfl (.inl rfl)) da_nil)) (da_cons (d_var 6 rfl (.inl rfl)) da_nil))) da_nil))) (by intro _; rfl))) (gs_one (g_ret d_bl)) gs_nil)))))
    (gs_cons (g_for PassesOwn.never rfl (i_rng1 (by rfl) m_range (da_cons (d_bin op_addA od_add (d_var 2 rfl (.inl rfl)) d_int) da_nil)) (t_name 7 nd rfl (.inl rfl)) (gs_one (g_if (dt_not (dt_tr (c_call c_n_law_stretch_right (hr.mono (by omega)) (by rfl) (narg_cons narg_nil) rfl (da_cons (d_slice (d_var 3 rfl (.inl rfl)) do_none (do_some (d_var 7 rfl (.inl rfl)))) da_nil)) (by intro _; rfl))) (gs_one (g_ret d_bl)) gs_nil)))
    (gs_cons (g_for PassesOwn.never rfl (i_seq (d_var 3 rfl (.inl rfl))) (t_name 8 nd rfl (.inl rfl)) (gs_one (g_for PassesOwn.never rfl (i_seq (d_var 3 rfl (.inl rfl))) (t_name 9 nd rfl (.inl rfl)) (gs_one (g_if (dt_not (dt_tr (c_call c_n_law_same (hr.mono (by omega)) (by rfl) (narg_cons (narg_cons narg_nil)) rfl (da_cons (c_call c_excludes (hr.mono (by omega)) (by rfl) (narg_cons (narg_cons narg_nil)) rfl (da_cons (d_var 8 rfl (.inl rfl)) (da_cons (d_var 9 rfl (.inl rfl)) da_nil))) (da_cons (d_cmp op_isN od_isN (c_call c_n_law_stretch (hr.mono (by omega)) (by rfl) (narg_cons narg_nil) rfl (da_cons (d_lst (da_cons (d_var 8 rfl (.inl rfl)) (da_cons (d_var 9 rfl (.inl rfl)) da_nil))) da_nil)) d_non (nomark _)) da_nil))) (by intro _; rfl))) (gs_one (g_ret d_bl)) gs_nil)))))
    (gs_one (g_ret d_bl)))))))))
end W
end

section
set_option Elab.async false
set_option linter.all false
set_option maxRecDepth 100000
set_option maxHeartbeats 1000000
/-! Plain lemmas over the data layer: what denotations give. -/
namespace DL
open PySem PySem.Spec PyProof.Rows L2

/-! ### reckoning -/
@[simp] theorem e_var (i : Nat) (ρ : DEnv) (st : Sto) : dVar i ρ st = match ρ[i]? with | some (some d) => some (d, st) | _ => none := rfl
@[simp] theorem e_c (d : D) (ρ : DEnv) (st : Sto) : dC d ρ st = some (d, st) := rfl
@[simp] theorem e_bin (o : D → D → Sto → Option (D × Sto)) (fa fb : DF) (ρ : DEnv) (st : Sto) : dBin o fa fb ρ st = (fa ρ st).bind fun p => (fb ρ p.2).bind fun q => o p.1 q.1 q.2 := rfl
@[simp] theorem e_un (o : D → Sto → Option (D × Sto)) (fa : DF) (ρ : DEnv) (st : Sto) : dUn o fa ρ st = (fa ρ st).bind fun p => o p.1 p.2 := rfl
@[simp] theorem e_dB (f : DF) (ρ : DEnv) (st : Sto) : dB f ρ st = (f ρ st).bind fun p => match p.1 with | .bl b => some (b, p.2) | _ => none := rfl
@[simp] theorem e_dTr (f : DF) (ρ : DEnv) (st : Sto) : dTr f ρ st = (f ρ st).bind fun p => (truD p.2 p.1).map fun b => (b, p.2) := rfl
@[simp] theorem e_dNotT (f : DFb) (ρ : DEnv) (st : Sto) : dNotT f ρ st = (f ρ st).map fun p => (!p.1, p.2) := rfl
@[simp] theorem e_dAndT (f g : DFb) (ρ : DEnv) (st : Sto) : dAndT f g ρ st = (f ρ st).bind fun p => if p.1 = true then g ρ p.2 else some (false, p.2) := rfl
@[simp] theorem e_dOrT (f g : DFb) (ρ : DEnv) (st : Sto) : dOrT f g ρ st = (f ρ st).bind fun p => if p.1 = true then some (true, p.2) else g ρ p.2 := rfl
@[simp] theorem e_dAnd (f g : DF) (ρ : DEnv) (st : Sto) : dAnd f g ρ st = (f ρ st).bind fun p => (truD p.2 p.1).bind fun b => if b = true then g ρ p.2 else some p := rfl
@[simp] theorem e_dOr (f g : DF) (ρ : DEnv) (st : Sto) : dOr f g ρ st = (f ρ st).bind fun p => (truD p.2 p.1).bind fun b => if b = true then some p else g ρ p.2 := rfl
@[simp] theorem e_dNot (f : DF) (ρ : DEnv) (st : Sto) : dNot f ρ st = (f ρ st).bind fun p => (truD p.2 p.1).map fun b => (.bl (!b), p.2) := rfl
@[simp] theorem e_dIfE (c : DFb) (f g : DF) (ρ : DEnv) (st : Sto) : dIfE c f g ρ st = (c ρ st).bind fun p => if p.1 = true then f ρ p.2 else g ρ p.2 := rfl
@[simp] theorem e_dNil (ρ : DEnv) (st : Sto) : dNil ρ st = some ([], st) := rfl
@[simp] theorem e_dCons (f : DF) (g : DFs) (ρ : DEnv) (st : Sto) : dCons f g ρ st = (f ρ st).bind fun p => (g ρ p.2).map fun q => (p.1 :: q.1, q.2) := rfl
@[simp] theorem e_dTup (f : DFs) (ρ : DEnv) (st : Sto) : dTup f ρ st = (f ρ st).bind fun p => if p.1.length ≤ 16777216 then some (.tup p.1, p.2) else none := rfl
@[simp] theorem e_dLst (f : DFs) (ρ : DEnv) (st : Sto) : dLst f ρ st = (f ρ st).bind fun p => if p.1.length ≤ 16777216 then some (.ref p.2.length, p.2 ++ [.lst p.1]) else none := rfl
@[simp] theorem e_dCB (o : List D → Sto → Option (D × Sto)) (f : DFs) (ρ : DEnv) (st : Sto) : dCB o f ρ st = (f ρ st).bind fun p => o p.1 p.2 := rfl
@[simp] theorem e_dCall (F : Fn) (dv : List D) (g : DFs) (ρ : DEnv) (st : Sto) : dCall F dv g ρ st = (g ρ st).bind fun p => F (p.1 ++ dv) p.2 := rfl
@[simp] theorem e_dChain (o o' : D → D → Sto → Option (D × Sto)) (fa fb fc : DF) (ρ : DEnv) (st : Sto) : dChain o o' fa fb fc ρ st = (fa ρ st).bind fun p => (fb ρ p.2).bind fun q => (o p.1 q.1 q.2).bind fun z => match z.1 with
  | .bl true => (fc ρ z.2).bind fun w => o' q.1 w.1 w.2
  | .bl false => some (.bl false, z.2)
  | _ => none := rfl
@[simp] theorem e_dIsi (T : String) (f : DF) (ρ : DEnv) (st : Sto) : dIsi T f ρ st = (f ρ st).bind fun p => match p.1 with
  | .ref n => if n < p.2.length then some (.bl (isiB T p.1), p.2) else none
  | d => some (.bl (isiB T d), p.2) := rfl
@[simp] theorem e_dNew (f : DLi) (ρ : DEnv) (st : Sto) : dNew f ρ st = (f ρ st).map fun p => (.ref p.2.length, p.2 ++ [.lst p.1]) := rfl
@[simp] theorem e_dOf (o : List D → Sto → Option (D × Sto)) (f : DLi) (ρ : DEnv) (st : Sto) : dOf o f ρ st = (f ρ st).bind fun p => o p.1 p.2 := rfl
@[simp] theorem e_tupN (ds : List D) (st : Sto) : oTupN ds st = some (.tup ds, st) := rfl
@[simp] theorem e_lenN (ds : List D) (st : Sto) : oLenN ds st = some (.int ds.length, st) := rfl
@[simp] theorem e_dSl (f : DF) (l h : DO) (ρ : DEnv) (st : Sto) : dSl f l h ρ st = (f ρ st).bind fun p => (l ρ p.2).bind fun a => (h ρ a.2).bind fun b => oSl a.1 b.1 p.1 b.2 := rfl
@[simp] theorem e_oNo (ρ : DEnv) (st : Sto) : oNo ρ st = some (none, st) := rfl
@[simp] theorem e_oPart (f : DF) (ρ : DEnv) (st : Sto) : oPart f ρ st = (f ρ st).bind fun p => match p.1 with | .int i => some (some i, p.2) | _ => none := rfl
@[simp] theorem e_dMeth (o : D → List D → Sto → Option (D × Sto)) (f : DF) (g : DFs) (ρ : DEnv) (st : Sto) : dMeth o f g ρ st = (f ρ st).bind fun p => if isLstD p.2 p.1 = true then (g ρ p.2).bind fun q => o p.1 q.1 q.2 else none := rfl
@[simp] theorem e_srcOf (f : DF) (ρ : DEnv) (st : Sto) : srcOf f ρ st = (f ρ st).bind fun p => match p.1 with
  | .tup ds => some (.seq ds, p.2)
  | .ref n => if n < p.2.length then some (.cell n, p.2) else none
  | .fz ds => some (.seq ds, p.2)
  | _ => none := rfl
@[simp] theorem e_rng1 (f : DFs) (ρ : DEnv) (st : Sto) : srcRng1 f ρ st = (f ρ st).bind fun p => match p.1 with
  | [.int j] => if RngOk j then some (.seq (rngD 0 j.toNat), p.2) else none
  | _ => none := rfl
@[simp] theorem e_rng2 (f : DFs) (ρ : DEnv) (st : Sto) : srcRng2 f ρ st = (f ρ st).bind fun p => match p.1 with
  | [.int i, .int j] => if RngOk i ∧ RngOk j then some (.seq (rngD i (j - i).toNat), p.2) else none
  | _ => none := rfl
@[simp] theorem e_srcNew (f : DLi) (ρ : DEnv) (st : Sto) : srcNew f ρ st = (f ρ st).map fun p => (.seq p.1, p.2) := rfl
@[simp] theorem e_items_seq (st : Sto) (ds : List D) : (Src.seq ds).items st = some ds := rfl
@[simp] theorem e_items_cell (st : Sto) (n : Nat) : (Src.cell n).items st = match st[n]? with | some (.lst xs) => some xs | none => none := rfl
@[simp] theorem e_next (ρ : DEnv) (st : Sto) : gNext ρ st = some (.nx, ρ, st) := rfl
@[simp] theorem e_brk (ρ : DEnv) (st : Sto) : gBrk ρ st = some (.bk, ρ, st) := rfl
@[simp] theorem e_cont (ρ : DEnv) (st : Sto) : gCont ρ st = some (.ct, ρ, st) := rfl
@[simp] theorem e_seq (g1 g2 : DG) (ρ : DEnv) (st : Sto) : gSeq g1 g2 ρ st = (g1 ρ st).bind fun r => match r.1 with | .nx => g2 r.2.1 r.2.2 | _ => some r := rfl
@[simp] theorem e_if (c : DFb) (g1 g2 : DG) (ρ : DEnv) (st : Sto) : gIf c g1 g2 ρ st = (c ρ st).bind fun p => if p.1 = true then g1 ρ p.2 else g2 ρ p.2 := rfl
@[simp] theorem e_ret (f : DF) (ρ : DEnv) (st : Sto) : gRet f ρ st = (f ρ st).map fun p => (.rt p.1, ρ, p.2) := rfl
@[simp] theorem e_drop (f : DF) (ρ : DEnv) (st : Sto) : gDrop f ρ st = (f ρ st).map fun p => (.nx, ρ, p.2) := rfl
@[simp] theorem e_set (i : Nat) (f : DF) (ρ : DEnv) (st : Sto) : gSet i f ρ st = (f ρ st).map fun p => (.nx, ρ.set i (some p.1), p.2) := rfl
@[simp] theorem e_asg (f : DF) (g : D → DEnv → Option DEnv) (ρ : DEnv) (st : Sto) : gAsg f g ρ st = (f ρ st).bind fun p => (g p.1 ρ).map fun ρ' => (.nx, ρ', p.2) := rfl
@[simp] theorem e_par (i j : Nat) (f : DFs) (ρ : DEnv) (st : Sto) : gPar i j f ρ st = (f ρ st).bind fun p => match p.1 with
  | [a, b] => some (.nx, (ρ.set i (some a)).set j (some b), p.2)
  | _ => none := rfl
@[simp] theorem e_nName (i : Nat) (d : D) (ρ : DEnv) : nName i d ρ = some (ρ.set i (some d)) := rfl
@[simp] theorem e_nNil (ρ : DEnv) : nNil [] ρ = some ρ := rfl
@[simp] theorem e_nCons (g : D → DEnv → Option DEnv) (gs : List D → DEnv → Option DEnv) (d : D) (r : List D) (ρ : DEnv) : nCons g gs (d :: r) ρ = (g d ρ).bind fun ρ' => gs r ρ' := rfl
@[simp] theorem e_nTup (n : Nat) (gs : List D → DEnv → Option DEnv) (ds : List D) (ρ : DEnv) : nTup n gs (.tup ds) ρ = if ds.length = n then gs ds ρ else none := rfl
@[simp] theorem e_for (it : DI) (n : D → DEnv → Option DEnv) (g : DG) (ρ : DEnv) (st : Sto) : gFor it n g ρ st = (it ρ st).bind fun p => (p.1.items p.2).bind fun ds => loopG p.1 n g ds ρ p.2 := rfl
@[simp] theorem e_lc (it : DI) (n : D → DEnv → Option DEnv) (tt : DFb) (el : DF) (own : List Nat) (ρ : DEnv) (st : Sto) : lLc it n tt el own ρ st = (it ρ st).bind fun p => (p.1.items p.2).bind fun ds => (lcItems p.1 n tt el ds (wipeD ρ own) p.2).bind fun q =>
  if q.1.length ≤ 16777216 then some q else none := rfl
@[simp] theorem e_wipe_nil (ρ : DEnv) : wipeD ρ [] = ρ := rfl
@[simp] theorem e_wipe_cons (ρ : DEnv) (v : Nat) (vs : List Nat) : wipeD ρ (v :: vs) = (wipeD ρ vs).set v none := rfl
@[simp] theorem e_yes (ρ : DEnv) (st : Sto) : tYesD ρ st = some (true, st) := rfl
@[simp] theorem same_seq (ds : List D) (st st2 : Sto) : sameSrc (.seq ds) st st2 = true := rfl
theorem same_cell {n : Nat} {st st2 : Sto} (h : st2[n]? = st[n]?) : sameSrc (.cell n) st st2 = true := @decide_eq_true _ (Classical.propDecidable _) h
@[simp] theorem same_self (src : Src) (st : Sto) : sameSrc src st st = true := by
  cases src with
  | seq ds => rfl
  | cell n => exact same_cell rfl
/-! ### operators -/
@[simp] theorem o_add_int (i j : Int) (st : Sto) : oAdd (.int i) (.int j) st = some (.int (i + j), st) := rfl
@[simp] theorem o_add_str (x y : Str) (st : Sto) : oAdd (.str x) (.str y) st = if x.length + y.length ≤ 16777216 then some (.str (x ++ y), st) else none := rfl
@[simp] theorem o_add_tup (xs ys : List D) (st : Sto) : oAdd (.tup xs) (.tup ys) st = if xs.length + ys.length ≤ 16777216 then some (.tup (xs ++ ys), st) else none := rfl
@[simp] theorem o_add_ref (n m : Nat) (st : Sto) : oAdd (.ref n) (.ref m) st = match st[n]?, st[m]? with
    | some (.lst xs), some (.lst ys) => if xs.length + ys.length ≤ 16777216 then some (.ref st.length, st ++ [.lst (xs ++ ys)]) else none
    | _, _ => none := rfl
@[simp] theorem o_sub (i j : Int) (st : Sto) : oSub (.int i) (.int j) st = some (.int (i - j), st) := rfl
@[simp] theorem o_mul (i j : Int) (st : Sto) : oMul (.int i) (.int j) st = if MulOk i j then some (.int (i * j), st) else none := rfl
@[simp] theorem o_fdiv (i j : Int) (st : Sto) : oFdiv (.int i) (.int j) st = if DivOk j then some (.int (i.fdiv j), st) else none := rfl
@[simp] theorem o_mod (i j : Int) (st : Sto) : oMod (.int i) (.int j) st = if j ≠ 0 then some (.int (i.fmod j), st) else none := rfl
@[simp] theorem o_pow (i j : Int) (st : Sto) : oPow (.int i) (.int j) st = if 0 ≤ j ∧ j ≤ 1000000 ∧ i.natAbs < 2 ^ 64 then some (.int (i ^ j.toNat), st) else none := rfl
@[simp] theorem o_neg (i : Int) (st : Sto) : oNeg (.int i) st = some (.int (-i), st) := rfl
@[simp] theorem o_ord_int (p : Int → Int → Bool) (c : List Nat → List Nat → Bool) (i j : Int) (st : Sto) : oOrd p c (.int i) (.int j) st = some (.bl (p i j), st) := rfl
@[simp] theorem o_ord_str (p : Int → Int → Bool) (c : List Nat → List Nat → Bool) (x y : Str) (st : Sto) : oOrd p c (.str x) (.str y) st = some (.bl (c x.cps.toList y.cps.toList), st) := rfl
@[simp] theorem o_eq_int (i j : Int) (st : Sto) : oEq (.int i) (.int j) st = some (.bl (i == j), st) := rfl
@[simp] theorem o_ne_int (i j : Int) (st : Sto) : oNe (.int i) (.int j) st = some (.bl (!(i == j)), st) := rfl
@[simp] theorem o_eq_str (i j : Str) (st : Sto) : oEq (.str i) (.str j) st = some (.bl (i == j), st) := rfl
@[simp] theorem o_ne_str (i j : Str) (st : Sto) : oNe (.str i) (.str j) st = some (.bl (!(i == j)), st) := rfl
@[simp] theorem o_eq_bl (i j : Bool) (st : Sto) : oEq (.bl i) (.bl j) st = some (.bl (i == j), st) := rfl
@[simp] theorem o_ne_bl (i j : Bool) (st : Sto) : oNe (.bl i) (.bl j) st = some (.bl (!(i == j)), st) := rfl
@[simp] theorem o_isN (a : D) (st : Sto) : oIsN a .non st = some (.bl (isNonD a), st) := rfl
@[simp] theorem o_notN (a : D) (st : Sto) : oNotN a .non st = some (.bl (!isNonD a), st) := rfl
@[simp] theorem non_non : isNonD .non = true := rfl
@[simp] theorem non_int (i : Int) : isNonD (.int i) = false := rfl
@[simp] theorem non_bl (i : Bool) : isNonD (.bl i) = false := rfl
@[simp] theorem non_str (i : Str) : isNonD (.str i) = false := rfl
@[simp] theorem non_tup (i : List D) : isNonD (.tup i) = false := rfl
@[simp] theorem non_ref (i : Nat) : isNonD (.ref i) = false := rfl
@[simp] theorem o_ix_tup (xs : List D) (i : Int) (st : Sto) : oIx (.tup xs) (.int i) st = (atI xs i).map fun d => (d, st) := rfl
@[simp] theorem o_ix_fz (xs : List D) (i : Int) (st : Sto) : oIx (.fz xs) (.int i) st = (atI xs i).map fun d => (d, st) := rfl
@[simp] theorem o_ix_ref (n : Nat) (i : Int) (st : Sto) : oIx (.ref n) (.int i) st = (seqD st (.ref n)).bind fun ds => (atI ds i).map fun d => (d, st) := rfl
@[simp] theorem seq_tup (st : Sto) (xs : List D) : seqD st (.tup xs) = some xs := rfl
@[simp] theorem seq_fz (st : Sto) (xs : List D) : seqD st (.fz xs) = some xs := rfl
@[simp] theorem seq_ref (st : Sto) (n : Nat) : seqD st (.ref n) = match st[n]? with | some (.lst xs) => some xs | none => none := rfl
@[simp] theorem lstD_fz (st : Sto) (xs : List D) : lstD st (.fz xs) = some xs := rfl
@[simp] theorem lstD_ref (st : Sto) (n : Nat) : lstD st (.ref n) = match st[n]? with | some (.lst xs) => some xs | none => none := rfl
@[simp] theorem sl_tup' (xs : List D) (lo hi : Option Int) (st : Sto) : oSl lo hi (.tup xs) st = some (.tup (cutD xs lo hi), st) := rfl
@[simp] theorem sl_ref' (n : Nat) (lo hi : Option Int) (st : Sto) : oSl lo hi (.ref n) st = match st[n]? with | some (.lst xs) => some (.ref st.length, st ++ [.lst (cutD xs lo hi)]) | none => none := rfl
@[simp] theorem tru_non (st : Sto) : truD st .non = some false := rfl
@[simp] theorem tru_bl (st : Sto) (b : Bool) : truD st (.bl b) = some b := rfl
@[simp] theorem tru_int (st : Sto) (i : Int) : truD st (.int i) = some (i != 0) := rfl
@[simp] theorem tru_tup (st : Sto) (xs : List D) : truD st (.tup xs) = some (!xs.isEmpty) := rfl
@[simp] theorem tru_fz (st : Sto) (xs : List D) : truD st (.fz xs) = some (!xs.isEmpty) := rfl
@[simp] theorem tru_ref (st : Sto) (n : Nat) : truD st (.ref n) = match st[n]? with | some (.lst xs) => some (!xs.isEmpty) | none => none := rfl
@[simp] theorem b_len_tup (xs : List D) (st : Sto) : bLen [.tup xs] st = some (.int xs.length, st) := rfl
@[simp] theorem b_len_fz (xs : List D) (st : Sto) : bLen [.fz xs] st = some (.int xs.length, st) := rfl
@[simp] theorem b_len_ref (n : Nat) (st : Sto) : bLen [.ref n] st = (seqD st (.ref n)).map fun ds => (.int ds.length, st) := rfl
theorem abs_if (i : Int) : (if i < 0 then -i else i) = ((i.natAbs : Nat) : Int) := by split <;> omega
@[simp] theorem b_abs (i : Int) (st : Sto) : bAbs [.int i] st = some (.int (i.natAbs : Nat), st) := by
  rw [← abs_if]; rfl
@[simp] theorem b_max2 (i j : Int) (st : Sto) : bMax2 [.int i, .int j] st = some (.int (if j > i then j else i), st) := rfl
@[simp] theorem b_min2 (i j : Int) (st : Sto) : bMin2 [.int i, .int j] st = some (.int (if j < i then j else i), st) := rfl
@[simp] theorem b_int (i : Int) (st : Sto) : bInt [.int i] st = some (.int i, st) := rfl
@[simp] theorem b_tup (d : D) (st : Sto) : bTup [d] st = (seqD st d).map fun ds => (.tup ds, st) := rfl
@[simp] theorem b_list (d : D) (st : Sto) : bList [d] st = (seqD st d).map fun ds => (.ref st.length, st ++ [.lst ds]) := rfl
@[simp] theorem isLst_ref (st : Sto) (n : Nat) : isLstD st (.ref n) = decide (n < st.length) := rfl
@[simp] theorem m_app (n : Nat) (y : D) (st : Sto) : oApp (.ref n) [y] st = match st[n]? with
    | some (.lst xs) => if xs.length < 16777216 then some (.non, st.set n (.lst (xs ++ [y]))) else none
    | none => none := rfl
@[simp] theorem m_popAt (n : Nat) (i : Int) (st : Sto) : oPopAt (.ref n) [.int i] st = match st[n]? with
    | some (.lst xs) => if -(2 ^ 63) ≤ i ∧ i < 2 ^ 63 then (seqIndex? i xs.length).bind fun k => (xs[k]?).map fun y => (y, st.set n (.lst (xs.eraseIdx k))) else none
    | none => none := rfl
@[simp] theorem isi_non (T : String) : isiB T .non = false := rfl
@[simp] theorem isi_bl (T : String) (b : Bool) : isiB T (.bl b) = (T == "bool" || T == "int") := rfl
@[simp] theorem isi_int (T : String) (b : Int) : isiB T (.int b) = (T == "int") := rfl
@[simp] theorem isi_str (T : String) (b : Str) : isiB T (.str b) = (T == "str") := rfl
@[simp] theorem isi_tup (T : String) (b : List D) : isiB T (.tup b) = (T == "tuple") := rfl
@[simp] theorem startD_e (N : Nat) (ds : List D) : startD N ds = ds.map some ++ List.replicate (N - ds.length) none := rfl
theorem atI_0 {α : Type} (x : α) (xs : List α) : atI (x :: xs) 0 = some x := by
  have : ixN (x :: xs).length 0 = some 0 := by unfold ixN; rw [if_pos (by omega), if_pos (by rw [List.length_cons]; omega)]; rfl
  unfold atI
  rw [this]; rfl
theorem atI_nat' {α : Type} (xs : List α) (k : Nat) : atI xs (k : Int) = xs[k]? := by
  unfold atI ixN
  rw [if_pos (by omega)]
  by_cases h : k < xs.length
  · rw [if_pos (by omega)]; simp
  · rw [if_neg (by omega), List.getElem?_eq_none (by omega)]; rfl
theorem atI_ofNat {α : Type} (xs : List α) (k : Nat) : atI xs (OfNat.ofNat k : Int) = xs[k]? := atI_nat' xs k
@[simp] theorem atI_0' {α : Type} (xs : List α) : atI xs 0 = xs[0]? := atI_nat' xs 0
@[simp] theorem atI_1' {α : Type} (xs : List α) : atI xs 1 = xs[1]? := atI_nat' xs 1
@[simp] theorem atI_2' {α : Type} (xs : List α) : atI xs 2 = xs[2]? := atI_nat' xs 2
@[simp] theorem atI_3' {α : Type} (xs : List α) : atI xs 3 = xs[3]? := atI_nat' xs 3
@[simp] theorem atI_4' {α : Type} (xs : List α) : atI xs 4 = xs[4]? := atI_nat' xs 4
@[simp] theorem atI_5' {α : Type} (xs : List α) : atI xs 5 = xs[5]? := atI_nat' xs 5
@[simp] theorem atI_6' {α : Type} (xs : List α) : atI xs 6 = xs[6]? := atI_nat' xs 6
@[simp] theorem atI_7' {α : Type} (xs : List α) : atI xs 7 = xs[7]? := atI_nat' xs 7
@[simp] theorem atI_8' {α : Type} (xs : List α) : atI xs 8 = xs[8]? := atI_nat' xs 8
@[simp] theorem atI_9' {α : Type} (xs : List α) : atI xs 9 = xs[9]? := atI_nat' xs 9
@[simp] theorem atI_10' {α : Type} (xs : List α) : atI xs 10 = xs[10]? := atI_nat' xs 10
@[simp] theorem atI_11' {α : Type} (xs : List α) : atI xs 11 = xs[11]? := atI_nat' xs 11
theorem atI_neg1 {α : Type} (xs : List α) (h : xs ≠ []) : atI xs (-1) = xs[xs.length - 1]? := by
  have hl : 0 < xs.length := List.length_pos_iff.mpr h
  unfold atI ixN
  rw [if_neg (by omega), if_pos (by omega)]
  have : ((-1 : Int) + (xs.length : Int)).toNat = xs.length - 1 := by omega
  rw [this]; rfl
/-! ### what a call leaves -/
theorem gc_eq {F : Fn} {ds : List D} {st st' : Sto} {d : D} (h : F ds st = some (d, st')) (ok : dropOk st.length st d st') : gcFn F ds st = some (d, st'.take st.length) := by
  unfold gcFn
  rw [h, Option.map_some, if_pos ok]
theorem gc_same {F : Fn} {ds : List D} {st : Sto} {d : D} (h : F ds st = some (d, st)) : gcFn F ds st = some (d, st) := by
  unfold gcFn
  rw [h, Option.map_some]
  split
  · rw [List.take_length]
  · rfl
theorem gc_drop {F : Fn} {ds : List D} {st g : Sto} {d : D} (h : F ds st = some (d, st ++ g)) (hb : belowD st.length d = true) : gcFn F ds st = some (d, st) := by
  rw [gc_eq h ⟨by rw [List.length_append]; omega, hb, fun i hi => .inl (List.getElem?_append_left hi)⟩, List.take_left]
/-- no references in it -/
def pureD (d : D) : Bool := belowD 0 d
mutual
theorem below_mono {L M : Nat} (h : L ≤ M) : ∀ d : D, belowD L d = true → belowD M d = true
  | .non, _ => by simp [belowD]
  | .bl _, _ => by simp [belowD]
  | .int _, _ => by simp [belowD]
  | .str _, _ => by simp [belowD]
  | .tup xs, b => by simp only [belowD] at b ⊢; exact belows_mono h xs b
  | .fz xs, b => by simp only [belowD] at b ⊢; exact belows_mono h xs b
  | .ref n, b => by simp only [belowD, decide_eq_true_eq] at b ⊢; omega
theorem belows_mono {L M : Nat} (h : L ≤ M) : ∀ d : List D, belowDs L d = true → belowDs M d = true
  | [], _ => by simp [belowDs]
  | d :: ds, b => by
    simp only [belowDs, Bool.and_eq_true] at b ⊢
    exact ⟨below_mono h d b.1, belows_mono h ds b.2⟩
end
theorem pure_below {d : D} {L : Nat} (h : pureD d = true) : belowD L d = true := below_mono (Nat.zero_le _) d h
theorem belowDs_iff {L : Nat} : ∀ ds : List D, belowDs L ds = true ↔ ∀ d ∈ ds, belowD L d = true
  | [] => by simp [belowDs]
  | d :: ds => by simp [belowDs, belowDs_iff ds]
/-- from a body's end to the def's value -/
theorem fn_same {N : Nat} {g : DG} {ds : List D} {st : Sto} {d : D} {ρ : DEnv} (h : g (startD N ds) st = some (.rt d, ρ, st)) : fnG N g ds st = some (d, st) := gc_same (by unfold fnBody; rw [h]; rfl)
theorem fn_drop {N : Nat} {g : DG} {ds : List D} {st gr : Sto} {d : D} {ρ : DEnv} (h : g (startD N ds) st = some (.rt d, ρ, st ++ gr)) (hb : belowD st.length d = true) : fnG N g ds st = some (d, st) := gc_drop (by unfold fnBody; rw [h]; rfl) hb
theorem fn_same' {N : Nat} {g : DG} {ds : List D} {st : Sto} {d : D} (h : (g (startD N ds) st).map (fun r => (r.1, r.2.2)) = some (.rt d, st)) : fnG N g ds st = some (d, st) := by
  obtain ⟨r, h1, h2⟩ := Option.map_eq_some_iff.mp h
  obtain ⟨fl, ρ, st'⟩ := r
  cases h2
  exact fn_same h1
theorem fn_drop' {N : Nat} {g : DG} {ds : List D} {st gr : Sto} {d : D} (h : (g (startD N ds) st).map (fun r => (r.1, r.2.2)) = some (.rt d, st ++ gr)) (hb : belowD st.length d = true) : fnG N g ds st = some (d, st) := by
  obtain ⟨r, h1, h2⟩ := Option.map_eq_some_iff.mp h
  obtain ⟨fl, ρ, st'⟩ := r
  cases h2
  exact fn_drop h1 hb
theorem step {g1 g2 : DG} {ρ ρ1 : DEnv} {st st1 : Sto} {r : Option (Fl × DEnv × Sto)} (h1 : g1 ρ st = some (.nx, ρ1, st1)) (h2 : g2 ρ1 st1 = r) : gSeq g1 g2 ρ st = r := by
  rw [e_seq, h1]
  exact h2
theorem step_rt {g1 g2 : DG} {ρ ρ1 : DEnv} {st st1 : Sto} {d : D} (h1 : g1 ρ st = some (.rt d, ρ1, st1)) : gSeq g1 g2 ρ st = some (.rt d, ρ1, st1) := by
  rw [e_seq, h1] <;> rfl
theorem e_for' {it : DI} {n : D → DEnv → Option DEnv} {g : DG} {ρ : DEnv} {st st1 : Sto} {src : Src} {ds : List D} {r : Option (Fl × DEnv × Sto)} (h1 : it ρ st = some (src, st1)) (h2 : src.items st1 = some ds) (h3 : loopG src n g ds ρ st1 = r) : gFor it n g ρ st = r := by
  rw [e_for, h1, Option.bind_some, h2, Option.bind_some]
  exact h3
/-! ### loops -/
@[simp] theorem loop_nil (src : Src) (n : D → DEnv → Option DEnv) (g : DG) (ρ : DEnv) (st : Sto) : loopG src n g [] ρ st = some (.nx, ρ, st) := rfl
theorem loop_cons (src : Src) (n : D → DEnv → Option DEnv) (g : DG) (d : D) (r : List D) (ρ : DEnv) (st : Sto) : loopG src n g (d :: r) ρ st = (n d ρ).bind fun ρ1 => (g ρ1 st).bind fun q => match q.1 with
    | .nx => if sameSrc src st q.2.2 = true then loopG src n g r q.2.1 q.2.2 else none
    | .ct => if sameSrc src st q.2.2 = true then loopG src n g r q.2.1 q.2.2 else none
    | .bk => some (.nx, q.2.1, q.2.2)
    | .rt d => some (.rt d, q.2.1, q.2.2) := rfl
theorem loop_nx {src : Src} {n : D → DEnv → Option DEnv} {g : DG} {d : D} {r : List D} {ρ ρ1 ρ2 : DEnv} {st st2 : Sto} (h1 : n d ρ = some ρ1) (h2 : g ρ1 st = some (.nx, ρ2, st2)) (h3 : sameSrc src st st2 = true) :
    loopG src n g (d :: r) ρ st = loopG src n g r ρ2 st2 := by
  rw [loop_cons, h1, Option.bind_some, h2, Option.bind_some]
  simp [h3]
theorem loop_ct {src : Src} {n : D → DEnv → Option DEnv} {g : DG} {d : D} {r : List D} {ρ ρ1 ρ2 : DEnv} {st st2 : Sto} (h1 : n d ρ = some ρ1) (h2 : g ρ1 st = some (.ct, ρ2, st2)) (h3 : sameSrc src st st2 = true) :
    loopG src n g (d :: r) ρ st = loopG src n g r ρ2 st2 := by
  rw [loop_cons, h1, Option.bind_some, h2, Option.bind_some]
  simp [h3]
theorem loop_rt {src : Src} {n : D → DEnv → Option DEnv} {g : DG} {d v : D} {r : List D} {ρ ρ1 ρ2 : DEnv} {st st2 : Sto} (h1 : n d ρ = some ρ1) (h2 : g ρ1 st = some (.rt v, ρ2, st2)) :
    loopG src n g (d :: r) ρ st = some (.rt v, ρ2, st2) := by
  rw [loop_cons, h1, Option.bind_some, h2, Option.bind_some]
theorem loop_bk {src : Src} {n : D → DEnv → Option DEnv} {g : DG} {d : D} {r : List D} {ρ ρ1 ρ2 : DEnv} {st st2 : Sto} (h1 : n d ρ = some ρ1) (h2 : g ρ1 st = some (.bk, ρ2, st2)) :
    loopG src n g (d :: r) ρ st = some (.nx, ρ2, st2) := by
  rw [loop_cons, h1, Option.bind_some, h2, Option.bind_some]
/-- a loop by what holds between its turns -/
theorem loop_inv {src : Src} {n : D → DEnv → Option DEnv} {g : DG} (Inv : List D → DEnv → Sto → Prop) :
    ∀ (ds pre : List D) (ρ : DEnv) (st : Sto), Inv pre ρ st →
      (∀ pre d post ρ st, pre ++ d :: post = pre ++ d :: post → Inv pre ρ st → d ∈ ds → ∃ ρ1 ρ2 st2, n d ρ = some ρ1 ∧ g ρ1 st = some (.nx, ρ2, st2) ∧ sameSrc src st st2 = true ∧ Inv (pre ++ [d]) ρ2 st2) →
      ∃ ρ' st', loopG src n g ds ρ st = some (.nx, ρ', st') ∧ Inv (pre ++ ds) ρ' st'
  | [], pre, ρ, st, h0, _ => ⟨ρ, st, rfl, by simpa using h0⟩
  | d :: ds, pre, ρ, st, h0, hs => by
    obtain ⟨ρ1, ρ2, st2, h1, h2, h3, h4⟩ := hs pre d ds ρ st rfl h0 List.mem_cons_self
    obtain ⟨ρ', st', h5, h6⟩ := loop_inv Inv ds (pre ++ [d]) ρ2 st2 h4 fun pre d' post ρ st _ hi hm => hs pre d' post ρ st rfl hi (List.mem_cons_of_mem _ hm)
    exact ⟨ρ', st', by rw [loop_nx h1 h2 h3]; exact h5, by simpa using h6⟩
/-! ### comprehensions -/
theorem lc_map {src : Src} {n : D → DEnv → Option DEnv} {el : DF} {ρ : DEnv} {st : Sto} (f : D → D) : ∀ ds : List D, (∀ d ∈ ds, ∃ ρ1, n d ρ = some ρ1 ∧ el ρ1 st = some (f d, st)) → lcItems src n tYesD el ds ρ st = some (ds.map f, st)
  | [], _ => rfl
  | d :: ds, h => by
    obtain ⟨ρ1, h1, h2⟩ := h d List.mem_cons_self
    have ih := lc_map (src := src) f ds fun d' hd => h d' (List.mem_cons_of_mem _ hd)
    show ((n d ρ).bind fun ρ1 => (tYesD ρ1 st).bind fun b => _) = _
    rw [h1, Option.bind_some]
    simp [h2, ih]
theorem lc_filter {src : Src} {n : D → DEnv → Option DEnv} {tt : DFb} {el : DF} {ρ : DEnv} {st : Sto} (p : D → Bool) (f : D → D) : ∀ ds : List D, (∀ d ∈ ds, ∃ ρ1, n d ρ = some ρ1 ∧ tt ρ1 st = some (p d, st) ∧ (p d = true → el ρ1 st = some (f d, st))) →
    lcItems src n tt el ds ρ st = some ((ds.filter p).map f, st)
  | [], _ => rfl
  | d :: ds, h => by
    obtain ⟨ρ1, h1, h2, h3⟩ := h d List.mem_cons_self
    have ih := lc_filter (src := src) p f ds fun d' hd => h d' (List.mem_cons_of_mem _ hd)
    show ((n d ρ).bind fun ρ1 => (tt ρ1 st).bind fun b => _) = _
    rw [h1, Option.bind_some, h2, Option.bind_some]
    cases hp : p d with
    | true => simp [h3 hp, ih, hp]
    | false => simp [ih, hp]
theorem lc_thread {src : Src} {n : D → DEnv → Option DEnv} {el : DF} {ρ : DEnv} (Inv : Sto → Prop) (Pv : D → Prop) : ∀ (ds : List D) (st : Sto), Inv st →
    (∀ d ∈ ds, ∀ st, Inv st → ∃ ρ1 v st', n d ρ = some ρ1 ∧ el ρ1 st = some (v, st') ∧ sameSrc src st st' = true ∧ Inv st' ∧ Pv v) →
    ∃ vs st', lcItems src n tYesD el ds ρ st = some (vs, st') ∧ Inv st' ∧ vs.length = ds.length ∧ ∀ v ∈ vs, Pv v
  | [], st, hi, _ => ⟨[], st, rfl, hi, rfl, fun _ h => nomatch h⟩
  | d :: ds, st, hi, h => by
    obtain ⟨ρ1, v, st1, h1, h2, h3, h4, h5⟩ := h d List.mem_cons_self st hi
    obtain ⟨vs, st', h6, h7, h8, h9⟩ := lc_thread (src := src) Inv Pv ds st1 h4 fun d' hd => h d' (List.mem_cons_of_mem _ hd)
    refine ⟨v :: vs, st', ?_, h7, by simp [h8], fun w hw => (List.mem_cons.mp hw).elim (fun e => e ▸ h5) (h9 w)⟩
    show ((n d ρ).bind fun ρ1 => (tYesD ρ1 st).bind fun b => _) = _
    rw [h1, Option.bind_some]
    simp [h2, h3, h6]
theorem mem_rng {lo : Int} {n : Nat} {d : D} (h : d ∈ rngD lo n) : ∃ i : Nat, i < n ∧ d = .int (lo + i) := by
  unfold rngD at h
  obtain ⟨i, hi, e⟩ := List.mem_map.mp h
  exact ⟨i, List.mem_range.mp hi, e.symm⟩
theorem rng_len (lo : Int) (n : Nat) : (rngD lo n).length = n := by simp [rngD]
theorem gc_keep {F : Fn} {ds : List D} {st st' : Sto} {d : D} (h : F ds st = some (d, st')) (hb : belowD st.length d = false) : gcFn F ds st = some (d, st') := by
  unfold gcFn
  rw [h, Option.map_some, if_neg]
  intro z
  have z2 := z.2.1
  rw [show (d, st').1 = d from rfl, hb] at z2
  cases z2
theorem gc_len {F : Fn} {ds : List D} {st st' : Sto} {d : D} (h : F ds st = some (d, st')) (hl : st'.length = st.length) : gcFn F ds st = some (d, st') := by
  unfold gcFn
  rw [h, Option.map_some]
  split
  · show some (d, st'.take st.length) = _
    rw [← hl, List.take_length]
  · rfl
/-- a def that may have written cells of its caller's -/
theorem fn_len {N : Nat} {g : DG} {ds : List D} {st st' : Sto} {d : D} {ρ : DEnv} (h : g (startD N ds) st = some (.rt d, ρ, st')) (hl : st'.length = st.length) : fnG N g ds st = some (d, st') := gc_len (by unfold fnBody; rw [h]; rfl) hl
theorem fn_keep {N : Nat} {g : DG} {ds : List D} {st st' : Sto} {d : D} {ρ : DEnv} (h : g (startD N ds) st = some (.rt d, ρ, st')) (hb : belowD st.length d = false) : fnG N g ds st = some (d, st') := gc_keep (by unfold fnBody; rw [h]; rfl) hb
theorem ints_below (L : Nat) : ∀ ns : List Int, belowDs L (ns.map D.int) = true
  | [] => rfl
  | n :: ns => by simp [belowDs, belowD, ints_below L ns]
/-- the tape: the store's first list, of ints -/
abbrev tp (ts : List Int) : Cell := .lst (ts.map D.int)
/-- a def that may have moved the tape, and left new lists -/
theorem fn_tape {N : Nat} {g : DG} {ds : List D} {ts ts' : List Int} {r gr : Sto} {d : D} {ρ : DEnv} (h : g (startD N ds) (tp ts :: r) = some (.rt d, ρ, tp ts' :: (r ++ gr))) (hb : belowD (r.length + 1) d = true) :
    fnG N g ds (tp ts :: r) = some (d, tp ts' :: r) := by
  have e := gc_eq (F := fnBody N g) (ds := ds) (st := tp ts :: r) (st' := tp ts' :: (r ++ gr)) (d := d) (by unfold fnBody; rw [h]; rfl) ⟨by simp, hb, fun i hi => ?_⟩
  · refine e.trans ?_
    simp
  · cases i with
    | zero => exact .inr ⟨_, rfl, ints_below _ ts'⟩
    | succ i =>
      refine .inl ?_
      simp only [List.getElem?_cons_succ]
      exact List.getElem?_append_left (by simpa using hi)
/-! ### loops over one name -/
theorem set_self {ρ : DEnv} {i : Nat} (hi : i < ρ.length) : ∃ x, ρ = ρ.set i x := ⟨ρ[i], by simp⟩
theorem loop_keep {src : Src} {i : Nat} {g : DG} {st : Sto} : ∀ (ds : List D) (ρ : DEnv), i < ρ.length → (∀ d ∈ ds, g (ρ.set i (some d)) st = some (.nx, ρ.set i (some d), st)) → ∃ x ρ', ρ' = ρ.set i x ∧ loopG src (nName i) g ds ρ st = some (.nx, ρ', st)
  | [], ρ, hi, _ => by
    obtain ⟨x, hx⟩ := set_self hi
    exact ⟨x, ρ, hx, rfl⟩
  | d :: ds, ρ, hi, h => by
    obtain ⟨x, ρ', e, hx⟩ := loop_keep (src := src) ds (ρ.set i (some d)) (by rw [List.length_set]; exact hi) fun d' hd => by
      rw [List.set_set]
      exact h d' (List.mem_cons_of_mem _ hd)
    rw [List.set_set] at e
    exact ⟨x, ρ', e, (loop_nx rfl (h d List.mem_cons_self) (same_self _ _)).trans hx⟩
/-- a loop that leaves at the first item of a kind -/
theorem loop_find {src : Src} {i : Nat} {g : DG} {st : Sto} (p : D → Bool) (v : D) : ∀ (ds : List D) (ρ : DEnv), i < ρ.length →
    (∀ d ∈ ds, g (ρ.set i (some d)) st = if p d = true then some (.rt v, ρ.set i (some d), st) else some (.nx, ρ.set i (some d), st)) → ∃ x ρ', ρ' = ρ.set i x ∧ loopG src (nName i) g ds ρ st = if ds.any p = true then some (.rt v, ρ', st) else some (.nx, ρ', st)
  | [], ρ, hi, _ => by
    obtain ⟨x, hx⟩ := set_self hi
    exact ⟨x, ρ, hx, rfl⟩
  | d :: ds, ρ, hi, h => by
    have hd := h d List.mem_cons_self
    by_cases hp : p d = true
    · rw [if_pos hp] at hd
      exact ⟨some d, _, rfl, by rw [loop_rt rfl hd, List.any_cons, hp]; rfl⟩
    · rw [if_neg hp] at hd
      obtain ⟨x, ρ', e, hx⟩ := loop_find (src := src) p v ds (ρ.set i (some d)) (by rw [List.length_set]; exact hi) fun d' hd => by
        rw [List.set_set]
        exact h d' (List.mem_cons_of_mem _ hd)
      rw [List.set_set] at e
      have hf : p d = false := by simpa using hp
      exact ⟨x, ρ', e, by rw [loop_nx rfl hd (same_self _ _), hx, List.any_cons, hf, Bool.false_or]⟩
theorem rng_ok {n : Nat} (h : n ≤ 1000000) : RngOk (n : Int) :=
  ⟨Int.le_trans (by decide) (Int.natCast_nonneg n), Int.lt_of_le_of_lt (Int.ofNat_le.mpr h) (by decide)⟩
/-! ### values that are compared -/
/-- data without references, so many levels deep -/
def okD : Nat → D → Bool
  | 0, _ => false
  | l + 1, .tup xs => decide (xs.length ≤ 1000) && xs.all (okD l)
  | _ + 1, .ref _ => false
  | _ + 1, .fz _ => false
  | _ + 1, _ => true
/-! ### the store's places -/
@[simp] theorem get_at0 (S T : Sto) : (S ++ T)[S.length]? = T[0]? := by
  rw [List.getElem?_append_right (Nat.le_refl _), Nat.sub_self]
@[simp] theorem get_at (S T : Sto) (j : Nat) : (S ++ T)[S.length + j]? = T[j]? := by
  rw [List.getElem?_append_right (Nat.le_add_right _ _), Nat.add_sub_cancel_left]
theorem get_app {S : Sto} {k : Nat} {c : Cell} (h : S[k]? = some c) (T : Sto) : (S ++ T)[k]? = some c := by
  rw [List.getElem?_append_left (List.getElem?_eq_some_iff.mp h).1]
  exact h
theorem set_end (S : Sto) (c c' : Cell) : (S ++ [c]).set S.length c' = S ++ [c'] := by
  rw [List.set_append_right _ _ (Nat.le_refl _), Nat.sub_self]; rfl
theorem cut_to (os : List D) (a : Nat) : cutD os none (some (a : Int)) = os.take a := by
  unfold cutD
  rw [HT.sIx_none, HT.sIx_nat, List.drop_zero, Nat.sub_zero]
  by_cases h : a ≤ os.length
  · rw [Nat.min_eq_left h]
  · rw [Nat.min_eq_right (by omega), List.take_length, List.take_of_length_le (by omega)]
theorem cut_from (os : List D) (a : Nat) : cutD os (some (a : Int)) none = os.drop a := by
  unfold cutD
  rw [HT.sIx_none, HT.sIx_nat]
  by_cases h : a ≤ os.length
  · rw [Nat.min_eq_left h, List.take_of_length_le (by rw [List.length_drop]; omega)]
  · rw [Nat.min_eq_right (by omega), List.drop_length, List.drop_of_length_le (by omega), List.take_nil]
theorem src_cell {i n : Nat} {ρ : DEnv} {st : Sto} {xs : List D} (h1 : ρ[i]? = some (some (.ref n))) (h2 : st[n]? = some (.lst xs)) : srcOf (dVar i) ρ st = some (.cell n, st) := by
  have hn : n < st.length := (List.getElem?_eq_some_iff.mp h2).1
  rw [e_srcOf, e_var, h1]
  show (if n < st.length then some (Src.cell n, st) else none) = _
  rw [if_pos hn]
theorem items_cell {n : Nat} {st : Sto} {xs : List D} (h2 : st[n]? = some (.lst xs)) : (Src.cell n).items st = some xs := by
  rw [e_items_cell, h2]
theorem src_tup {i : Nat} {ρ : DEnv} {st : Sto} {xs : List D} (h1 : ρ[i]? = some (some (.tup xs))) : srcOf (dVar i) ρ st = some (.seq xs, st) := by
  rw [e_srcOf, e_var, h1] <;> rfl
theorem for_cell {i n : Nat} {nm : D → DEnv → Option DEnv} {g : DG} {ρ : DEnv} {st : Sto} {xs : List D} {r : Option (Fl × DEnv × Sto)} (h1 : ρ[i]? = some (some (.ref n))) (h2 : st[n]? = some (.lst xs)) (h : loopG (.cell n) nm g xs ρ st = r) :
    gFor (srcOf (dVar i)) nm g ρ st = r := e_for' (src_cell h1 h2) (items_cell h2) h
theorem for_tup {i : Nat} {nm : D → DEnv → Option DEnv} {g : DG} {ρ : DEnv} {st : Sto} {xs : List D} {r : Option (Fl × DEnv × Sto)} (h1 : ρ[i]? = some (some (.tup xs))) (h : loopG (.seq xs) nm g xs ρ st = r) :
    gFor (srcOf (dVar i)) nm g ρ st = r := e_for' (src_tup h1) rfl h
/-- a def by its steps, with the last one giving a value -/
theorem fn_map {N : Nat} {g : DG} {ds : List D} {st st' : Sto} {d : D} (h : (g (startD N ds) st).map (fun r => (r.1, r.2.2)) = some (.rt d, st')) : fnBody N g ds st = some (d, st') := by
  obtain ⟨r, h1, h2⟩ := Option.map_eq_some_iff.mp h
  obtain ⟨fl, ρ, st1⟩ := r
  cases h2
  unfold fnBody
  rw [h1] <;> rfl
end DL
end

section
set_option Elab.async false
set_option linter.all false
set_option maxRecDepth 100000
set_option maxHeartbeats 1000000
namespace W
open PySem PySem.Spec PyProof.Rows L2 DL
theorem gcd_loop (x y : Option D) (st : Sto) : ∀ (n a b : Nat), b < n →
    whileG (dTr (dVar 3)) (gPar 2 3 (dCons (dVar 3) (dCons (dBin oMod (dVar 2) (dVar 3)) dNil))) n [x, y, some (.int a), some (.int b)] st = some (.nx, [x, y, some (.int (Nat.gcd a b : Nat)), some (.int 0)], st)
  | 0, a, b, h => absurd h (Nat.not_lt_zero _)
  | n + 1, a, b, h => by
    by_cases hb : b = 0
    · subst hb
      simp [whileG]
    · have hb' : ((b : Nat) : Int) ≠ 0 := by omega
      have ih := gcd_loop x y st n b (a % b) (by have := Nat.mod_lt a (Nat.pos_of_ne_zero hb); omega)
      have e1 : Int.fmod (a : Int) (b : Int) = ((a % b : Nat) : Int) := by
        rw [Int.fmod_eq_emod_of_nonneg _ (by omega)]; rfl
      have e2 : Nat.gcd b (a % b) = Nat.gcd a b := by rw [Nat.gcd_comm, ← Nat.gcd_rec, Nat.gcd_comm]
      simp [whileG, hb, e1]
      rw [show ((a : Int) % (b : Int)) = ((a % b : Nat) : Int) from rfl, ih, e2]
theorem f_gcd (a b : Int) (st : Sto) : F_gcd_of [.int a, .int b] st = some (.int (Int.gcd a b : Nat), st) := by
  unfold F_gcd_of
  apply fn_same (ρ := [some (.int a), some (.int b), some (.int (Nat.gcd a.natAbs b.natAbs : Nat)), some (.int 0)])
  have l := gcd_loop (some (.int a)) (some (.int b)) st (b.natAbs + 1) a.natAbs b.natAbs (Nat.lt_succ_self _)
  unfold G_gcd_of
  simp [gWhile, fuel_gcd_of, l]
  rfl
/-! ### ratios -/
def encR (r : Rat) : D := .tup [.int r.num, .int r.den]
theorem fdiv_of {a c k : Int} (hc : c ≠ 0) (h : a = c * k) : a.fdiv c = k := by rw [h, Int.mul_fdiv_cancel_left _ hc]
theorem ediv_of {a c k : Int} (hc : c ≠ 0) (h : a = c * k) : a / c = k := by rw [h, Int.mul_ediv_cancel_left _ hc]
/-- the parts of a fraction in lowest terms -/
theorem divInt_of (a b : Int) (hb : b ≠ 0) : ∃ k l : Int, a = (Int.gcd a b : Nat) * k ∧ b = (Int.gcd a b : Nat) * l ∧ 0 < Int.gcd a b ∧ (Rat.divInt a b).num = b.sign * k ∧ ((Rat.divInt a b).den : Int) = b.sign * l := by
  have hg : 0 < Int.gcd a b := Int.gcd_pos_iff.mpr (.inr hb)
  have hg' : ((Int.gcd a b : Nat) : Int) ≠ 0 := by omega
  obtain ⟨k, hk⟩ := Int.gcd_dvd_left (a := a) (b := b)
  obtain ⟨l, hl⟩ := Int.gcd_dvd_right (a := a) (b := b)
  refine ⟨k, l, hk, hl, hg, ?_, ?_⟩
  · rw [Rat.num_divInt, Int.gcd_comm b a]
    exact ediv_of hg' (by rw [Int.mul_left_comm, ← hk])
  · rw [Rat.den_divInt, if_neg hb, Int.gcd_comm b a]
    have h1 : b.sign * b = b.natAbs := by
      rcases Int.lt_trichotomy b 0 with z | z | z
      · rw [Int.sign_eq_neg_one_of_neg z]; omega
      · exact absurd z hb
      · rw [Int.sign_eq_one_of_pos z]; omega
    have h2 : ((b.natAbs / Int.gcd a b : Nat) : Int) = (b.natAbs : Int) / (Int.gcd a b : Nat) := rfl
    rw [h2]
    exact ediv_of hg' (by rw [Int.mul_left_comm, ← hl, h1])
theorem f_ratio (a b : Int) (st : Sto) (hb : b ≠ 0) (hz : b.natAbs < 2 ^ 200) : F_ratio [.int a, .int b] st = some (encR (Rat.divInt a b), st) := by
  obtain ⟨k, l, h1, h2, h3, h4, h5⟩ := divInt_of a b hb
  have hle : (Int.gcd a b) ≤ b.natAbs := Nat.le_of_dvd (by omega) (by
    have := Int.gcd_dvd_right (a := a) (b := b)
    exact Int.natAbs_dvd_natAbs.mpr this)
  unfold F_ratio encR
  rw [h4, h5]
  by_cases hn : b < 0
  · apply fn_same (ρ := [some (.int a), some (.int b), some (.int (-(Int.gcd a b : Nat)))])
    have hs : b.sign = -1 := Int.sign_eq_neg_one_of_neg hn
    have d1 : DivOk (-((Int.gcd a b : Nat) : Int)) := ⟨by omega, by omega⟩
    have e1 : a.fdiv (-((Int.gcd a b : Nat) : Int)) = b.sign * k := fdiv_of (by omega) (by rw [hs, Int.neg_one_mul, Int.neg_mul_neg]; exact h1)
    have e2 : b.fdiv (-((Int.gcd a b : Nat) : Int)) = b.sign * l := fdiv_of (by omega) (by rw [hs, Int.neg_one_mul, Int.neg_mul_neg]; exact h2)
    unfold G_ratio
    simp [f_gcd, hn, d1, e1, e2]
  · apply fn_same (ρ := [some (.int a), some (.int b), some (.int (Int.gcd a b : Nat))])
    have hs : b.sign = 1 := Int.sign_eq_one_of_pos (by omega)
    have d1 : DivOk ((Int.gcd a b : Nat) : Int) := ⟨by omega, by omega⟩
    have e1 : a.fdiv ((Int.gcd a b : Nat) : Int) = b.sign * k := fdiv_of (by omega) (by rw [hs]; simp; exact h1)
    have e2 : b.fdiv ((Int.gcd a b : Nat) : Int) = b.sign * l := fdiv_of (by omega) (by rw [hs]; simp; exact h2)
    unfold G_ratio
    simp [f_gcd, hn, d1, e1, e2]
theorem mulOk_l {i j : Int} (h : i.natAbs < 18446744073709551616) : MulOk i j := .inl h
theorem mulOk_r {i j : Int} (h : j.natAbs < 18446744073709551616) : MulOk i j := .inr (.inl h)
theorem f_less (r s : Rat) (st : Sto) (h1 : r.den < 2 ^ 64) (h2 : s.den < 2 ^ 64) : F_less_ratio [encR r, encR s] st = some (.bl (decide (r < s)), st) := by
  unfold F_less_ratio
  apply fn_same (ρ := [some (encR r), some (encR s)])
  unfold G_less_ratio
  have m1 : MulOk r.num s.den := mulOk_r (by omega)
  have m2 : MulOk s.num r.den := mulOk_r (by omega)
  simp [encR, atI_0, atI_ofNat, m1, m2, Rat.lt_iff]

theorem den_divInt_le (a b : Int) : (Rat.divInt a b).den ≤ b.natAbs + 1 := by
  rw [Rat.den_divInt]
  split
  · omega
  · exact Nat.le_trans (Nat.div_le_self _ _) (Nat.le_succ _)
theorem den_divInt_le' (a b : Int) (hb : b ≠ 0) : (Rat.divInt a b).den ≤ b.natAbs := by
  rw [Rat.den_divInt, if_neg hb]
  exact Nat.div_le_self _ _
theorem add_eq (r s : Rat) : r + s = Rat.divInt (r.num * s.den + s.num * r.den) (r.den * s.den) := by
  have h := Rat.divInt_add_divInt r.num s.num (d₁ := r.den) (d₂ := s.den) (by have := r.den_nz; omega) (by have := s.den_nz; omega)
  rw [Rat.num_divInt_den, Rat.num_divInt_den] at h
  exact h
theorem mul_eq (r s : Rat) : r * s = Rat.divInt (r.num * s.num) (r.den * s.den) := by
  have h := Rat.divInt_mul_divInt r.num s.num (d₁ := r.den) (d₂ := s.den)
  rw [Rat.num_divInt_den, Rat.num_divInt_den] at h
  exact h
theorem den_mul_ne (r s : Rat) : ((r.den : Int) * (s.den : Int)) ≠ 0 := by
  have h1 := r.den_pos
  have h2 := s.den_pos
  have := Int.mul_pos (show (0 : Int) < r.den by omega) (show (0 : Int) < s.den by omega)
  omega
theorem den_mul_abs (r s : Rat) : ((r.den : Int) * (s.den : Int)).natAbs = r.den * s.den := by
  rw [Int.natAbs_mul]; rfl
theorem f_add (r s : Rat) (st : Sto) (h1 : r.den < 2 ^ 64) (h2 : s.den < 2 ^ 64) : F_add_ratio [encR r, encR s] st = some (encR (r + s), st) := by
  unfold F_add_ratio
  apply fn_same (ρ := [some (encR r), some (encR s)])
  unfold G_add_ratio
  have m1 : MulOk r.num s.den := mulOk_r (by omega)
  have m2 : MulOk s.num r.den := mulOk_r (by omega)
  have m3 : MulOk r.den s.den := mulOk_r (by omega)
  have hz : ((r.den : Int) * (s.den : Int)).natAbs < 2 ^ 200 := by
    rw [den_mul_abs]
    exact Nat.lt_of_lt_of_le (Nat.mul_lt_mul'' h1 h2) (by decide)
  have e := f_ratio (r.num * s.den + s.num * r.den) (r.den * s.den) st (den_mul_ne r s) hz
  rw [← add_eq] at e
  simp [encR, m1, m2, m3]
  rw [e]
  simp [encR]
theorem f_times (r s : Rat) (st : Sto) (h1 : r.den < 2 ^ 130) (h2 : s.den < 2 ^ 64) (h3 : s.num.natAbs < 2 ^ 64) : F_times_ratio [encR r, encR s] st = some (encR (r * s), st) := by
  unfold F_times_ratio
  apply fn_same (ρ := [some (encR r), some (encR s)])
  unfold G_times_ratio
  have m1 : MulOk r.num s.num := mulOk_r (by omega)
  have m3 : MulOk r.den s.den := mulOk_r (by omega)
  have hz : ((r.den : Int) * (s.den : Int)).natAbs < 2 ^ 200 := by
    rw [den_mul_abs]
    exact Nat.lt_of_lt_of_le (Nat.mul_lt_mul'' h1 h2) (by decide)
  have e := f_ratio (r.num * s.num) (r.den * s.den) st (den_mul_ne r s) hz
  rw [← mul_eq] at e
  simp [encR, m1, m3]
  rw [e]
  simp [encR]
theorem enc_half : encR (Rat.divInt 1 2) = .tup [.int 1, .int 2] := by
  unfold encR
  rw [show (Rat.divInt 1 2).num = 1 from rfl, show (Rat.divInt 1 2).den = 2 from rfl]
  rfl
def mid (r s : Rat) : Rat := (r + s) * Rat.divInt 1 2
theorem f_middle (r s : Rat) (st : Sto) (h1 : r.den < 2 ^ 64) (h2 : s.den < 2 ^ 64) : F_middle_ratio [encR r, encR s] st = some (encR (mid r s), st) := by
  unfold F_middle_ratio
  apply fn_same (ρ := [some (encR r), some (encR s)])
  unfold G_middle_ratio
  have hz : (r + s).den < 2 ^ 130 := by
    rw [add_eq]
    refine Nat.lt_of_le_of_lt (den_divInt_le' _ _ (den_mul_ne r s)) ?_
    rw [den_mul_abs]
    exact Nat.lt_of_lt_of_le (Nat.mul_lt_mul'' h1 h2) (by decide)
  have e := f_times (r + s) (Rat.divInt 1 2) st hz (by decide) (by decide)
  rw [enc_half] at e
  have a := f_add r s st h1 h2
  simp [a, e, mid]
/-! ### moments -/
def encC (c : Int × Int) : D := .tup [.int c.1, .int c.2]
/-- the numbers of a condition are small -/
def SmC (c : Int × Int) : Prop := c.1.natAbs ≤ 99999 ∧ c.2.natAbs ≤ 99999
def holdsZ (c : Int × Int) (m : Rat) : Bool := decide (0 < c.1 * m.den + c.2 * m.num)
theorem f_holds (c : Int × Int) (m : Rat) (st : Sto) (h : SmC c) : F_holds_at [encC c, encR m] st = some (.bl (holdsZ c m), st) := by
  unfold F_holds_at
  apply fn_same (ρ := [some (encC c), some (encR m)])
  unfold G_holds_at
  have m1 : MulOk c.1 m.den := mulOk_l (by have := h.1; omega)
  have m2 : MulOk c.2 m.num := mulOk_l (by have := h.2; omega)
  simp [encC, encR, m1, m2, holdsZ]
structure Sx where
  lo : Rat
  li : Bool
  hi : Rat
  hin : Bool
def encS (s : Sx) : D := .tup [encR s.lo, .bl s.li, encR s.hi, .bl s.hin]
def encO : Option Sx → D
  | none => .non
  | some s => encS s
/-- what a condition leaves of a stretch -/
def nar (s : Sx) (c : Int × Int) : Option Sx :=
  if c.2 = 0 then (if 0 < c.1 then some s else none) else
  if 0 < c.2 then
    if Rat.divInt (-c.1) c.2 < s.lo then (if s.lo < s.hi then some s else none)
    else (if Rat.divInt (-c.1) c.2 < s.hi then some ⟨Rat.divInt (-c.1) c.2, false, s.hi, s.hin⟩ else none)
  else
    if s.hi < Rat.divInt (-c.1) c.2 then (if s.lo < s.hi then some s else none)
    else (if s.lo < Rat.divInt (-c.1) c.2 then some ⟨s.lo, s.li, Rat.divInt (-c.1) c.2, false⟩ else none)
def SmS (s : Sx) : Prop := s.lo.den ≤ 99999 ∧ s.hi.den ≤ 99999
theorem f_narrowed (s : Sx) (c : Int × Int) (st : Sto) (hc : SmC c) (hs : SmS s) : F_narrowed [encS s, encC c] st = some (encO (nar s c), st) := by
  have r0 : c.2 ≠ 0 → F_ratio [.int (-c.1), .int c.2] st = some (encR (Rat.divInt (-c.1) c.2), st) := fun h => f_ratio _ _ st h (by have := hc.2; omega)
  have d1 : c.2 ≠ 0 → (Rat.divInt (-c.1) c.2).den < 2 ^ 64 := fun h => by
    have := den_divInt_le' (-c.1) c.2 h
    have := hc.2
    omega
  have d2 : s.lo.den < 2 ^ 64 := by have := hs.1; omega
  have d3 : s.hi.den < 2 ^ 64 := by have := hs.2; omega
  have r1 := fun h => f_less (Rat.divInt (-c.1) c.2) s.lo st (d1 h) d2
  have r2 := fun h => f_less s.hi (Rat.divInt (-c.1) c.2) st d3 (d1 h)
  have r3 := fun h => f_less (Rat.divInt (-c.1) c.2) s.hi st (d1 h) d3
  have r4 := fun h => f_less s.lo (Rat.divInt (-c.1) c.2) st d2 (d1 h)
  have r5 := f_less s.lo s.hi st d2 d3
  unfold F_narrowed
  by_cases h0 : c.2 = 0
  · by_cases h1 : 0 < c.1
    · apply fn_same (ρ := [some (encS s), some (encC c), some (encR s.lo), some (.bl s.li), some (encR s.hi), some (.bl s.hin), none])
      unfold G_narrowed
      simp [encS, encC, nar, h0, h1, encO]
    · apply fn_same (ρ := [some (encS s), some (encC c), some (encR s.lo), some (.bl s.li), some (encR s.hi), some (.bl s.hin), none])
      unfold G_narrowed
      simp [encS, encC, nar, h0, h1, encO]
  · have r0 := r0 h0
    have r1 := r1 h0
    have r2 := r2 h0
    have r3 := r3 h0
    have r4 := r4 h0
    by_cases h1 : 0 < c.2
    · by_cases h2 : Rat.divInt (-c.1) c.2 < s.lo
      · by_cases h3 : s.lo < s.hi <;>
        (apply fn_same (ρ := [some (encS s), some (encC c), some (encR s.lo), some (.bl s.li), some (encR s.hi), some (.bl s.hin), some (encR (Rat.divInt (-c.1) c.2))])
         unfold G_narrowed
         simp [encS, encC, nar, h0, h1, h2, h3, encO, r0, r1, r2, r3, r4, r5])
      · by_cases h3 : Rat.divInt (-c.1) c.2 < s.hi <;>
        (apply fn_same (ρ := [some (encS s), some (encC c), some (encR (Rat.divInt (-c.1) c.2)), some (.bl false), some (encR s.hi), some (.bl s.hin), some (encR (Rat.divInt (-c.1) c.2))])
         unfold G_narrowed
         simp [encS, encC, nar, h0, h1, h2, h3, encO, r0, r1, r2, r3, r4, r5])
    · by_cases h2 : s.hi < Rat.divInt (-c.1) c.2
      · by_cases h3 : s.lo < s.hi <;>
        (apply fn_same (ρ := [some (encS s), some (encC c), some (encR s.lo), some (.bl s.li), some (encR s.hi), some (.bl s.hin), some (encR (Rat.divInt (-c.1) c.2))])
         unfold G_narrowed
         simp [encS, encC, nar, h0, h1, h2, h3, encO, r0, r1, r2, r3, r4, r5])
      · by_cases h3 : s.lo < Rat.divInt (-c.1) c.2 <;>
        (apply fn_same (ρ := [some (encS s), some (encC c), some (encR s.lo), some (.bl s.li), some (encR (Rat.divInt (-c.1) c.2)), some (.bl false), some (encR (Rat.divInt (-c.1) c.2))])
         unfold G_narrowed
         simp [encS, encC, nar, h0, h1, h2, h3, encO, r0, r1, r2, r3, r4, r5])
end W
end

section
set_option Elab.async false
set_option linter.all false
set_option maxRecDepth 100000
set_option maxHeartbeats 1000000
namespace W
open PySem PySem.Spec PyProof.Rows L2 DL
/-! ### the tape -/
theorem fmod_rng (i : Int) {m : Int} (h : 0 < m) : 0 ≤ i.fmod m ∧ i.fmod m < m := by
  rw [Int.fmod_eq_emod_of_nonneg _ (by omega)]
  exact ⟨Int.emod_nonneg _ (by omega), Int.emod_lt_of_pos _ h⟩
theorem atI_in {α : Type} (xs : List α) {i : Int} (h0 : 0 ≤ i) (h1 : i < xs.length) : atI xs i = some (xs[i.toNat]'(by omega)) := by
  have h := atI_nat' xs i.toNat
  rw [Int.toNat_of_nonneg h0] at h
  rw [h, List.getElem?_eq_getElem]
theorem draw_loop (x0 x1 x2 : Option D) (x5 : Option D) (src : Src) (st : Sto) : ∀ (ds : List D) (c : Int) (x4 : Option D), ∃ c' x4', loopG src (nName 4) (gSet 3 (dBin oFdiv (dVar 3) (dC (.int 1000)))) ds [x0, x1, x2, some (.int c), x4, x5] st = some (.nx, [x0, x1, x2, some (.int c'), x4', x5], st)
  | [], c, x4 => ⟨c, x4, rfl⟩
  | d :: ds, c, x4 => by
    obtain ⟨c', x4', h⟩ := draw_loop x0 x1 x2 x5 src st ds (c.fdiv 1000) (some d)
    exact ⟨c', x4', (loop_nx (ρ1 := [x0, x1, x2, some (.int c), some d, x5]) (ρ2 := [x0, x1, x2, some (.int (c.fdiv 1000)), some d, x5]) (st2 := st) (by simp) (by simp [show DivOk 1000 from divOk (by decide)]) (same_self _ _)).trans h⟩
theorem f_draw (ns : List Int) (j : Nat) (hj : j < 504) (st : Sto) : ∃ v : Int, F_n_law_draw [.fz (ns.map D.int), .int j] st = some (.int v, st) := by
  have key : ∃ (v : Int) (ρ : DEnv), G_n_law_draw (startD 6 [.fz (ns.map D.int), .int j]) st = some (.rt (.int v), ρ, st) := by
    unfold G_n_law_draw
    cases ns with
    | nil => exact ⟨0, _, step_rt (by simp; rfl)⟩
    | cons n0 nr =>
      obtain ⟨ns, hns⟩ : ∃ ns, ns = n0 :: nr := ⟨_, rfl⟩
      have hl : 0 < ns.length := by rw [hns]; exact Nat.succ_pos _
      rw [← hns]
      have he : (ns.map D.int).isEmpty = false := by rw [hns]; rfl
      -- the place
      obtain ⟨m, hm⟩ : ∃ m : Int, m = (if (63 : Int) < (ns.length : Int) then 63 else (ns.length : Int)) := ⟨_, rfl⟩
      have m0 : 0 < m ∧ m ≤ ns.length := by rw [hm]; split <;> omega
      have hp := fmod_rng ((j : Int).fdiv 8) m0.1
      have hat : atI (ns.map D.int) (((j : Int).fdiv 8).fmod m) = some (.int (ns[(((j : Int).fdiv 8).fmod m).toNat]'(by omega))) := by
        rw [atI_in (ns.map D.int) hp.1 (by rw [List.length_map]; omega), List.getElem_map]
      obtain ⟨c0, hc0⟩ : ∃ c0, c0 = ns[(((j : Int).fdiv 8).fmod m).toNat]'(by omega) := ⟨_, rfl⟩
      rw [← hc0] at hat
      have d8 : DivOk 8 := divOk (by decide)
      have mm : (dCB bMin2 (dCons (dCB bLen (dCons (dVar 0) dNil)) (dCons (dC (.int 63)) dNil))) [some (.fz (ns.map D.int)), some (.int j), some (.int ((j : Int).fdiv 8)), none, none, none] st = some (.int m, st) := by simp [hm]
      have mm3 : ∀ c : D, (dCB bMin2 (dCons (dCB bLen (dCons (dVar 0) dNil)) (dCons (dC (.int 63)) dNil))) [some (.fz (ns.map D.int)), some (.int j), some (.int ((j : Int).fdiv 8)), some c, none, none] st = some (.int m, st) := fun c => by simp [hm]
      obtain ⟨c, hc⟩ : ∃ c, c = c0.fmod (10 ^ 40) := ⟨_, rfl⟩
      have cr := fmod_rng c0 (m := 10 ^ 40) (by decide)
      rw [← hc] at cr
      have p40 : (dBin oPow (dC (.int 10)) (dC (.int 40))) [some (.fz (ns.map D.int)), some (.int j), some (.int ((j : Int).fdiv 8)), none, none, none] st = some (.int (10 ^ 40), st) := by simp
      have s3 : (gSet 3 (dBin oMod (dCB bInt (dCons (dBin oIx (dVar 0) (dBin oMod (dVar 2) (dCB bMin2 (dCons (dCB bLen (dCons (dVar 0) dNil)) (dCons (dC (.int 63)) dNil))))) dNil)) (dBin oPow (dC (.int 10)) (dC (.int 40)))))
          [some (.fz (ns.map D.int)), some (.int j), some (.int ((j : Int).fdiv 8)), none, none, none] st = some (.nx, [some (.fz (ns.map D.int)), some (.int j), some (.int ((j : Int).fdiv 8)), some (.int c), none, none], st) := by
        have hm0 : m ≠ 0 := by omega
        simp [← hm, hm0, hat, hc]
      have tst : ∃ b : Bool, (dAndT (dB (dBin oLt (dVar 2) (dCB bMin2 (dCons (dCB bLen (dCons (dVar 0) dNil)) (dCons (dC (.int 63)) dNil))))) (dB (dBin oGe (dVar 3) (dBin oPow (dC (.int 10)) (dC (.int 24))))))
          [some (.fz (ns.map D.int)), some (.int j), some (.int ((j : Int).fdiv 8)), some (.int c), none, none] st = some (b, st) := by
        by_cases h : (j : Int).fdiv 8 < m
        · refine ⟨decide ((10 : Int) ^ 24 ≤ c), ?_⟩
          simp [← hm, h]
        · refine ⟨false, ?_⟩
          simp [← hm, h]
      obtain ⟨tb, htb⟩ := tst
      cases tb with
      | true =>
        obtain ⟨c', x4', hl⟩ := draw_loop (some (.fz (ns.map D.int))) (some (.int j)) (some (.int ((j : Int).fdiv 8))) none (.seq (rngD 0 ((j : Int).fmod 8).toNat)) st (rngD 0 ((j : Int).fmod 8).toNat) c none
        have r8 := fmod_rng (j : Int) (m := 8) (by decide)
        refine ⟨c'.fmod 1000, [some (.fz (ns.map D.int)), some (.int j), some (.int ((j : Int).fdiv 8)), some (.int c'), x4', none], step (ρ1 := _) (st1 := st) (by simp [he] <;> rfl) (step (ρ1 := _) (st1 := st) (by simp [d8] <;> rfl) (step (ρ1 := _) (st1 := st) s3 (step_rt ?_)))⟩
        rw [e_if, htb, Option.bind_some, if_pos rfl]
        refine step (e_for' (src := .seq (rngD 0 ((j : Int).fmod 8).toNat)) (st1 := st) ?_ rfl hl) (by simp)
        have a1 : RngOk ((j : Int).fmod 8) := ⟨by omega, by omega⟩
        simp [a1]
      | false =>
        obtain ⟨x1, hx1⟩ : ∃ x, x = ((c + 7) * (2 * (j : Int) + 5)).fmod 1000003 := ⟨_, rfl⟩
        have b1 := fmod_rng ((c + 7) * (2 * (j : Int) + 5)) (m := 1000003) (by decide)
        rw [← hx1] at b1
        obtain ⟨x2, hx2⟩ : ∃ x, x = (x1 * x1 + 48271 * (j : Int) + c).fmod 998244353 := ⟨_, rfl⟩
        have b2 := fmod_rng (x1 * x1 + 48271 * (j : Int) + c) (m := 998244353) (by decide)
        rw [← hx2] at b2
        obtain ⟨x3, hx3⟩ : ∃ x, x = (x2 * x2 + 69621 * x2 + 13 * (j : Int)).fmod 1000000007 := ⟨_, rfl⟩
        have k1 : DL.MulOk (c + 7) (2 * (j : Int) + 5) := .inr (.inl (by omega))
        have k2 : DL.MulOk 2 (j : Int) := .inl (by decide)
        have k3 : DL.MulOk x1 x1 := .inl (by omega)
        have k4 : DL.MulOk 48271 (j : Int) := .inl (by decide)
        have k5 : DL.MulOk x2 x2 := .inl (by omega)
        have k6 : DL.MulOk 69621 x2 := .inl (by decide)
        have k7 : DL.MulOk 13 (j : Int) := .inl (by decide)
        have d9 : DivOk 1009 := divOk (by decide)
        refine ⟨(x3.fdiv 1009).fmod 1000, [some (.fz (ns.map D.int)), some (.int j), some (.int ((j : Int).fdiv 8)), some (.int c), none, some (.int x3)], step (ρ1 := _) (st1 := st) (by simp [he] <;> rfl) (step (ρ1 := _) (st1 := st) (by simp [d8] <;> rfl) (step (ρ1 := _) (st1 := st) s3 (step (ρ1 := [some (.fz (ns.map D.int)), some (.int j), some (.int ((j : Int).fdiv 8)), some (.int c), none, none]) (st1 := st) ?_ ?_)))⟩
        · rw [e_if, htb, Option.bind_some]
          rfl
        · refine step (ρ1 := [some (.fz (ns.map D.int)), some (.int j), some (.int ((j : Int).fdiv 8)), some (.int c), none, some (.int x1)]) (st1 := st) (by simp [k1, k2, hx1]) ?_
          refine step (ρ1 := [some (.fz (ns.map D.int)), some (.int j), some (.int ((j : Int).fdiv 8)), some (.int c), none, some (.int x2)]) (st1 := st) (by simp [k3, k4, hx2]) ?_
          refine step (ρ1 := [some (.fz (ns.map D.int)), some (.int j), some (.int ((j : Int).fdiv 8)), some (.int c), none, some (.int x3)]) (st1 := st) (by simp [k5, k6, k7, hx3]) ?_
          simp [d9]
  obtain ⟨v, ρ, h⟩ := key
  exact ⟨v, fn_same h⟩

theorem f_tape (ns : List Int) (st : Sto) : ∃ ts : List Int, F_n_law_tape [.fz (ns.map D.int)] st = some (.ref st.length, st ++ [tp ts]) := by
  obtain ⟨vs, st', h1, rfl, h3, h4⟩ := lc_thread (src := .seq (rngD 0 504)) (n := nName 1) (el := dCall F_n_law_draw [] (dCons (dVar 0) (dCons (dVar 1) dNil))) (ρ := [some (.fz (ns.map D.int)), none]) (fun s => s = st) (fun v => ∃ i, v = .int i) (rngD 0 504) st rfl
    (fun d hd s hs => by
      obtain ⟨i, hi, rfl⟩ := mem_rng hd
      subst hs
      obtain ⟨v, hv⟩ := f_draw ns i hi s
      exact ⟨_, .int v, s, rfl, by simp [hv], rfl, rfl, v, rfl⟩)
  have hint : ∀ vs : List D, (∀ v ∈ vs, ∃ i, v = D.int i) → ∃ ts : List Int, vs = ts.map D.int := by
    intro vs
    induction vs with
    | nil => exact fun _ => ⟨[], rfl⟩
    | cons v vs ih =>
      intro h
      obtain ⟨i, hi⟩ := h v List.mem_cons_self
      obtain ⟨ts, ht⟩ := ih fun w hw => h w (List.mem_cons_of_mem _ hw)
      exact ⟨i :: ts, by rw [hi, ht] <;> rfl⟩
  obtain ⟨ts, rfl⟩ := hint vs h4
  refine ⟨ts, ?_⟩
  unfold F_n_law_tape
  refine fn_keep (ρ := [some (.fz (ns.map D.int)), none]) ?_ (by simp [belowD])
  have hlen : (List.map D.int ts).length ≤ 16777216 := by rw [h3, rng_len]; decide
  unfold G_n_law_tape
  simp only [List.length_map] at hlen
  have r5 : RngOk 504 := rngOk (by decide)
  simp [h1, hlen, r5]
theorem f_next (m : Int) (hm : 0 < m) (ts : List Int) (r : Sto) : ∃ (v : Int) (ts' : List Int), F_n_law_next [.ref 0, .int m] (tp ts :: r) = some (.int v, tp ts' :: r) ∧ 0 ≤ v ∧ v < m := by
  cases ts with
  | nil =>
    refine ⟨0, [], ?_, by omega, hm⟩
    unfold F_n_law_next
    exact fn_same' (by unfold G_n_law_next; simp)
  | cons t ts =>
    have h := fmod_rng t hm
    refine ⟨t.fmod m, ts, ?_, h.1, h.2⟩
    unfold F_n_law_next
    refine fn_len (ρ := [some (.ref 0), some (.int m)]) ?_ (by simp)
    have hm0 : m ≠ 0 := by omega
    unfold G_n_law_next
    have e : seqIndex? 0 (ts.length + 1) = some 0 := by unfold seqIndex?; simp
    simp [hm0, e]
theorem f_number (lo hi : Int) (h : lo ≤ hi) (ts : List Int) (r : Sto) : ∃ (v : Int) (ts' : List Int), F_n_law_number [.ref 0, .int lo, .int hi] (tp ts :: r) = some (.int v, tp ts' :: r) ∧ lo ≤ v ∧ v ≤ hi := by
  obtain ⟨v1, ts1, e1, a1, a2⟩ := f_next 1000 (by decide) ts r
  obtain ⟨v2, ts2, e2, b1, b2⟩ := f_next 1000 (by decide) ts1 r
  have hq := fmod_rng (v1 * 1000 + v2) (m := hi - lo + 1) (by omega)
  refine ⟨lo + (v1 * 1000 + v2).fmod (hi - lo + 1), ts2, ?_, by omega, by omega⟩
  unfold F_n_law_number
  refine fn_len (ρ := [some (.ref 0), some (.int lo), some (.int hi), some (.int v1)]) ?_ (by simp)
  have hm0 : hi - lo + 1 ≠ 0 := by omega
  have k1 : DL.MulOk v1 1000 := .inr (.inl (by decide))
  unfold G_n_law_number
  simp [e1, e2, hm0, k1]
theorem f_edge (lo hi : Int) (h : lo ≤ hi) (ts : List Int) (r : Sto) : ∃ (v : Int) (ts' : List Int), F_n_law_edge [.ref 0, .int lo, .int hi] (tp ts :: r) = some (.int v, tp ts' :: r) ∧ lo ≤ v ∧ v ≤ hi := by
  obtain ⟨c, ts1, e1, a1, a2⟩ := f_next 6 (by decide) ts r
  obtain ⟨v, ts2, e2, b1, b2⟩ := f_number lo hi h ts1 r
  obtain ⟨k, hk⟩ : ∃ k : Nat, c = k := ⟨c.toNat, by omega⟩
  subst hk
  obtain ⟨w, hw, hr⟩ : ∃ w : Int, ([D.int lo, D.int hi, D.int v, D.int v, D.int v, D.int v] : List D)[k]? = some (.int w) ∧ lo ≤ w ∧ w ≤ hi := by
    match k, a2 with
    | 0, _ => exact ⟨lo, rfl, by omega, h⟩
    | 1, _ => exact ⟨hi, rfl, h, by omega⟩
    | 2, _ => exact ⟨v, rfl, b1, b2⟩
    | 3, _ => exact ⟨v, rfl, b1, b2⟩
    | 4, _ => exact ⟨v, rfl, b1, b2⟩
    | 5, _ => exact ⟨v, rfl, b1, b2⟩
    | k + 6, hk => omega
  refine ⟨w, ts2, ?_, hr⟩
  unfold F_n_law_edge
  refine fn_tape (gr := [.lst [.int lo, .int hi, .int v, .int v, .int v, .int v]]) (ρ := [some (.ref 0), some (.int lo), some (.int hi), some (.int k), some (.int v)]) ?_ (by simp [belowD])
  unfold G_n_law_edge
  simp [e1, e2, atI_nat', hw]
end W
end

section
set_option Elab.async false
set_option linter.all false
set_option maxRecDepth 100000
set_option maxHeartbeats 1000000
namespace W
open PySem PySem.Spec PyProof.Rows L2 DL
/-! ### a value is the same as itself -/
theorem same_refl (l : Nat) : ∀ (d : D) (st : Sto), okD l d = true → F_n_law_same l [d, d] st = some (.bl true, st) := by
  induction l with
  | zero => intro d st h; simp [okD] at h
  | succ l ihl =>
    intro d st h
    show fnG 3 (G_n_law_same (F_n_law_same l)) [d, d] st = _
    cases d with
    | non => exact fn_same' (by unfold G_n_law_same; simp)
    | bl b => exact fn_same' (by unfold G_n_law_same; simp)
    | int i => exact fn_same' (by unfold G_n_law_same; simp)
    | str x => exact fn_same' (by unfold G_n_law_same; simp)
    | ref n => simp [okD] at h
    | fz xs => simp [okD] at h
    | tup xs =>
      simp only [okD, Bool.and_eq_true, decide_eq_true_eq, List.all_eq_true] at h
      obtain ⟨x, ρ', e, hx⟩ := loop_keep (src := .seq (rngD 0 xs.length)) (i := 2) (g := gIf (dNotT (dTr (dCall (F_n_law_same l) [] (dCons (dBin oIx (dVar 0) (dVar 2)) (dCons (dBin oIx (dVar 1) (dVar 2)) dNil))))) (gRet (dC (.bl false))) gNext) (st := st)
        (rngD 0 xs.length) [some (.tup xs), some (.tup xs), none] (by simp) fun d hd => by
          obtain ⟨i, hi, rfl⟩ := mem_rng hd
          have e : xs[i]? = some xs[i] := List.getElem?_eq_getElem hi
          have ih := ihl xs[i] st (h.2 _ (List.getElem_mem hi))
          simp [atI_nat', e, ih]
      have h1 := rng_ok (n := xs.length) (by omega)
      apply fn_same'
      unfold G_n_law_same
      simp at e
      subst e
      simp [h1, hx]
end W
end

section
set_option Elab.async false
set_option linter.all false
set_option maxRecDepth 100000
set_option maxHeartbeats 1000000
namespace W
open PySem PySem.Spec PyProof.Rows L2 DL
/-! ### fractions in lowest terms, by the law's own steps -/
theorem euclid_for (x0 x1 : Option D) (src : Src) (st : Sto) : ∀ (k : Nat) (ds : List D) (a b : Nat) (x4 : Option D), b < 2 ^ k → 2 * k + 1 ≤ ds.length →
    ∃ y4, loopG src (nName 4) (gSeq (gIf (dB (dBin oEq (dVar 3) (dC (.int 0)))) gBrk gNext) (gPar 2 3 (dCons (dVar 3) (dCons (dBin oMod (dCB bInt (dCons (dVar 2) dNil)) (dVar 3)) dNil)))) ds [x0, x1, some (.int a), some (.int b), x4] st =
      some (.nx, [x0, x1, some (.int (Nat.gcd a b : Nat)), some (.int 0), y4], st) := by
  have stop : ∀ (d : D) (ds : List D) (a : Nat) (x4 : Option D), loopG src (nName 4) (gSeq (gIf (dB (dBin oEq (dVar 3) (dC (.int 0)))) gBrk gNext) (gPar 2 3 (dCons (dVar 3) (dCons (dBin oMod (dCB bInt (dCons (dVar 2) dNil)) (dVar 3)) dNil)))) (d :: ds) [x0, x1, some (.int a), some (.int (0 : Nat)), x4] st =
      some (.nx, [x0, x1, some (.int (Nat.gcd a 0 : Nat)), some (.int 0), some d], st) := fun d ds a x4 => by
    refine loop_bk (ρ1 := [x0, x1, some (.int a), some (.int (0 : Nat)), some d]) (by simp) (by simp)
  have turn : ∀ (d : D) (ds : List D) (a b : Nat) (x4 : Option D), b ≠ 0 → loopG src (nName 4) (gSeq (gIf (dB (dBin oEq (dVar 3) (dC (.int 0)))) gBrk gNext) (gPar 2 3 (dCons (dVar 3) (dCons (dBin oMod (dCB bInt (dCons (dVar 2) dNil)) (dVar 3)) dNil)))) (d :: ds) [x0, x1, some (.int a), some (.int b), x4] st =
      loopG src (nName 4) (gSeq (gIf (dB (dBin oEq (dVar 3) (dC (.int 0)))) gBrk gNext) (gPar 2 3 (dCons (dVar 3) (dCons (dBin oMod (dCB bInt (dCons (dVar 2) dNil)) (dVar 3)) dNil)))) ds [x0, x1, some (.int b), some (.int (a % b : Nat)), some d] st := fun d ds a b x4 hb => by
    have hb' : ((b : Nat) : Int) ≠ 0 := by omega
    have e1 : Int.fmod (a : Int) (b : Int) = (a : Int) % (b : Int) := Int.fmod_eq_emod_of_nonneg _ (by omega)
    refine loop_nx (ρ1 := [x0, x1, some (.int a), some (.int b), some d]) (by simp) (by simp [hb, e1]) (same_self _ _)
  intro k
  induction k with
  | zero =>
    intro ds a b x4 hb hl
    have hb0 : b = 0 := by omega
    subst hb0
    cases ds with
    | nil => simp at hl
    | cons d ds => exact ⟨some d, stop d ds a x4⟩
  | succ k ih =>
    intro ds a b x4 hb hl
    by_cases h0 : b = 0
    · subst h0
      cases ds with
      | nil => simp at hl
      | cons d ds => exact ⟨some d, stop d ds a x4⟩
    · have hg : Nat.gcd b (a % b) = Nat.gcd a b := by rw [Nat.gcd_comm, ← Nat.gcd_rec, Nat.gcd_comm]
      have hr := Nat.mod_lt a (Nat.pos_of_ne_zero h0)
      match ds, hl with
      | [], hl => simp at hl
      | [_], hl => simp at hl
      | d :: d2 :: ds, hl =>
        rw [turn d (d2 :: ds) a b x4 h0]
        by_cases h1 : a % b = 0
        · rw [h1, stop d2 ds b (some d)]
          rw [h1] at hg
          exact ⟨some d2, by rw [hg]⟩
        · rw [turn d2 ds b (a % b) (some d) h1]
          have hg2 : Nat.gcd (a % b) (b % (a % b)) = Nat.gcd b (a % b) := by rw [Nat.gcd_comm, ← Nat.gcd_rec, Nat.gcd_comm]
          have hlt : b % (a % b) < 2 ^ k := by
            have h2 := Nat.mod_lt b (Nat.pos_of_ne_zero h1)
            have h3 : 2 * (b % (a % b)) < b := by
              by_cases hc : 2 * (a % b) ≤ b
              · omega
              · have : b % (a % b) = b - a % b := by
                  rw [Nat.mod_eq_sub_mod (by omega), Nat.mod_eq_of_lt (by omega)]
                omega
            have h4 : (2 : Nat) ^ (k + 1) = 2 * 2 ^ k := by rw [Nat.pow_succ, Nat.mul_comm]
            omega
          obtain ⟨y, hy⟩ := ih ds (a % b) (b % (a % b)) (some d2) hlt (by simp only [List.length_cons] at hl; omega)
          exact ⟨y, by rw [hy, hg2, hg]⟩
theorem f_lowest (a b : Int) (st : Sto) (hb : b ≠ 0) (hz : b.natAbs < 2 ^ 99) : F_n_law_lowest [.int a, .int b] st = some (encR (Rat.divInt a b), st) := by
  obtain ⟨k, l, h1, h2, h3, h4, h5⟩ := divInt_of a b hb
  have hle : (Int.gcd a b) ≤ b.natAbs := Nat.le_of_dvd (by omega) (Int.natAbs_dvd_natAbs.mpr (Int.gcd_dvd_right (a := a) (b := b)))
  have dk : DivOk ((Int.gcd a b : Nat) : Int) := ⟨by omega, by omega⟩
  have core : ∀ (a' b' : Int), 0 < b' → b'.natAbs = b.natAbs → a'.natAbs = a.natAbs → ∃ y4, loopG (.seq (rngD 0 200)) (nName 4) (gSeq (gIf (dB (dBin oEq (dVar 3) (dC (.int 0)))) gBrk gNext) (gPar 2 3 (dCons (dVar 3) (dCons (dBin oMod (dCB bInt (dCons (dVar 2) dNil)) (dVar 3)) dNil))))
      (rngD 0 200) [some (.int a'), some (.int b'), some (.int (a'.natAbs : Nat)), some (.int b'), none] st = some (.nx, [some (.int a'), some (.int b'), some (.int (Int.gcd a b : Nat)), some (.int 0), y4], st) := fun a' b' p1 p2 p3 => by
    obtain ⟨y, hy⟩ := euclid_for (some (.int a')) (some (.int b')) (.seq (rngD 0 200)) st 99 (rngD 0 200) a'.natAbs b'.natAbs none (by rw [p2]; exact hz) (by rw [rng_len]; decide)
    refine ⟨y, ?_⟩
    have e : ((b'.natAbs : Nat) : Int) = b' := by omega
    rw [e, p2, p3] at hy
    rw [p3]
    exact hy
  unfold F_n_law_lowest encR
  rw [h4, h5]
  apply fn_same'
  unfold G_n_law_lowest
  by_cases hn : b < 0
  · have hs : b.sign = -1 := Int.sign_eq_neg_one_of_neg hn
    obtain ⟨y, hy⟩ := core (0 - a) (0 - b) (by omega) (by omega) (by omega)
    have e1 : (0 - a).fdiv ((Int.gcd a b : Nat) : Int) = b.sign * k := fdiv_of (by omega) (by rw [hs, Int.neg_one_mul, Int.mul_neg, ← h1]; omega)
    have e2 : (0 - b).fdiv ((Int.gcd a b : Nat) : Int) = b.sign * l := fdiv_of (by omega) (by rw [hs, Int.neg_one_mul, Int.mul_neg, ← h2]; omega)
    have z1 : (0 : Int) - a = -a := by omega
    have z2 : (0 : Int) - b = -b := by omega
    rw [z1, z2] at hy
    rw [z1] at e1
    rw [z2] at e2
    have r2 : RngOk 200 := rngOk (by decide)
    simp [hn, r2] at hy ⊢
    rw [hy]
    simp [dk, e1, e2]
  · have hs : b.sign = 1 := Int.sign_eq_one_of_pos (by omega)
    obtain ⟨y, hy⟩ := core a b (by omega) rfl rfl
    have e1 : a.fdiv ((Int.gcd a b : Nat) : Int) = b.sign * k := fdiv_of (by omega) (by rw [hs, Int.one_mul]; exact h1)
    have e2 : b.fdiv ((Int.gcd a b : Nat) : Int) = b.sign * l := fdiv_of (by omega) (by rw [hs, Int.one_mul]; exact h2)
    have r2 : RngOk 200 := rngOk (by decide)
    simp [hn, r2] at hy ⊢
    rw [hy]
    simp [dk, e1, e2]
theorem mid_eq (r s : Rat) : mid r s = Rat.divInt (r.num * s.den + s.num * r.den) (2 * r.den * s.den) := by
  unfold mid
  rw [add_eq, Rat.divInt_mul_divInt, Int.mul_one]
  rw [show ((r.den : Int) * (s.den : Int)) * 2 = 2 * (r.den : Int) * (s.den : Int) by rw [Int.mul_comm, Int.mul_assoc]]
theorem f_between (r s : Rat) (st : Sto) (h1 : r.den < 2 ^ 40) (h2 : s.den < 2 ^ 40) : F_n_law_between [encR r, encR s] st = some (encR (mid r s), st) := by
  have m1 : DL.MulOk r.num s.den := mulOk_r (by omega)
  have m2 : DL.MulOk s.num r.den := mulOk_r (by omega)
  have m3 : DL.MulOk 2 r.den := mulOk_l (by decide)
  have m4 : DL.MulOk (2 * (r.den : Int)) s.den := mulOk_r (by omega)
  have hne : 2 * (r.den : Int) * (s.den : Int) ≠ 0 := by
    rw [Int.mul_assoc]
    have := den_mul_ne r s
    omega
  have hz : (2 * (r.den : Int) * (s.den : Int)).natAbs < 2 ^ 99 := by
    rw [Int.mul_assoc, Int.natAbs_mul, den_mul_abs]
    have := Nat.mul_lt_mul'' h1 h2
    have e : (2 : Int).natAbs = 2 := rfl
    rw [e]
    have e2 : (2 : Nat) ^ 40 * 2 ^ 40 = 2 ^ 80 := by decide
    have e3 : (2 : Nat) * 2 ^ 80 < 2 ^ 99 := by decide
    omega
  have e := f_lowest (r.num * s.den + s.num * r.den) (2 * r.den * s.den) st hne hz
  rw [← mid_eq] at e
  unfold F_n_law_between
  apply fn_same'
  unfold G_n_law_between
  simp [encR, m1, m2, m3, m4]
  rw [e]
  simp [encR]
end W
end

section
set_option Elab.async false
set_option linter.all false
set_option maxRecDepth 100000
set_option maxHeartbeats 1000000
namespace W
open PySem PySem.Spec PyProof.Rows L2 DL
/-! ### which conditions hold -/
def cnum (m : Rat) : D → Bool
  | .tup [.int p, .int q] => decide (p * m.den + q * m.num ≤ 0)
  | _ => false
theorem any_cnum (m : Rat) : ∀ cs : List (Int × Int), (cs.map encC).any (cnum m) = !(cs.all fun c => holdsZ c m)
  | [] => rfl
  | c :: cs => by
    rw [List.map_cons, List.any_cons, any_cnum m cs, List.all_cons, Bool.not_and]
    have : cnum m (encC c) = !holdsZ c m := by
      show decide (c.1 * m.den + c.2 * m.num ≤ 0) = !decide (0 < c.1 * m.den + c.2 * m.num)
      rw [← decide_not]
      exact decide_eq_decide.mpr (by omega)
    rw [this]
theorem f_all_hold (cs : List (Int × Int)) (m : Rat) (n : Nat) (st : Sto) (hn : st[n]? = some (.lst (cs.map encC))) (hs : ∀ c ∈ cs, SmC c) : F_n_law_all_hold [.ref n, encR m] st = some (.bl (cs.all fun c => holdsZ c m), st) := by
  have hlt : n < st.length := (List.getElem?_eq_some_iff.mp hn).1
  obtain ⟨x, ρ', e, hx⟩ := loop_find (src := .cell n) (i := 2) (g := gIf (dB (dBin oLe (dBin oAdd (dBin oMul (dBin oIx (dVar 2) (dC (.int 0))) (dBin oIx (dVar 1) (dC (.int 1)))) (dBin oMul (dBin oIx (dVar 2) (dC (.int 1))) (dBin oIx (dVar 1) (dC (.int 0))))) (dC (.int 0)))) (gRet (dC (.bl false))) gNext)
    (st := st) (cnum m) (.bl false) (cs.map encC) [some (.ref n), some (encR m), none] (by simp) fun d hd => by
      obtain ⟨c, hc, rfl⟩ := List.mem_map.mp hd
      have h := hs c hc
      have m1 : DL.MulOk c.1 m.den := mulOk_l (by have := h.1; omega)
      have m2 : DL.MulOk c.2 m.num := mulOk_l (by have := h.2; omega)
      by_cases hh : c.1 * m.den + c.2 * m.num ≤ 0
      · have e1 : cnum m (encC c) = true := decide_eq_true hh
        rw [if_pos e1]
        simp [encC, encR, m1, m2, hh]
      · have e1 : cnum m (encC c) = false := decide_eq_false hh
        rw [e1, if_neg Bool.false_ne_true]
        simp [encC, encR, m1, m2, hh]
  simp at e
  subst e
  rw [any_cnum] at hx
  unfold F_n_law_all_hold G_n_law_all_hold
  cases ha : cs.all (fun c => holdsZ c m) with
  | true =>
    rw [ha] at hx
    exact fn_same (step (for_cell rfl hn hx) rfl)
  | false =>
    rw [ha] at hx
    exact fn_same (step_rt (for_cell rfl hn hx))
/-! ### the points -/
def turnP (c : Int × Int) : Rat := Rat.divInt (-c.1) c.2
def addPt (f : List Rat) (c : Int × Int) : List Rat := if c.2 ≠ 0 ∧ 0 < turnP c ∧ turnP c < 1 ∧ turnP c ∉ f then f ++ [turnP c] else f
theorem enc0 : encR 0 = .tup [.int 0, .int 1] := rfl
theorem enc1 : encR 1 = .tup [.int 1, .int 1] := rfl
theorem encR_eqv (r s : Rat) : PyData.eqv (pyD (encR r)) (pyD (encR s)) = decide (r = s) := by
  simp only [encR, pyD, pyDs, PyData.eqv, PyData.eqvAll, Bool.and_true]
  rw [Bool.eq_iff_iff]
  simp only [Bool.and_eq_true, beq_iff_eq, decide_eq_true_eq]
  exact ⟨fun h => Rat.ext h.1 (by omega), fun h => by rw [h]; exact ⟨rfl, rfl⟩⟩
theorem encR_shaped (r : Rat) : SeqAt.shaped (pyD (encR r)) = true := by
  simp [SeqAt.shaped, encR, pyD, pyDs, PyData.canLay0, PyData.canLayAll0, PyData.depth, PyData.depthAll]
theorem encRs_lay : ∀ rs : List Rat, PyData.canLayAll0 (pyDs (rs.map encR)) = true ∧ PyData.depthAll (pyDs (rs.map encR)) ≤ 8
  | [] => by simp [pyDs, PyData.canLayAll0, PyData.depthAll]
  | r :: rs => by
    obtain ⟨h1, h2⟩ := encRs_lay rs
    simp [encR, pyDs, pyD, PyData.canLayAll0, PyData.canLay0, PyData.depthAll, PyData.depth]
    exact ⟨h1, Nat.max_le.mpr ⟨by decide, h2⟩⟩
theorem encRs_shaped (rs : List Rat) : SeqAt.shaped (.list (pyDs (rs.map encR))) = true := by
  obtain ⟨h1, h2⟩ := encRs_lay rs
  simp only [SeqAt.shaped, PyData.canLay0, PyData.depth, h1, Bool.true_and, decide_eq_true_eq]
  exact decide_eq_true (Nat.le_trans (Nat.succ_le_succ h2) (by decide : 8 + 1 ≤ 64))
theorem in_encR (st : Sto) (n : Nat) (r : Rat) (rs : List Rat) (h : st[n]? = some (.lst (rs.map encR))) : oNotIn (encR r) (.ref n) st = some (.bl (decide (r ∉ rs)), st) := by
  have e1 : inB st (encR r) (.ref n) = some (decide (r ∈ rs)) := by
    unfold inB
    simp only [seq_ref, h, Option.bind_some]
    rw [if_neg (by simp [encR, flatD]), if_pos ⟨rfl, encR_shaped r, encRs_shaped rs⟩]
    congr 1
    rw [Bool.eq_iff_iff]
    simp only [List.any_eq_true, List.mem_map, decide_eq_true_eq]
    constructor
    · rintro ⟨x, ⟨s, hs, rfl⟩, e⟩
      rw [encR_eqv, decide_eq_true_eq] at e
      exact e ▸ hs
    · intro hr
      exact ⟨encR r, ⟨r, hr, rfl⟩, by rw [encR_eqv]; simp⟩
  unfold oNotIn
  rw [e1, Option.map_some]
  congr 3
  simp
theorem num_pos (r : Rat) : (0 < r.num) ↔ 0 < r := by
  rw [Rat.lt_iff]
  simp
theorem num_lt (r : Rat) : (r.num < (r.den : Int)) ↔ r < 1 := by
  rw [Rat.lt_iff]
  simp
noncomputable abbrev ptBody : DG := (gIf (dB (dBin oNe (dVar 3) (dC (.int 0)))) (gSeq (gSet 4 (dCall F_n_law_lowest [] (dCons (dBin oSub (dC (.int 0)) (dVar 2)) (dCons (dVar 3) dNil))))
    (gIf (dAndT (dB (dChain oLt oLt (dC (.int 0)) (dBin oIx (dVar 4) (dC (.int 0))) (dBin oIx (dVar 4) (dC (.int 1))))) (dB (dBin oNotIn (dVar 4) (dVar 1)))) (gDrop (dMeth oApp (dVar 1) (dCons (dVar 4) dNil))) gNext)) gNext)
theorem found_loop (x0 : Option D) (n : Nat) (st : Sto) (hn : n < st.length) (z5 z6 z7 : Option D) : ∀ (cs : List (Int × Int)) (f : List Rat) (y2 y3 y4 : Option D), (∀ c ∈ cs, SmC c) → f.length + cs.length ≤ 1000 →
    ∃ y2' y3' y4', loopG (.cell n) (nTup 2 (nCons (nName 2) (nCons (nName 3) nNil))) ptBody (cs.map encC) [x0, some (.ref st.length), y2, y3, y4, z5, z6, z7] (st ++ [.lst (f.map encR)]) =
      some (.nx, [x0, some (.ref st.length), y2', y3', y4', z5, z6, z7], st ++ [.lst ((cs.foldl addPt f).map encR)])
  | [], f, y2, y3, y4, _, _ => ⟨y2, y3, y4, rfl⟩
  | c :: cs, f, y2, y3, y4, hs, hl => by
    have hc := hs c List.mem_cons_self
    have hs' : ∀ c ∈ cs, SmC c := fun c hc => hs c (List.mem_cons_of_mem _ hc)
    simp only [List.length_cons] at hl
    have same : ∀ c' : Cell, sameSrc (.cell n) (st ++ [.lst (f.map encR)]) (st ++ [c']) = true := fun c' => same_cell (by
      rw [List.getElem?_append_left hn, List.getElem?_append_left hn])
    have bind : (nTup 2 (nCons (nName 2) (nCons (nName 3) nNil))) (encC c) [x0, some (.ref st.length), y2, y3, y4, z5, z6, z7] = some [x0, some (.ref st.length), some (.int c.1), some (.int c.2), y4, z5, z6, z7] := by simp [encC]
    have hget : (st ++ [Cell.lst (f.map encR)])[st.length]? = some (.lst (f.map encR)) := by simp
    by_cases h0 : c.2 = 0
    · have ha : addPt f c = f := by unfold addPt; rw [if_neg fun z => z.1 h0]
      have hb : ptBody [x0, some (.ref st.length), some (.int c.1), some (.int c.2), y4, z5, z6, z7] (st ++ [.lst (f.map encR)]) = some (.nx, [x0, some (.ref st.length), some (.int c.1), some (.int c.2), y4, z5, z6, z7], st ++ [.lst (f.map encR)]) := by
        simp [ptBody, h0]
      obtain ⟨a, b, d, h⟩ := found_loop x0 n st hn z5 z6 z7 cs f (some (.int c.1)) (some (.int c.2)) y4 hs' (by omega)
      refine ⟨a, b, d, ?_⟩
      rw [List.map_cons, loop_nx bind hb (same _), h, List.foldl_cons, ha]
    · have low := f_lowest (-c.1) c.2 (st ++ [.lst (f.map encR)]) h0 (by have := hc.2; omega)
      have nin := in_encR (st ++ [.lst (f.map encR)]) st.length (turnP c) f hget
      by_cases hin : 0 < turnP c ∧ turnP c < 1 ∧ turnP c ∉ f
      · have ha : addPt f c = f ++ [turnP c] := by unfold addPt; rw [if_pos ⟨h0, hin⟩]
        have p1 := (num_pos (turnP c)).mpr hin.1
        have p2 := (num_lt (turnP c)).mpr hin.2.1
        have hb : ptBody [x0, some (.ref st.length), some (.int c.1), some (.int c.2), y4, z5, z6, z7] (st ++ [.lst (f.map encR)]) =
            some (.nx, [x0, some (.ref st.length), some (.int c.1), some (.int c.2), some (encR (turnP c)), z5, z6, z7], st ++ [.lst ((f ++ [turnP c]).map encR)]) := by
          have e5 : (Rat.divInt (-c.1) c.2) = turnP c := rfl
          have hlen : f.length < 16777216 := by omega
          rw [e5] at low
          have i0 : oIx (encR (turnP c)) (.int 0) (st ++ [.lst (f.map encR)]) = some (.int (turnP c).num, st ++ [.lst (f.map encR)]) := by simp [encR]
          have i1 : oIx (encR (turnP c)) (.int 1) (st ++ [.lst (f.map encR)]) = some (.int (turnP c).den, st ++ [.lst (f.map encR)]) := by simp [encR]
          simp [ptBody, h0, low, i0, i1, p1, p2, nin, hin.2.2, hlen, set_end]
        obtain ⟨a, b, d, h⟩ := found_loop x0 n st hn z5 z6 z7 cs (f ++ [turnP c]) (some (.int c.1)) (some (.int c.2)) (some (encR (turnP c))) hs' (by simp; omega)
        refine ⟨a, b, d, ?_⟩
        rw [List.map_cons, loop_nx bind hb (same _), h, List.foldl_cons, ha]
      · have ha : addPt f c = f := by unfold addPt; rw [if_neg fun z => hin z.2]
        have hb : ptBody [x0, some (.ref st.length), some (.int c.1), some (.int c.2), y4, z5, z6, z7] (st ++ [.lst (f.map encR)]) =
            some (.nx, [x0, some (.ref st.length), some (.int c.1), some (.int c.2), some (encR (turnP c)), z5, z6, z7], st ++ [.lst (f.map encR)]) := by
          have e5 : (Rat.divInt (-c.1) c.2) = turnP c := rfl
          rw [e5] at low
          have i0 : oIx (encR (turnP c)) (.int 0) (st ++ [.lst (f.map encR)]) = some (.int (turnP c).num, st ++ [.lst (f.map encR)]) := by simp [encR]
          have i1 : oIx (encR (turnP c)) (.int 1) (st ++ [.lst (f.map encR)]) = some (.int (turnP c).den, st ++ [.lst (f.map encR)]) := by simp [encR]
          by_cases p1 : 0 < (turnP c).num
          · by_cases p2 : (turnP c).num < ((turnP c).den : Int)
            · have hm : turnP c ∈ f := by
                have := hin
                rw [← num_pos, ← num_lt] at this
                simpa [p1, p2] using this
              simp [ptBody, h0, low, i0, i1, p1, p2, nin, hm]
            · simp [ptBody, h0, low, i0, i1, p1, p2]
          · simp [ptBody, h0, low, i0, i1, p1]
        obtain ⟨a, b, d, h⟩ := found_loop x0 n st hn z5 z6 z7 cs f (some (.int c.1)) (some (.int c.2)) (some (encR (turnP c))) hs' (by omega)
        refine ⟨a, b, d, ?_⟩
        rw [List.map_cons, loop_nx bind hb (same _), h, List.foldl_cons, ha]

theorem addPt_len (f : List Rat) (c : Int × Int) : (addPt f c).length ≤ f.length + 1 := by
  unfold addPt
  split
  · simp
  · omega
theorem found_len : ∀ (cs : List (Int × Int)) (f : List Rat), (cs.foldl addPt f).length ≤ f.length + cs.length
  | [], f => Nat.le_refl _
  | c :: cs, f => by
    have h1 := found_len cs (addPt f c)
    have h2 := addPt_len f c
    rw [List.foldl_cons, List.length_cons]
    omega
/-- a point put in its place -/
def ins (o : List Rat) (x : Rat) : List Rat := o.take (o.filter fun y => decide (y < x)).length ++ [x] ++ o.drop (o.filter fun y => decide (y < x)).length
theorem ins_len (o : List Rat) (x : Rat) : (ins o x).length = o.length + 1 := by
  unfold ins
  have := List.length_filter_le (fun y => decide (y < x)) o
  simp only [List.length_append, List.length_take, List.length_drop, List.length_singleton]
  omega
noncomputable abbrev insBody : DG := (gSeq (gSet 6 (dOf oLenN (lLc (srcOf (dVar 5)) (nName 7) (dB (dBin oLt (dBin oMul (dBin oIx (dVar 7) (dC (.int 0))) (dBin oIx (dVar 4) (dC (.int 1)))) (dBin oMul (dBin oIx (dVar 4) (dC (.int 0))) (dBin oIx (dVar 7) (dC (.int 1)))))) (dVar 7) [7])))
    (gSet 5 (dBin oAdd (dBin oAdd (dSl (dVar 5) oNo (oPart (dVar 6))) (dLst (dCons (dVar 4) dNil))) (dSl (dVar 5) (oPart (dVar 6)) oNo))))
theorem ins_turn (x0 x1 x2 x3 y6 y7 : Option D) (k : Nat) (S : Sto) (o : List Rat) (x : Rat) (hk : S[k]? = some (.lst (o.map encR))) (hx : x.den ≤ 99999) (ho : ∀ y ∈ o, y.den ≤ 99999) (hl : o.length ≤ 1000) :
    ∃ T k' y6', insBody [x0, x1, x2, x3, some (encR x), some (.ref k), y6, y7] S = some (.nx, [x0, x1, x2, x3, some (encR x), some (.ref k'), y6', y7], S ++ T) ∧ (S ++ T)[k']? = some (.lst ((ins o x).map encR)) ∧ S.length ≤ k' := by
  obtain ⟨a, ha⟩ : ∃ a : Nat, a = (o.filter fun y => decide (y < x)).length := ⟨_, rfl⟩
  have hal : a ≤ o.length := by rw [ha]; exact List.length_filter_le _ _
  have lc := lc_filter (src := .cell k) (n := nName 7) (tt := (dB (dBin oLt (dBin oMul (dBin oIx (dVar 7) (dC (.int 0))) (dBin oIx (dVar 4) (dC (.int 1)))) (dBin oMul (dBin oIx (dVar 4) (dC (.int 0))) (dBin oIx (dVar 7) (dC (.int 1))))))) (el := dVar 7)
    (ρ := [x0, x1, x2, x3, some (encR x), some (.ref k), y6, none]) (st := S) (fun d => match d with | .tup [.int p, .int q] => decide (p * x.den < x.num * q) | _ => false) id (o.map encR) (fun d hd => by
      obtain ⟨y, hy, rfl⟩ := List.mem_map.mp hd
      have m1 : DL.MulOk y.num x.den := mulOk_r (by omega)
      have m2 : DL.MulOk x.num y.den := mulOk_r (by have := ho y hy; omega)
      refine ⟨[x0, x1, x2, x3, some (encR x), some (.ref k), y6, some (encR y)], by simp, ?_, fun _ => by simp⟩
      simp [encR, m1, m2])
  have lcl : ∀ o : List Rat, (((o.map encR).filter fun d => match d with | .tup [.int p, .int q] => decide (p * x.den < x.num * q) | _ => false).map id).length = (o.filter fun y => decide (y < x)).length := by
    intro o
    induction o with
    | nil => rfl
    | cons y o ih =>
      have e : (match encR y with | .tup [.int p, .int q] => decide (p * x.den < x.num * q) | _ => false) = decide (y < x) := by
        show decide (y.num * x.den < x.num * y.den) = decide (y < x)
        exact decide_eq_decide.mpr (Rat.lt_iff y x).symm
      rw [List.map_cons, List.filter_cons, List.filter_cons, e]
      cases decide (y < x) with
      | true => simpa using ih
      | false => simpa using ih
  have s1 : (gSet 6 (dOf oLenN (lLc (srcOf (dVar 5)) (nName 7) (dB (dBin oLt (dBin oMul (dBin oIx (dVar 7) (dC (.int 0))) (dBin oIx (dVar 4) (dC (.int 1)))) (dBin oMul (dBin oIx (dVar 4) (dC (.int 0))) (dBin oIx (dVar 7) (dC (.int 1)))))) (dVar 7) [7])))
      [x0, x1, x2, x3, some (encR x), some (.ref k), y6, y7] S = some (.nx, [x0, x1, x2, x3, some (encR x), some (.ref k), some (.int a), y7], S) := by
    have ll := lcl o
    rw [← ha] at ll
    have hz : (((o.map encR).filter fun d => match d with | .tup [.int p, .int q] => decide (p * x.den < x.num * q) | _ => false).map id).length ≤ 16777216 := by rw [ll]; omega
    rw [e_set, e_dOf, e_lc, src_cell (xs := o.map encR) rfl hk, Option.bind_some, items_cell hk, Option.bind_some]
    simp only [e_wipe_cons, e_wipe_nil, List.set_cons_succ, List.set_cons_zero]
    rw [lc, Option.bind_some, if_pos hz, Option.bind_some, e_lenN, ll]
    rfl
  refine ⟨[.lst ((o.map encR).take a), .lst [encR x], .lst ((o.map encR).take a ++ [encR x]), .lst ((o.map encR).drop a), .lst ((o.map encR).take a ++ [encR x] ++ (o.map encR).drop a)], S.length + 4, some (.int a), step s1 ?_, ?_, Nat.le_add_right _ _⟩
  · have hk' := get_app hk
    have z1 : min a o.length + 1 ≤ 16777216 := by omega
    have z2 : min a o.length + 1 + (o.length - a) ≤ 16777216 := by omega
    simp [hk, hk', cut_to, cut_from, z1, z2]
  · rw [get_at]
    show some (Cell.lst ((o.map encR).take a ++ [encR x] ++ (o.map encR).drop a)) = some (.lst ((ins o x).map encR))
    unfold ins
    rw [← ha, List.map_append, List.map_append, List.map_take, List.map_drop]
    rfl
theorem ins_loop (x0 x1 x2 x3 : Option D) (L : Nat) (y7 : Option D) : ∀ (xs o : List Rat) (k : Nat) (S : Sto) (y4 y6 : Option D), S[k]? = some (.lst (o.map encR)) → (∀ y ∈ xs, y.den ≤ 99999) → (∀ y ∈ o, y.den ≤ 99999) → o.length + xs.length ≤ 1000 → L < S.length → L ≤ k →
    ∃ T k' y4' y6', loopG (.cell L) (nName 4) insBody (xs.map encR) [x0, x1, x2, x3, y4, some (.ref k), y6, y7] S = some (.nx, [x0, x1, x2, x3, y4', some (.ref k'), y6', y7], S ++ T) ∧ (S ++ T)[k']? = some (.lst ((xs.foldl ins o).map encR)) ∧ L ≤ k'
  | [], o, k, S, y4, y6, hk, _, _, _, _, hLk => ⟨[], k, y4, y6, by simp, by simpa using hk, hLk⟩
  | x :: xs, o, k, S, y4, y6, hk, hx, ho, hl, hL, hLk => by
    simp only [List.length_cons] at hl
    obtain ⟨T, k1, y6', h1, h2, hk1⟩ := ins_turn x0 x1 x2 x3 y6 y7 k S o x hk (hx x List.mem_cons_self) ho (by omega)
    have ho' : ∀ y ∈ ins o x, y.den ≤ 99999 := fun y hy => by
      unfold ins at hy
      rcases List.mem_append.mp hy with hy | hy
      · rcases List.mem_append.mp hy with hy | hy
        · exact ho y (List.mem_of_mem_take hy)
        · rw [List.mem_singleton.mp hy]; exact hx x List.mem_cons_self
      · exact ho y (List.mem_of_mem_drop hy)
    obtain ⟨T2, k2, y4', y6'', h3, h4, h5⟩ := ins_loop x0 x1 x2 x3 L y7 xs (ins o x) k1 (S ++ T) (some (encR x)) y6' h2 (fun y hy => hx y (List.mem_cons_of_mem _ hy)) ho' (by rw [ins_len]; omega) (by rw [List.length_append]; omega) (by omega)
    refine ⟨T ++ T2, k2, y4', y6'', ?_, by rw [← List.append_assoc]; exact h4, h5⟩
    rw [List.map_cons, loop_nx (ρ1 := [x0, x1, x2, x3, some (encR x), some (.ref k), y6, y7]) rfl h1 (same_cell (List.getElem?_append_left hL)), h3, List.append_assoc]
def found (cs : List (Int × Int)) : List Rat := cs.foldl addPt [0, 1]
def pts (cs : List (Int × Int)) : List Rat := (found cs).foldl ins []
theorem turn_den {c : Int × Int} (h : SmC c) (h0 : c.2 ≠ 0) : (turnP c).den ≤ 99999 := Nat.le_trans (den_divInt_le' _ _ h0) h.2
theorem found_den : ∀ (cs : List (Int × Int)) (f : List Rat), (∀ c ∈ cs, SmC c) → (∀ y ∈ f, y.den ≤ 99999) → ∀ y ∈ cs.foldl addPt f, y.den ≤ 99999
  | [], f, _, hf => hf
  | c :: cs, f, hs, hf => by
    refine found_den cs (addPt f c) (fun c hc => hs c (List.mem_cons_of_mem _ hc)) fun y hy => ?_
    unfold addPt at hy
    split at hy
    · rename_i hh
      rcases List.mem_append.mp hy with hy | hy
      · exact hf y hy
      · rw [List.mem_singleton.mp hy]; exact turn_den (hs c List.mem_cons_self) hh.1
    · exact hf y hy
theorem f_points (cs : List (Int × Int)) (n : Nat) (st : Sto) (hn : st[n]? = some (.lst (cs.map encC))) (hs : ∀ c ∈ cs, SmC c) (hl : cs.length ≤ 100) :
    ∃ T k, F_n_law_points [.ref n] st = some (.ref k, st ++ T) ∧ (st ++ T)[k]? = some (.lst ((pts cs).map encR)) ∧ st.length ≤ k := by
  have hlt : n < st.length := (List.getElem?_eq_some_iff.mp hn).1
  obtain ⟨y2, y3, y4, h1⟩ := found_loop (some (.ref n)) n st hlt none none none cs [0, 1] none none none hs (by simp; omega)
  have fd := found_den cs [0, 1] hs (fun y hy => by
    rcases List.mem_cons.mp hy with e | hy
    · rw [e]; decide
    · rw [List.mem_singleton.mp hy]; decide)
  have fl := found_len cs [0, 1]
  simp only [List.length_cons, List.length_nil] at fl
  obtain ⟨T, k, y4', y6', h2, h3, kge⟩ := ins_loop (some (.ref n)) (some (.ref st.length)) y2 y3 st.length none (found cs) [] (st.length + 1) (st ++ [.lst ((found cs).map encR), .lst []]) y4 none (by simp) fd (fun y hy => nomatch hy) (by unfold found; simp; omega) (by simp) (by omega)
  have hg : (st ++ [Cell.lst ((found cs).map encR), .lst []])[st.length]? = some (.lst ((found cs).map encR)) := by simp
  have hg2 : (st ++ [Cell.lst ([0, 1].map encR)])[n]? = some (.lst (cs.map encC)) := get_app hn _
  refine ⟨[.lst ((found cs).map encR), .lst []] ++ T, k, ?_, by rw [← List.append_assoc]; exact h3, kge⟩
  unfold F_n_law_points
  refine fn_keep (ρ := [some (.ref n), some (.ref st.length), y2, y3, y4', some (.ref k), y6', none]) ?_ (by simp [belowD]; exact kge)
  unfold G_n_law_points
  refine step (ρ1 := [some (.ref n), some (.ref st.length), none, none, none, none, none, none]) (st1 := st ++ [.lst ([0, 1].map encR)]) (by simp [enc0, enc1]) ?_
  refine step (for_cell rfl hg2 h1) ?_
  refine step (ρ1 := [some (.ref n), some (.ref st.length), y2, y3, y4, some (.ref (st.length + 1)), none, none]) (st1 := st ++ [.lst ((found cs).map encR), .lst []]) (by simp [found]) ?_
  refine step (for_cell rfl hg h2) ?_
  simp
end W
end

section
set_option Elab.async false
set_option linter.all false
set_option maxRecDepth 100000
set_option maxHeartbeats 1000000
namespace W
open PySem PySem.Spec PyProof.Rows L2 DL
/-! ### the law's stretch -/
def goodK (cs : List (Int × Int)) (P : List Rat) (k : Nat) : Bool := match P[k]?, P[k + 1]? with
  | some a, some b => cs.all fun c => holdsZ c (mid a b)
  | _, _ => false
/-- the law's stretch -/
def lawS (cs : List (Int × Int)) : Option Sx :=
  match (List.range ((pts cs).length - 1)).filter (goodK cs (pts cs)) with
  | [] => none
  | i :: r => match (pts cs)[i]?, (pts cs)[(i :: r).getLast (List.cons_ne_nil _ _) + 1]? with
    | some a, some b => some ⟨a, cs.all fun c => holdsZ c a, b, cs.all fun c => holdsZ c b⟩
    | _, _ => none
theorem pts_den (cs : List (Int × Int)) (hs : ∀ c ∈ cs, SmC c) : ∀ y ∈ pts cs, y.den ≤ 99999 := by
  have fd := found_den cs [0, 1] hs (fun y hy => by
    rcases List.mem_cons.mp hy with e | hy
    · rw [e]; decide
    · rw [List.mem_singleton.mp hy]; decide)
  have go : ∀ (xs o : List Rat), (∀ y ∈ xs, y.den ≤ 99999) → (∀ y ∈ o, y.den ≤ 99999) → ∀ y ∈ xs.foldl ins o, y.den ≤ 99999 := by
    intro xs
    induction xs with
    | nil => exact fun o _ ho => ho
    | cons x xs ih =>
      intro o hx ho
      refine ih (ins o x) (fun y hy => hx y (List.mem_cons_of_mem _ hy)) fun y hy => ?_
      unfold ins at hy
      rcases List.mem_append.mp hy with hy | hy
      · rcases List.mem_append.mp hy with hy | hy
        · exact ho y (List.mem_of_mem_take hy)
        · rw [List.mem_singleton.mp hy]; exact hx x List.mem_cons_self
      · exact ho y (List.mem_of_mem_drop hy)
  exact go _ [] fd fun y hy => nomatch hy
theorem pts_len (cs : List (Int × Int)) : (pts cs).length ≤ cs.length + 2 := by
  have fl := found_len cs [0, 1]
  have go : ∀ (xs o : List Rat), (xs.foldl ins o).length = o.length + xs.length := by
    intro xs
    induction xs with
    | nil => intro o; rfl
    | cons x xs ih => intro o; rw [List.foldl_cons, ih, ins_len, List.length_cons]; omega
  unfold pts found
  rw [go]
  simp only [List.length_cons, List.length_nil] at fl ⊢
  omega
theorem good_loop (cs : List (Int × Int)) (P : List Rat) (hs : ∀ c ∈ cs, SmC c) (hd : ∀ y ∈ P, y.den ≤ 99999) (n p : Nat) (B : Sto) (hn : B[n]? = some (.lst (cs.map encC))) (hp : B[p]? = some (.lst (P.map encR))) (ds0 : List D) (z4 z5 : Option D) :
    ∀ (ks : List Nat) (g : List Nat) (y3 : Option D), (∀ k ∈ ks, k + 1 < P.length) → g.length + ks.length ≤ 1000 →
    ∃ y3', loopG (.seq ds0) (nName 3) (gIf (dTr (dCall F_n_law_all_hold [] (dCons (dVar 0) (dCons (dCall F_n_law_between [] (dCons (dBin oIx (dVar 1) (dVar 3)) (dCons (dBin oIx (dVar 1) (dBin oAdd (dVar 3) (dC (.int 1)))) dNil))) dNil)))) (gDrop (dMeth oApp (dVar 2) (dCons (dVar 3) dNil))) gNext)
      (ks.map fun k => D.int (0 + (k : Nat))) [some (.ref n), some (.ref p), some (.ref B.length), y3, z4, z5] (B ++ [.lst (g.map fun k => D.int (k : Nat))]) =
      some (.nx, [some (.ref n), some (.ref p), some (.ref B.length), y3', z4, z5], B ++ [.lst ((g ++ ks.filter (goodK cs P)).map fun k => D.int (k : Nat))])
  | [], g, y3, _, _ => ⟨y3, by simp⟩
  | k :: ks, g, y3, hk, hl => by
    simp only [List.length_cons] at hl
    have h1 := hk k List.mem_cons_self
    have e1 : P[k]? = some (P[k]'(by omega)) := List.getElem?_eq_getElem (by omega)
    have e2 : P[k + 1]? = some P[k + 1] := List.getElem?_eq_getElem h1
    obtain ⟨a, ha⟩ : ∃ a, a = P[k]'(by omega) := ⟨_, rfl⟩
    obtain ⟨b, hb⟩ : ∃ b, b = P[k + 1] := ⟨_, rfl⟩
    rw [← ha] at e1
    rw [← hb] at e2
    have da : a.den ≤ 99999 := hd a (List.mem_of_getElem? e1)
    have db : b.den ≤ 99999 := hd b (List.mem_of_getElem? e2)
    have hg : goodK cs P k = cs.all fun c => holdsZ c (mid a b) := by unfold goodK; rw [e1, e2]
    obtain ⟨S, hS⟩ : ∃ S : Sto, S = B ++ [.lst (g.map fun k => D.int (k : Nat))] := ⟨_, rfl⟩
    have bt := f_between a b S (by omega) (by omega)
    have ah := f_all_hold cs (mid a b) n S (by rw [hS]; exact get_app hn _) hs
    have sp : S[p]? = some (.lst (P.map encR)) := by rw [hS]; exact get_app hp _
    have sL : S[B.length]? = some (.lst (g.map fun k => D.int (k : Nat))) := by rw [hS]; simp
    have test : (dTr (dCall F_n_law_all_hold [] (dCons (dVar 0) (dCons (dCall F_n_law_between [] (dCons (dBin oIx (dVar 1) (dVar 3)) (dCons (dBin oIx (dVar 1) (dBin oAdd (dVar 3) (dC (.int 1)))) dNil))) dNil))))
        [some (.ref n), some (.ref p), some (.ref B.length), some (.int (0 + (k : Nat))), z4, z5] S = some (goodK cs P k, S) := by
      have i1 : atI (P.map encR) ((k : Nat) : Int) = some (encR a) := by rw [atI_nat', List.getElem?_map, e1]; rfl
      have i2 : atI (P.map encR) ((k : Int) + 1) = some (encR b) := by
        rw [show ((k : Int) + 1) = ((k + 1 : Nat) : Int) by omega, atI_nat', List.getElem?_map, e2]; rfl
      rw [hg]
      simp [sp, i1, i2, bt, ah]
    have hks : ∀ j ∈ ks, j + 1 < P.length := fun j hj => hk j (List.mem_cons_of_mem _ hj)
    cases hgk : goodK cs P k with
    | true =>
      rw [hgk] at test
      have hz : g.length < 16777216 := by omega
      have hb1 : (gIf (dTr (dCall F_n_law_all_hold [] (dCons (dVar 0) (dCons (dCall F_n_law_between [] (dCons (dBin oIx (dVar 1) (dVar 3)) (dCons (dBin oIx (dVar 1) (dBin oAdd (dVar 3) (dC (.int 1)))) dNil))) dNil)))) (gDrop (dMeth oApp (dVar 2) (dCons (dVar 3) dNil))) gNext)
          [some (.ref n), some (.ref p), some (.ref B.length), some (.int (0 + (k : Nat))), z4, z5] S = some (.nx, [some (.ref n), some (.ref p), some (.ref B.length), some (.int (0 + (k : Nat))), z4, z5], B ++ [.lst ((g ++ [k]).map fun k => D.int (k : Nat))]) := by
        rw [e_if, test, Option.bind_some, if_pos rfl]
        have hlt : B.length < S.length := (List.getElem?_eq_some_iff.mp sL).1
        rw [e_drop, e_dMeth, e_var]
        show Option.map _ (if decide (B.length < S.length) = true then _ else _) = _
        rw [if_pos (decide_eq_true hlt)]
        simp [m_app]
        rw [sL]
        simp [hz, hS, set_end]
      obtain ⟨y3', h⟩ := good_loop cs P hs hd n p B hn hp ds0 z4 z5 ks (g ++ [k]) (some (.int (0 + (k : Nat)))) hks (by simp; omega)
      refine ⟨y3', ?_⟩
      rw [List.map_cons, ← hS, loop_nx (ρ1 := [some (.ref n), some (.ref p), some (.ref B.length), some (.int (0 + (k : Nat))), z4, z5]) rfl hb1 rfl, h, List.filter_cons, if_pos hgk, List.append_assoc]
      rfl
    | false =>
      rw [hgk] at test
      have hb1 : (gIf (dTr (dCall F_n_law_all_hold [] (dCons (dVar 0) (dCons (dCall F_n_law_between [] (dCons (dBin oIx (dVar 1) (dVar 3)) (dCons (dBin oIx (dVar 1) (dBin oAdd (dVar 3) (dC (.int 1)))) dNil))) dNil)))) (gDrop (dMeth oApp (dVar 2) (dCons (dVar 3) dNil))) gNext)
          [some (.ref n), some (.ref p), some (.ref B.length), some (.int (0 + (k : Nat))), z4, z5] S = some (.nx, [some (.ref n), some (.ref p), some (.ref B.length), some (.int (0 + (k : Nat))), z4, z5], S) := by
        rw [e_if, test, Option.bind_some, if_neg Bool.false_ne_true]
        rfl
      obtain ⟨y3', h⟩ := good_loop cs P hs hd n p B hn hp ds0 z4 z5 ks g (some (.int (0 + (k : Nat)))) hks (by omega)
      refine ⟨y3', ?_⟩
      rw [← hS] at h ⊢
      rw [List.map_cons, loop_nx (ρ1 := [some (.ref n), some (.ref p), some (.ref B.length), some (.int (0 + (k : Nat))), z4, z5]) rfl hb1 rfl, h, List.filter_cons, if_neg (by rw [hgk]; exact Bool.false_ne_true)]
theorem f_law_stretch (cs : List (Int × Int)) (n : Nat) (st : Sto) (hn : st[n]? = some (.lst (cs.map encC))) (hs : ∀ c ∈ cs, SmC c) (hl : cs.length ≤ 100) : F_n_law_stretch [.ref n] st = some (encO (lawS cs), st) := by
  obtain ⟨T, p, h1, h2, _⟩ := f_points cs n st hn hs hl
  have pl := pts_len cs
  have hnB : (st ++ T)[n]? = some (.lst (cs.map encC)) := get_app hn _
  obtain ⟨y3, h3⟩ := good_loop cs (pts cs) hs (pts_den cs hs) n p (st ++ T) hnB h2 (rngD 0 ((pts cs).length - 1)) none none (List.range ((pts cs).length - 1)) [] none (fun k hk => by have := List.mem_range.mp hk; omega) (by simp; omega)
  have hB : (st ++ T) ++ [Cell.lst (([] : List Nat).map fun k => D.int (k : Nat))] = st ++ (T ++ [.lst []]) := by rw [List.append_assoc]; rfl
  obtain ⟨gd, hgd⟩ : ∃ gd, gd = (List.range ((pts cs).length - 1)).filter (goodK cs (pts cs)) := ⟨_, rfl⟩
  rw [List.nil_append, ← hgd] at h3
  have rk : RngOk (((pts cs).length : Int) - 1) := ⟨by omega, by omega⟩
  have tn : (((pts cs).length : Int) - 1).toNat = (pts cs).length - 1 := by omega
  unfold F_n_law_stretch G_n_law_stretch
  have s1 : (gSet 1 (dCall F_n_law_points [] (dCons (dVar 0) dNil))) (startD 6 [.ref n]) st = some (.nx, [some (.ref n), some (.ref p), none, none, none, none], st ++ T) := by simp [h1]
  have s2 : (gSet 2 (dLst dNil)) [some (.ref n), some (.ref p), none, none, none, none] (st ++ T) = some (.nx, [some (.ref n), some (.ref p), some (.ref (st ++ T).length), none, none, none], (st ++ T) ++ [Cell.lst (([] : List Nat).map fun k => D.int (k : Nat))]) := by simp
  have s3 : (srcRng1 (dCons (dBin oSub (dCB bLen (dCons (dVar 1) dNil)) (dC (.int 1))) dNil)) [some (.ref n), some (.ref p), some (.ref (st ++ T).length), none, none, none] ((st ++ T) ++ [Cell.lst (([] : List Nat).map fun k => D.int (k : Nat))]) =
      some (.seq (rngD 0 ((pts cs).length - 1)), (st ++ T) ++ [Cell.lst (([] : List Nat).map fun k => D.int (k : Nat))]) := by
    have g := get_app h2 [Cell.lst (([] : List Nat).map fun k => D.int (k : Nat))]
    rw [e_rng1, e_dCons, e_bin, e_dCB, e_dCons, e_var]
    show (((((seqD ((st ++ T) ++ [Cell.lst (([] : List Nat).map fun k => D.int (k : Nat))]) (.ref p)).map fun ds => (D.int ds.length, (st ++ T) ++ [Cell.lst (([] : List Nat).map fun k => D.int (k : Nat))])).bind _)).bind _).bind _ = _
    rw [seq_ref, g]
    simp [rk, tn]
  obtain ⟨S3, hS3⟩ : ∃ S3 : Sto, S3 = (st ++ T) ++ [Cell.lst (gd.map fun k => D.int (k : Nat))] := ⟨_, rfl⟩
  have hgL : S3[(st ++ T).length]? = some (.lst (gd.map fun k => D.int (k : Nat))) := by rw [hS3]; simp
  have hpS : S3[p]? = some (.lst ((pts cs).map encR)) := by rw [hS3]; exact get_app h2 _
  have hnS : S3[n]? = some (.lst (cs.map encC)) := by rw [hS3]; exact get_app hnB _
  have e3 : S3 = st ++ (T ++ [Cell.lst (gd.map fun k => D.int (k : Nat))]) := by rw [hS3, List.append_assoc]
  rw [← hS3] at h3
  have t4 : ∀ b, (!gd.isEmpty) = b → (dNotT (dTr (dVar 2))) [some (.ref n), some (.ref p), some (.ref (st ++ T).length), y3, none, none] S3 = some (!b, S3) := fun b hb => by
    rw [e_dNotT, e_dTr, e_var]
    show Option.map _ ((truD S3 (.ref (st ++ T).length)).map _) = _
    rw [tru_ref, hgL]
    simp [← hb]
  cases hg : gd with
  | nil =>
    have hl0 : lawS cs = none := by unfold lawS; rw [← hgd, hg]
    rw [hl0]
    refine fn_drop (gr := T ++ [Cell.lst (gd.map fun k => D.int (k : Nat))]) (ρ := [some (.ref n), some (.ref p), some (.ref (st ++ T).length), y3, none, none]) ?_ (by simp [encO, belowD])
    refine step s1 (step s2 (step (e_for' s3 rfl h3) (step_rt ?_)))
    rw [e_if, t4 false (by rw [hg]; rfl), Option.bind_some, ← e3]
    rfl
  | cons i r =>
    have hmem : ∀ k ∈ gd, k < (pts cs).length - 1 := fun k hk => by
      rw [hgd] at hk
      exact List.mem_range.mp ((List.mem_filter.mp hk).1)
    obtain ⟨l, hlast⟩ : ∃ l, l = (i :: r).getLast (List.cons_ne_nil _ _) := ⟨_, rfl⟩
    have hlm : l ∈ gd := by rw [hg, hlast]; exact List.getLast_mem _
    have him : i ∈ gd := by rw [hg]; exact List.mem_cons_self
    have b1 := hmem i him
    have b2 := hmem l hlm
    have e1 : (pts cs)[i]? = some ((pts cs)[i]'(by omega)) := List.getElem?_eq_getElem (by omega)
    have e2 : (pts cs)[l + 1]? = some ((pts cs)[l + 1]'(by omega)) := List.getElem?_eq_getElem (by omega)
    obtain ⟨a, ha⟩ : ∃ a, a = (pts cs)[i]'(by omega) := ⟨_, rfl⟩
    obtain ⟨b, hb⟩ : ∃ b, b = (pts cs)[l + 1]'(by omega) := ⟨_, rfl⟩
    rw [← ha] at e1
    rw [← hb] at e2
    have hl1 : lawS cs = some ⟨a, cs.all fun c => holdsZ c a, b, cs.all fun c => holdsZ c b⟩ := by
      unfold lawS
      rw [← hgd, hg]
      show (match (pts cs)[i]?, (pts cs)[(i :: r).getLast (List.cons_ne_nil _ _) + 1]? with
        | some a, some b => some (Sx.mk a (cs.all fun c => holdsZ c a) b (cs.all fun c => holdsZ c b))
        | _, _ => none) = _
      rw [← hlast, e1, e2]
    rw [hl1]
    have a1 := f_all_hold cs a n S3 hnS hs
    have a2 := f_all_hold cs b n S3 hnS hs
    have g0 : atI (gd.map fun k => D.int (k : Nat)) 0 = some (.int (i : Nat)) := by rw [hg, show (0 : Int) = ((0 : Nat) : Int) from rfl, atI_nat']; rfl
    have gl : atI (gd.map fun k => D.int (k : Nat)) (-1) = some (.int (l : Nat)) := by
      rw [atI_neg1 _ (by rw [hg]; simp), List.getElem?_map, List.length_map]
      have : gd[gd.length - 1]? = some l := by
        rw [← List.getLast?_eq_getElem?, hg, List.getLast?_eq_some_getLast (List.cons_ne_nil _ _), hlast]
      rw [this]; rfl
    have p0 : atI ((pts cs).map encR) ((i : Nat) : Int) = some (encR a) := by rw [atI_nat', List.getElem?_map, e1]; rfl
    have pb : atI ((pts cs).map encR) ((l : Int) + 1) = some (encR b) := by
      rw [show ((l : Int) + 1) = ((l + 1 : Nat) : Int) by omega, atI_nat', List.getElem?_map, e2]; rfl
    have ixg : ∀ (ρ : DEnv) (j : D → D), True := fun _ _ => trivial
    have v4 : (gSet 4 (dBin oIx (dVar 1) (dBin oIx (dVar 2) (dC (.int 0))))) [some (.ref n), some (.ref p), some (.ref (st ++ T).length), y3, none, none] S3 = some (.nx, [some (.ref n), some (.ref p), some (.ref (st ++ T).length), y3, some (encR a), none], S3) := by
      have q1 : oIx (.ref (st ++ T).length) (.int 0) S3 = some (.int (i : Nat), S3) := by rw [o_ix_ref, seq_ref, hgL, Option.bind_some, g0]; rfl
      have q2 : oIx (.ref p) (.int (i : Nat)) S3 = some (encR a, S3) := by rw [o_ix_ref, seq_ref, hpS, Option.bind_some, p0]; rfl
      rw [e_set]
      show Option.map _ ((((oIx (.ref (st ++ T).length) (.int 0) S3)).bind fun q => oIx (.ref p) q.1 q.2)) = _
      rw [q1, Option.bind_some, q2]
      rfl
    have v5 : (gSet 5 (dBin oIx (dVar 1) (dBin oAdd (dBin oIx (dVar 2) (dUn oNeg (dC (.int 1)))) (dC (.int 1))))) [some (.ref n), some (.ref p), some (.ref (st ++ T).length), y3, some (encR a), none] S3 = some (.nx, [some (.ref n), some (.ref p), some (.ref (st ++ T).length), y3, some (encR a), some (encR b)], S3) := by
      have q1 : oIx (.ref (st ++ T).length) (.int (-1)) S3 = some (.int (l : Nat), S3) := by rw [o_ix_ref, seq_ref, hgL, Option.bind_some, gl]; rfl
      have q2 : oIx (.ref p) (.int ((l : Int) + 1)) S3 = some (encR b, S3) := by rw [o_ix_ref, seq_ref, hpS, Option.bind_some, pb]; rfl
      rw [e_set]
      show Option.map _ ((((oIx (.ref (st ++ T).length) (.int (-1)) S3).bind fun q => oAdd q.1 (.int 1) q.2)).bind fun q => oIx (.ref p) q.1 q.2) = _
      rw [q1, Option.bind_some]
      show Option.map _ (oIx (.ref p) (.int ((l : Int) + 1)) S3) = _
      rw [q2]
      rfl
    refine fn_drop (gr := T ++ [Cell.lst (gd.map fun k => D.int (k : Nat))]) (ρ := [some (.ref n), some (.ref p), some (.ref (st ++ T).length), y3, some (encR a), some (encR b)]) ?_ (by simp [encO, encS, encR, belowD, belowDs])
    refine step s1 (step s2 (step (e_for' s3 rfl h3) (step (ρ1 := [some (.ref n), some (.ref p), some (.ref (st ++ T).length), y3, none, none]) (st1 := S3) ?_ (step v4 (step v5 ?_)))))
    · rw [e_if, t4 true (by rw [hg]; rfl), Option.bind_some]
      rfl
    · rw [← e3]
      simp [a1, a2, encO, encS]
end W
end

section
set_option Elab.async false
set_option linter.all false
set_option maxRecDepth 100000
set_option maxHeartbeats 1000000
namespace W
open PySem PySem.Spec PyProof.Rows L2 DL
/-! ### the plain law of the stretches -/
theorem mid_lt {r s : Rat} (h : r < s) : r < mid r s ∧ mid r s < s := by
  have e : Rat.divInt 1 2 = 1 / 2 := by rw [Rat.divInt_eq_div]; rfl
  unfold mid
  rw [e]
  constructor <;> grind
theorem hold_iff (c : Int × Int) (m : Rat) : holdsZ c m = true ↔ 0 < (c.1 : Rat) + (c.2 : Rat) * m := by
  have hd : (0 : Rat) < ((m.den : Int) : Rat) := by
    have := m.den_pos
    exact Rat.intCast_pos.mpr (by omega)
  have hm : m * ((m.den : Int) : Rat) = (m.num : Rat) := by
    have h1 : (m.num : Rat) / ((m.den : Int) : Rat) = m := by rw [← Rat.divInt_eq_div, Rat.num_divInt_den]
    have h2 := Rat.div_mul_cancel (a := (m.num : Rat)) (Rat.ne_of_gt hd)
    rw [h1] at h2
    exact h2
  have e : ((c.1 * m.den + c.2 * m.num : Int) : Rat) = ((c.1 : Rat) + (c.2 : Rat) * m) * ((m.den : Int) : Rat) := by
    rw [Rat.intCast_add, Rat.intCast_mul, Rat.intCast_mul, ← hm]
    grind
  unfold holdsZ
  rw [decide_eq_true_iff, ← Rat.intCast_pos, e]
  constructor
  · intro h
    exact (Rat.mul_pos_iff_of_pos_right hd).mp h
  · intro h
    exact Rat.mul_pos h hd
theorem turn_eq (c : Int × Int) (h : c.2 ≠ 0) : turnP c * (c.2 : Rat) = -(c.1 : Rat) := by
  have h' : (c.2 : Rat) ≠ 0 := by
    intro e
    exact h (by exact_mod_cast e)
  unfold turnP
  rw [Rat.divInt_eq_div, Rat.div_mul_cancel h', Rat.intCast_neg]
theorem hold_pos (c : Int × Int) (h : 0 < c.2) (m : Rat) : holdsZ c m = true ↔ turnP c < m := by
  have e := turn_eq c (by omega)
  have hp : (0 : Rat) < (c.2 : Rat) := Rat.intCast_pos.mpr h
  rw [hold_iff, show (c.1 : Rat) + (c.2 : Rat) * m = (m - turnP c) * (c.2 : Rat) by grind]
  constructor
  · intro h
    have := (Rat.mul_pos_iff_of_pos_right hp).mp h
    grind
  · intro h
    exact Rat.mul_pos (by grind) hp
theorem hold_neg (c : Int × Int) (h : c.2 < 0) (m : Rat) : holdsZ c m = true ↔ m < turnP c := by
  have e := turn_eq c (by omega)
  have hp : (0 : Rat) < -(c.2 : Rat) := by
    rw [← Rat.intCast_neg]
    exact Rat.intCast_pos.mpr (by omega)
  rw [hold_iff, show (c.1 : Rat) + (c.2 : Rat) * m = (turnP c - m) * -(c.2 : Rat) by grind]
  constructor
  · intro h
    have := (Rat.mul_pos_iff_of_pos_right hp).mp h
    grind
  · intro h
    exact Rat.mul_pos (by grind) hp
theorem hold_zero (c : Int × Int) (h : c.2 = 0) (m : Rat) : holdsZ c m = true ↔ 0 < c.1 := by
  rw [hold_iff, h, ← Rat.intCast_pos, show (c.1 : Rat) + ((0 : Int) : Rat) * m = (c.1 : Rat) by grind]
/-- a moment lies in a stretch -/
def InS (s : Sx) (m : Rat) : Prop := (s.lo < m ∧ m < s.hi) ∨ (m = s.lo ∧ s.li = true) ∨ (m = s.hi ∧ s.hin = true)
theorem nar_some (s : Sx) (c : Int × Int) (h : s.lo < s.hi) (t : Sx) (e : nar s c = some t) :
    t.lo < t.hi ∧ s.lo ≤ t.lo ∧ t.hi ≤ s.hi ∧ (t.lo = s.lo ∨ (c.2 ≠ 0 ∧ t.lo = turnP c)) ∧ (t.hi = s.hi ∨ (c.2 ≠ 0 ∧ t.hi = turnP c)) ∧ ∀ m, InS t m ↔ (InS s m ∧ holdsZ c m = true) := by
  unfold nar at e
  by_cases h0 : c.2 = 0
  · rw [if_pos h0] at e
    by_cases h1 : 0 < c.1
    · rw [if_pos h1] at e
      cases e
      exact ⟨h, Rat.le_refl, Rat.le_refl, .inl rfl, .inl rfl, fun m => ⟨fun hm => ⟨hm, (hold_zero c h0 m).mpr h1⟩, fun hm => hm.1⟩⟩
    · rw [if_neg h1] at e
      cases e
  · rw [if_neg h0] at e
    by_cases h1 : 0 < c.2
    · rw [if_pos h1] at e
      have ht := hold_pos c h1
      change (if turnP c < s.lo then _ else _) = _ at e
      by_cases h2 : turnP c < s.lo
      · rw [if_pos h2, if_pos h] at e
        cases e
        exact ⟨h, Rat.le_refl, Rat.le_refl, .inl rfl, .inl rfl, fun m => ⟨fun hm => ⟨hm, (ht m).mpr (by rcases hm with hm | hm | hm <;> grind)⟩, fun hm => hm.1⟩⟩
      · rw [if_neg h2] at e
        change (if turnP c < s.hi then some (Sx.mk (turnP c) false s.hi s.hin) else none) = _ at e
        by_cases h3 : turnP c < s.hi
        · rw [if_pos h3] at e
          cases e
          refine ⟨h3, by grind, Rat.le_refl, .inr ⟨h0, rfl⟩, .inl rfl, fun m => ?_⟩
          rw [ht m]
          unfold InS
          simp only [Bool.false_eq_true, and_false, false_or]
          constructor
          · rintro (hm | hm)
            · exact ⟨.inl ⟨by grind, hm.2⟩, hm.1⟩
            · exact ⟨.inr (.inr hm), by grind⟩
          · rintro ⟨hm | hm | hm, hm2⟩
            · exact .inl ⟨hm2, hm.2⟩
            · exact absurd hm.1 (by grind)
            · exact .inr hm
        · rw [if_neg h3] at e
          cases e
    · rw [if_neg h1] at e
      have ht := hold_neg c (by omega)
      change (if s.hi < turnP c then _ else _) = _ at e
      by_cases h2 : s.hi < turnP c
      · rw [if_pos h2, if_pos h] at e
        cases e
        exact ⟨h, Rat.le_refl, Rat.le_refl, .inl rfl, .inl rfl, fun m => ⟨fun hm => ⟨hm, (ht m).mpr (by rcases hm with hm | hm | hm <;> grind)⟩, fun hm => hm.1⟩⟩
      · rw [if_neg h2] at e
        change (if s.lo < turnP c then some (Sx.mk s.lo s.li (turnP c) false) else none) = _ at e
        by_cases h3 : s.lo < turnP c
        · rw [if_pos h3] at e
          cases e
          refine ⟨h3, Rat.le_refl, by grind, .inl rfl, .inr ⟨h0, rfl⟩, fun m => ?_⟩
          rw [ht m]
          unfold InS
          simp only [Bool.false_eq_true, and_false, or_false]
          constructor
          · rintro (hm | hm)
            · exact ⟨.inl ⟨hm.1, by grind⟩, hm.2⟩
            · exact ⟨.inr (.inl hm), by grind⟩
          · rintro ⟨hm | hm | hm, hm2⟩
            · exact .inl ⟨hm.1, hm2⟩
            · exact .inr hm
            · exact absurd hm.1 (by grind)
        · rw [if_neg h3] at e
          cases e
theorem nar_none (s : Sx) (c : Int × Int) (h : s.lo < s.hi) (e : nar s c = none) (m : Rat) (hm : InS s m) : holdsZ c m = false := by
  rw [← Bool.not_eq_true]
  intro hh
  unfold nar at e
  by_cases h0 : c.2 = 0
  · rw [if_pos h0, if_pos ((hold_zero c h0 m).mp hh)] at e
    cases e
  · rw [if_neg h0] at e
    by_cases h1 : 0 < c.2
    · rw [if_pos h1] at e
      have ht := (hold_pos c h1 m).mp hh
      change (if turnP c < s.lo then _ else (if turnP c < s.hi then _ else _)) = _ at e
      by_cases h2 : turnP c < s.lo
      · rw [if_pos h2, if_pos h] at e
        cases e
      · rw [if_neg h2] at e
        by_cases h3 : turnP c < s.hi
        · rw [if_pos h3] at e
          cases e
        · rcases hm with hm | hm | hm <;> grind
    · rw [if_neg h1] at e
      have ht := (hold_neg c (by omega) m).mp hh
      change (if s.hi < turnP c then _ else (if s.lo < turnP c then _ else _)) = _ at e
      by_cases h2 : s.hi < turnP c
      · rw [if_pos h2, if_pos h] at e
        cases e
      · rw [if_neg h2] at e
        by_cases h3 : s.lo < turnP c
        · rw [if_pos h3] at e
          cases e
        · rcases hm with hm | hm | hm <;> grind
/-- the program's stretch -/
def narS : Sx → List (Int × Int) → Option Sx
  | s, [] => some s
  | s, c :: cs => match nar s c with
    | none => none
    | some t => narS t cs
theorem narS_some : ∀ (cs : List (Int × Int)) (s t : Sx), s.lo < s.hi → narS s cs = some t →
    t.lo < t.hi ∧ s.lo ≤ t.lo ∧ t.hi ≤ s.hi ∧ (t.lo = s.lo ∨ ∃ c ∈ cs, c.2 ≠ 0 ∧ t.lo = turnP c) ∧ (t.hi = s.hi ∨ ∃ c ∈ cs, c.2 ≠ 0 ∧ t.hi = turnP c) ∧ ∀ m, InS t m ↔ (InS s m ∧ (cs.all fun c => holdsZ c m) = true)
  | [], s, t, h, e => by
    cases e
    exact ⟨h, Rat.le_refl, Rat.le_refl, .inl rfl, .inl rfl, fun m => by simp⟩
  | c :: cs, s, t, h, e => by
    unfold narS at e
    cases hn : nar s c with
    | none => rw [hn] at e; cases e
    | some u =>
      rw [hn] at e
      obtain ⟨a1, a2, a3, a4, a5, a6⟩ := nar_some s c h u hn
      obtain ⟨b1, b2, b3, b4, b5, b6⟩ := narS_some cs u t a1 e
      refine ⟨b1, Rat.le_trans a2 b2, Rat.le_trans b3 a3, ?_, ?_, fun m => ?_⟩
      · rcases b4 with b4 | ⟨d, hd, b4⟩
        · rcases a4 with a4 | a4
          · exact .inl (b4.trans a4)
          · exact .inr ⟨c, List.mem_cons_self, a4.1, b4.trans a4.2⟩
        · exact .inr ⟨d, List.mem_cons_of_mem _ hd, b4⟩
      · rcases b5 with b4 | ⟨d, hd, b4⟩
        · rcases a5 with a4 | a4
          · exact .inl (b4.trans a4)
          · exact .inr ⟨c, List.mem_cons_self, a4.1, b4.trans a4.2⟩
        · exact .inr ⟨d, List.mem_cons_of_mem _ hd, b4⟩
      · rw [b6 m, a6 m, List.all_cons, Bool.and_eq_true, and_assoc]
theorem narS_none : ∀ (cs : List (Int × Int)) (s : Sx), s.lo < s.hi → narS s cs = none → ∀ m, InS s m → (cs.all fun c => holdsZ c m) = false
  | [], s, h, e, m, hm => by cases e
  | c :: cs, s, h, e, m, hm => by
    unfold narS at e
    rw [List.all_cons]
    cases hn : nar s c with
    | none => rw [nar_none s c h hn m hm]; rfl
    | some u =>
      rw [hn] at e
      obtain ⟨a1, a2, a3, a4, a5, a6⟩ := nar_some s c h u hn
      cases hc : holdsZ c m with
      | false => rfl
      | true => rw [narS_none cs u a1 e m ((a6 m).mpr ⟨hm, hc⟩)]; rfl
theorem ins_cons_lt {y x : Rat} (o : List Rat) (h : y < x) : ins (y :: o) x = y :: ins o x := by
  unfold ins
  rw [List.filter_cons, if_pos (decide_eq_true h)]
  rfl
theorem ins_cons_ge {y x : Rat} (o : List Rat) (h : ¬ y < x) (ho : ∀ z ∈ o, y < z) : ins (y :: o) x = x :: y :: o := by
  have e : ((y :: o).filter fun z => decide (z < x)) = [] := by
    rw [List.filter_eq_nil_iff]
    intro z hz
    rw [decide_eq_true_iff]
    rcases List.mem_cons.mp hz with e | hz
    · rw [e]; exact h
    · have := ho z hz; grind
  unfold ins
  rw [e]
  rfl
theorem ins_ok (x : Rat) : ∀ o : List Rat, o.Pairwise (· < ·) → x ∉ o → (ins o x).Pairwise (· < ·) ∧ ∀ z, z ∈ ins o x ↔ (z = x ∨ z ∈ o)
  | [], _, _ => ⟨by simp [ins], fun z => by simp [ins]⟩
  | y :: o, hp, hx => by
    rw [List.pairwise_cons] at hp
    have hx1 : x ≠ y := fun e => hx (e ▸ List.mem_cons_self)
    have hx2 : x ∉ o := fun e => hx (List.mem_cons_of_mem _ e)
    by_cases h : y < x
    · obtain ⟨h1, h2⟩ := ins_ok x o hp.2 hx2
      rw [ins_cons_lt o h]
      refine ⟨List.pairwise_cons.mpr ⟨fun z hz => ?_, h1⟩, fun z => ?_⟩
      · rcases (h2 z).mp hz with e | hz
        · rw [e]; exact h
        · exact hp.1 z hz
      · rw [List.mem_cons, h2, List.mem_cons]
        constructor
        · rintro (a | a | a)
          · exact .inr (.inl a)
          · exact .inl a
          · exact .inr (.inr a)
        · rintro (a | a | a)
          · exact .inr (.inl a)
          · exact .inl a
          · exact .inr (.inr a)
    · have hxy : x < y := by grind
      rw [ins_cons_ge o h hp.1]
      refine ⟨List.pairwise_cons.mpr ⟨fun z hz => ?_, List.pairwise_cons.mpr hp⟩, fun z => List.mem_cons⟩
      rcases List.mem_cons.mp hz with e | hz
      · rw [e]; exact hxy
      · have := hp.1 z hz; grind
theorem sort_ok : ∀ (xs o : List Rat), o.Pairwise (· < ·) → xs.Nodup → (∀ x ∈ xs, x ∉ o) → (xs.foldl ins o).Pairwise (· < ·) ∧ ∀ z, z ∈ xs.foldl ins o ↔ (z ∈ xs ∨ z ∈ o)
  | [], o, hp, _, _ => ⟨hp, fun z => by simp⟩
  | x :: xs, o, hp, hn, hd => by
    rw [List.nodup_cons] at hn
    obtain ⟨h1, h2⟩ := ins_ok x o hp (hd x List.mem_cons_self)
    obtain ⟨h3, h4⟩ := sort_ok xs (ins o x) h1 hn.2 fun y hy hm => by
      rcases (h2 y).mp hm with e | hm
      · exact hn.1 (e ▸ hy)
      · exact hd y (List.mem_cons_of_mem _ hy) hm
    refine ⟨h3, fun z => ?_⟩
    rw [List.foldl_cons, h4, h2, List.mem_cons]
    constructor
    · rintro (a | a | a)
      · exact .inl (.inr a)
      · exact .inl (.inl a)
      · exact .inr a
    · rintro ((a | a) | a)
      · exact .inr (.inl a)
      · exact .inl a
      · exact .inr (.inr a)
theorem found_ok : ∀ (cs : List (Int × Int)) (f : List Rat), f.Nodup → (cs.foldl addPt f).Nodup ∧ ∀ z, z ∈ cs.foldl addPt f ↔ (z ∈ f ∨ ∃ c ∈ cs, c.2 ≠ 0 ∧ 0 < z ∧ z < 1 ∧ z = turnP c)
  | [], f, hn => ⟨hn, fun z => by simp⟩
  | c :: cs, f, hn => by
    have h1 : (addPt f c).Nodup ∧ ∀ z, z ∈ addPt f c ↔ (z ∈ f ∨ (c.2 ≠ 0 ∧ 0 < z ∧ z < 1 ∧ z = turnP c)) := by
      unfold addPt
      by_cases h : c.2 ≠ 0 ∧ 0 < turnP c ∧ turnP c < 1 ∧ turnP c ∉ f
      · rw [if_pos h]
        refine ⟨?_, fun z => ?_⟩
        · rw [List.nodup_append]
          refine ⟨hn, by simp, fun a ha b hb e => ?_⟩
          rw [List.mem_singleton] at hb
          exact h.2.2.2 (by rw [← hb, ← e]; exact ha)
        · rw [List.mem_append, List.mem_singleton]
          constructor
          · rintro (a | a)
            · exact .inl a
            · exact .inr ⟨h.1, a ▸ h.2.1, a ▸ h.2.2.1, a⟩
          · rintro (a | a)
            · exact .inl a
            · exact .inr a.2.2.2
      · rw [if_neg h]
        refine ⟨hn, fun z => ⟨.inl, ?_⟩⟩
        rintro (a | ⟨a, b, d, e⟩)
        · exact a
        · subst e
          exact Classical.byContradiction fun hc => h ⟨a, b, d, hc⟩
    obtain ⟨h3, h4⟩ := found_ok cs (addPt f c) h1.1
    refine ⟨h3, fun z => ?_⟩
    rw [List.foldl_cons, h4, h1.2]
    constructor
    · rintro ((a | a) | ⟨d, hd, a⟩)
      · exact .inl a
      · exact .inr ⟨c, List.mem_cons_self, a⟩
      · exact .inr ⟨d, List.mem_cons_of_mem _ hd, a⟩
    · rintro (a | ⟨d, hd, a⟩)
      · exact .inl (.inl a)
      · rcases List.mem_cons.mp hd with e | hd
        · exact .inl (.inr (e ▸ a))
        · exact .inr ⟨d, hd, a⟩
theorem pts_ok (cs : List (Int × Int)) : (pts cs).Pairwise (· < ·) ∧ ∀ z, z ∈ pts cs ↔ (z = 0 ∨ z = 1 ∨ ∃ c ∈ cs, c.2 ≠ 0 ∧ 0 < z ∧ z < 1 ∧ z = turnP c) := by
  have h01 : ([0, 1] : List Rat).Nodup := by decide
  obtain ⟨h1, h2⟩ := found_ok cs [0, 1] h01
  obtain ⟨h3, h4⟩ := sort_ok (found cs) [] .nil h1 (fun x _ h => nomatch h)
  refine ⟨h3, fun z => ?_⟩
  unfold pts
  rw [h4]
  unfold found
  rw [h2]
  simp [or_assoc]
theorem filter_range (i j : Nat) : ∀ N : Nat, ((List.range N).filter fun k => decide (i ≤ k ∧ k < j)) = List.range' i (min j N - i)
  | 0 => by simp
  | N + 1 => by
    rw [List.range_succ, List.filter_append, filter_range i j N]
    by_cases h : i ≤ N ∧ N < j
    · rw [List.filter_cons, if_pos (decide_eq_true h), List.filter_nil, show min j (N + 1) - i = (min j N - i) + 1 by omega, List.range'_1_concat, show i + (min j N - i) = N by omega]
    · rw [List.filter_cons, if_neg (by rw [decide_eq_true_iff]; exact h), List.filter_nil, List.append_nil, show min j (N + 1) - i = min j N - i by omega]
def whole : Sx := ⟨0, true, 1, true⟩
theorem in_whole (m : Rat) : InS whole m ↔ (0 ≤ m ∧ m ≤ 1) := by
  unfold InS whole
  constructor
  · rintro (h | h | h) <;> grind
  · intro h
    by_cases h0 : m = 0
    · exact .inr (.inl ⟨h0, rfl⟩)
    · by_cases h1 : m = 1
      · exact .inr (.inr ⟨h1, rfl⟩)
      · exact .inl (by grind)
theorem sorted_lt {P : List Rat} (h : P.Pairwise (· < ·)) {a b : Nat} (hb : b < P.length) (hab : a < b) : P[a]'(by omega) < P[b] :=
  List.pairwise_iff_getElem.mp h a b (by omega) hb hab
theorem sorted_le {P : List Rat} (h : P.Pairwise (· < ·)) {a b : Nat} (hb : b < P.length) (hab : a ≤ b) : P[a]'(by omega) ≤ P[b] := by
  by_cases e : a = b
  · subst e; exact Rat.le_refl
  · have := sorted_lt h hb (show a < b by omega); grind
theorem law_prog (cs : List (Int × Int)) : lawS cs = narS whole cs := by
  obtain ⟨hs, hm⟩ := pts_ok cs
  have h01 : whole.lo < whole.hi := by decide
  have hP : ∀ z ∈ pts cs, 0 ≤ z ∧ z ≤ 1 := fun z hz => by
    rcases (hm z).mp hz with e | e | ⟨c, _, _, e⟩ <;> grind
  have hgood : ∀ k, (hk : k + 1 < (pts cs).length) → goodK cs (pts cs) k = cs.all fun c => holdsZ c (mid ((pts cs)[k]'(by omega)) (pts cs)[k + 1]) := fun k hk => by
    unfold goodK
    rw [List.getElem?_eq_getElem (show k < (pts cs).length by omega), List.getElem?_eq_getElem hk]
  have hmid : ∀ k, (hk : k + 1 < (pts cs).length) → (pts cs)[k]'(by omega) < mid ((pts cs)[k]'(by omega)) (pts cs)[k + 1] ∧ mid ((pts cs)[k]'(by omega)) (pts cs)[k + 1] < (pts cs)[k + 1] :=
    fun k hk => mid_lt (sorted_lt hs hk (by omega))
  have hin : ∀ k, (hk : k + 1 < (pts cs).length) → InS whole (mid ((pts cs)[k]'(by omega)) (pts cs)[k + 1]) := fun k hk => by
    have a := hmid k hk
    have b := hP _ (List.getElem_mem (show k < (pts cs).length by omega))
    have c := hP _ (List.getElem_mem hk)
    rw [in_whole]
    grind
  cases hn : narS whole cs with
  | none =>
    have hf : (List.range ((pts cs).length - 1)).filter (goodK cs (pts cs)) = [] := by
      rw [List.filter_eq_nil_iff]
      intro k hk
      have hk := List.mem_range.mp hk
      rw [hgood k (by omega), narS_none cs whole h01 hn _ (hin k (by omega))]
      exact Bool.false_ne_true
    unfold lawS
    rw [hf]
  | some t =>
    obtain ⟨b1, b2, b3, b4, b5, b6⟩ := narS_some cs whole t h01 hn
    have b2' : 0 ≤ t.lo := b2
    have b3' : t.hi ≤ 1 := b3
    have m1 : t.lo ∈ pts cs := (hm _).mpr (by
      by_cases e : t.lo = 0
      · exact .inl e
      · rcases b4 with b4 | ⟨c, hc, h0, b4⟩
        · exact absurd b4 e
        · exact .inr (.inr ⟨c, hc, h0, by grind, by grind, b4⟩))
    have m2 : t.hi ∈ pts cs := (hm _).mpr (by
      by_cases e : t.hi = 1
      · exact .inr (.inl e)
      · rcases b5 with b4 | ⟨c, hc, h0, b4⟩
        · exact absurd b4 e
        · exact .inr (.inr ⟨c, hc, h0, by grind, by grind, b4⟩))
    obtain ⟨i, hi, ei⟩ := List.mem_iff_getElem.mp m1
    obtain ⟨j, hj, ej⟩ := List.mem_iff_getElem.mp m2
    have hij : i < j := by
      refine Classical.byContradiction fun hc => ?_
      have := sorted_le hs hi (show j ≤ i by omega)
      grind
    have hgk : ∀ k, k < (pts cs).length - 1 → goodK cs (pts cs) k = decide (i ≤ k ∧ k < j) := fun k hk => by
      have hk1 : k + 1 < (pts cs).length := by omega
      have a := hmid k hk1
      have key : InS t (mid ((pts cs)[k]'(by omega)) (pts cs)[k + 1]) ↔ (i ≤ k ∧ k < j) := by
        constructor
        · intro h
          refine ⟨?_, ?_⟩
          · refine Classical.byContradiction fun hc => ?_
            have := sorted_le hs hi (show k + 1 ≤ i by omega)
            rcases h with h | h | h <;> grind
          · refine Classical.byContradiction fun hc => ?_
            have := sorted_le hs (show k < (pts cs).length by omega) (show j ≤ k by omega)
            rcases h with h | h | h <;> grind
        · rintro ⟨h1, h2⟩
          have c1 := sorted_le hs (show k < (pts cs).length by omega) h1
          have c2 := sorted_le hs hj (show k + 1 ≤ j by omega)
          exact .inl ⟨by grind, by grind⟩
      rw [hgood k hk1, Bool.eq_iff_iff, decide_eq_true_iff, ← key, b6]
      exact ⟨fun h => ⟨hin k hk1, h⟩, fun h => h.2⟩
    have hf : (List.range ((pts cs).length - 1)).filter (goodK cs (pts cs)) = i :: List.range' (i + 1) (j - i - 1) := by
      rw [List.filter_congr (q := fun k => decide (i ≤ k ∧ k < j)) fun k hk => hgk k (List.mem_range.mp hk), filter_range, show min j ((pts cs).length - 1) - i = (j - i - 1) + 1 by omega]
      rfl
    have hlast : (i :: List.range' (i + 1) (j - i - 1)).getLast (List.cons_ne_nil _ _) = j - 1 := by
      rw [List.getLast_eq_getElem]
      have : ∀ (L : List Nat) (e : L = List.range' i (j - i - 1 + 1)) (h : L.length - 1 < L.length), L[L.length - 1] = j - 1 := by
        intro L e h
        subst e
        simp
        omega
      exact this _ rfl _
    have inlo : InS whole t.lo := (in_whole _).mpr (by grind)
    have inhi : InS whole t.hi := (in_whole _).mpr (by grind)
    have q1 : (cs.all fun c => holdsZ c t.lo) = t.li := by
      rw [Bool.eq_iff_iff]
      constructor
      · intro h
        rcases (b6 t.lo).mpr ⟨inlo, h⟩ with z | z | z
        · grind
        · exact z.2
        · grind
      · intro h
        exact ((b6 t.lo).mp (.inr (.inl ⟨rfl, h⟩))).2
    have q2 : (cs.all fun c => holdsZ c t.hi) = t.hin := by
      rw [Bool.eq_iff_iff]
      constructor
      · intro h
        rcases (b6 t.hi).mpr ⟨inhi, h⟩ with z | z | z
        · grind
        · grind
        · exact z.2
      · intro h
        exact ((b6 t.hi).mp (.inr (.inr ⟨rfl, h⟩))).2
    have e1 : (pts cs)[i]? = some t.lo := by rw [List.getElem?_eq_getElem hi, ei]
    have e2 : (pts cs)[j - 1 + 1]? = some t.hi := by rw [show j - 1 + 1 = j by omega, List.getElem?_eq_getElem hj, ej]
    unfold lawS
    rw [hf]
    show (match (pts cs)[i]?, (pts cs)[(i :: List.range' (i + 1) (j - i - 1)).getLast (List.cons_ne_nil _ _) + 1]? with
      | some a, some b => some (Sx.mk a (cs.all fun c => holdsZ c a) b (cs.all fun c => holdsZ c b))
      | _, _ => none) = _
    rw [hlast, e1, e2]
    show some (Sx.mk t.lo (cs.all fun c => holdsZ c t.lo) t.hi (cs.all fun c => holdsZ c t.hi)) = _
    rw [q1, q2]
theorem all_mid (cs : List (Int × Int)) (t : Sx) (h : narS whole cs = some t) : (cs.all fun c => holdsZ c (mid t.lo t.hi)) = true := by
  obtain ⟨b1, b2, b3, b4, b5, b6⟩ := narS_some cs whole t (by decide) h
  exact ((b6 _).mp (.inl (mid_lt b1))).2
end W
end

section
set_option Elab.async false
set_option linter.all false
set_option maxRecDepth 100000
set_option maxHeartbeats 1000000
namespace W
open PySem PySem.Spec PyProof.Rows L2 DL
/-! ### the program's stretch -/
theorem nar_small (s : Sx) (c : Int × Int) (hs : SmS s) (hc : SmC c) (t : Sx) (e : nar s c = some t) : SmS t := by
  have ht : c.2 ≠ 0 → (Rat.divInt (-c.1) c.2).den ≤ 99999 := fun h => turn_den hc h
  unfold nar at e
  by_cases h0 : c.2 = 0
  · rw [if_pos h0] at e
    split at e
    · cases e; exact hs
    · cases e
  · rw [if_neg h0] at e
    have ht := ht h0
    split at e
    · split at e
      · split at e
        · cases e; exact hs
        · cases e
      · split at e
        · cases e; exact ⟨ht, hs.2⟩
        · cases e
    · split at e
      · split at e
        · cases e; exact hs
        · cases e
      · split at e
        · cases e; exact ⟨hs.1, ht⟩
        · cases e
theorem narS_small : ∀ (cs : List (Int × Int)) (s : Sx), SmS s → (∀ c ∈ cs, SmC c) → ∀ t, narS s cs = some t → SmS t
  | [], s, hs, _, t, e => by cases e; exact hs
  | c :: cs, s, hs, hc, t, e => by
    unfold narS at e
    cases hn : nar s c with
    | none => rw [hn] at e; cases e
    | some u =>
      rw [hn] at e
      exact narS_small cs u (nar_small s c hs (hc c List.mem_cons_self) u hn) (fun d hd => hc d (List.mem_cons_of_mem _ hd)) t e
theorem str_loop (ds0 : List D) (x : Option D) (st : Sto) : ∀ (cs : List (Int × Int)) (s : Sx) (y2 : Option D), SmS s → (∀ c ∈ cs, SmC c) →
    (narS s cs = none → ∃ ρ', loopG (.seq ds0) (nName 2) (gSeq (gSet 1 (dCall F_narrowed [] (dCons (dVar 1) (dCons (dVar 2) dNil)))) (gIf (dB (dBin oIsN (dVar 1) (dC .non))) (gRet (dC .non)) gNext))
      (cs.map encC) [x, some (encS s), y2] st = some (.rt .non, ρ', st)) ∧
    (∀ t, narS s cs = some t → ∃ y2', loopG (.seq ds0) (nName 2) (gSeq (gSet 1 (dCall F_narrowed [] (dCons (dVar 1) (dCons (dVar 2) dNil)))) (gIf (dB (dBin oIsN (dVar 1) (dC .non))) (gRet (dC .non)) gNext))
      (cs.map encC) [x, some (encS s), y2] st = some (.nx, [x, some (encS t), y2'], st))
  | [], s, y2, hs, hc => ⟨fun e => (by cases e), fun t e => (by cases e; exact ⟨y2, rfl⟩)⟩
  | c :: cs, s, y2, hs, hc => by
    have f := f_narrowed s c st (hc c List.mem_cons_self) hs
    cases hn : nar s c with
    | none =>
      rw [hn] at f
      refine ⟨fun _ => ⟨[x, some .non, some (encC c)], ?_⟩, fun t e => ?_⟩
      · exact loop_rt (ρ1 := [x, some (encS s), some (encC c)]) (ρ2 := [x, some .non, some (encC c)]) rfl (by simp [f, encO])
      · unfold narS at e
        rw [hn] at e
        cases e
    | some u =>
      rw [hn] at f
      have ih := str_loop ds0 x st cs u (some (encC c)) (nar_small s c hs (hc c List.mem_cons_self) u hn) (fun d hd => hc d (List.mem_cons_of_mem _ hd))
      have hu : isNonD (encS u) = false := rfl
      have e1 : narS s (c :: cs) = narS u cs := by
        show (match nar s c with | none => none | some t => narS t cs) = _
        rw [hn]
      have tu : loopG (.seq ds0) (nName 2) (gSeq (gSet 1 (dCall F_narrowed [] (dCons (dVar 1) (dCons (dVar 2) dNil)))) (gIf (dB (dBin oIsN (dVar 1) (dC .non))) (gRet (dC .non)) gNext))
          ((c :: cs).map encC) [x, some (encS s), y2] st = loopG (.seq ds0) (nName 2) (gSeq (gSet 1 (dCall F_narrowed [] (dCons (dVar 1) (dCons (dVar 2) dNil)))) (gIf (dB (dBin oIsN (dVar 1) (dC .non))) (gRet (dC .non)) gNext))
          (cs.map encC) [x, some (encS u), some (encC c)] st :=
        loop_nx (ρ1 := [x, some (encS s), some (encC c)]) (ρ2 := [x, some (encS u), some (encC c)]) rfl (by simp [f, encO, hu]) (same_self _ _)
      rw [e1, tu]
      exact ih
theorem whole_const : C_WHOLE_MOVE = encS whole := by
  unfold C_WHOLE_MOVE encS whole
  rw [enc0, enc1]
theorem f_stretch (cs : List (Int × Int)) (st : Sto) (hc : ∀ c ∈ cs, SmC c) : F_stretch [.tup (cs.map encC)] st = some (encO (narS whole cs), st) := by
  have h := str_loop (cs.map encC) (some (.tup (cs.map encC))) st cs whole none ⟨by decide, by decide⟩ hc
  unfold F_stretch G_stretch
  cases hn : narS whole cs with
  | none =>
    obtain ⟨ρ', h⟩ := h.1 hn
    refine fn_same (ρ := ρ') ?_
    refine step (ρ1 := [some (.tup (cs.map encC)), some (encS whole), none]) (st1 := st) (by simp [whole_const]) ?_
    exact step_rt (for_tup rfl h)
  | some t =>
    obtain ⟨y, h⟩ := h.2 t hn
    refine fn_same (ρ := [some (.tup (cs.map encC)), some (encS t), y]) ?_
    refine step (ρ1 := [some (.tup (cs.map encC)), some (encS whole), none]) (st1 := st) (by simp [whole_const]) ?_
    refine step (for_tup rfl h) ?_
    simp [encO]
theorem f_excludes (a b : Int × Int) (st : Sto) (ha : SmC a) (hb : SmC b) : F_excludes [encC a, encC b] st = some (.bl (narS whole [a, b]).isNone, st) := by
  have h := f_stretch [a, b] st (by simp [ha, hb])
  simp only [List.map_cons, List.map_nil] at h
  unfold F_excludes
  refine fn_same (ρ := [some (encC a), some (encC b)]) ?_
  unfold G_excludes
  simp [h]
  cases narS whole [a, b] <;> rfl
theorem f_middle_moment (s : Sx) (st : Sto) (hs : SmS s) : F_middle_moment [encS s] st = some (encR (mid s.lo s.hi), st) := by
  have h := f_middle s.lo s.hi st (by have := hs.1; omega) (by have := hs.2; omega)
  unfold F_middle_moment
  refine fn_same (ρ := [some (encS s)]) ?_
  unfold G_middle_moment
  simp [encS, h]
theorem f_condition (ts : List Int) (r : Sto) : ∃ (c : Int × Int) (ts' : List Int), F_n_law_condition [.ref 0] (tp ts :: r) = some (encC c, tp ts' :: r) ∧ SmC c := by
  obtain ⟨v, ts1, e1, a1, a2⟩ := f_next 3 (by decide) ts r
  unfold F_n_law_condition
  by_cases hv : v = 2
  · subst hv
    obtain ⟨p, ts2, e2, b1, b2⟩ := f_edge (-99999) 99999 (by decide) ts1 r
    obtain ⟨q, ts3, e3, c1, c2⟩ := f_edge (-99999) 99999 (by decide) ts2 r
    refine ⟨(p, q), ts3, ?_, ⟨by simp only; omega, by simp only; omega⟩⟩
    refine fn_len (ρ := [some (.ref 0), some (.int p)]) ?_ (by simp)
    unfold G_n_law_condition
    simp [e1, e2, e3, encC]
  · obtain ⟨p, ts2, e2, b1, b2⟩ := f_next 9 (by decide) ts1 r
    obtain ⟨q, ts3, e3, c1, c2⟩ := f_next 9 (by decide) ts2 r
    refine ⟨(p - 4, q - 4), ts3, ?_, ⟨by simp only; omega, by simp only; omega⟩⟩
    refine fn_len (ρ := [some (.ref 0), some (.int (p - 4))]) ?_ (by simp)
    unfold G_n_law_condition
    simp [e1, e2, e3, encC, hv]
theorem f_moment (ts : List Int) (r : Sto) : ∃ (m : Rat) (ts' : List Int), F_n_law_moment [.ref 0] (tp ts :: r) = some (encR m, tp ts' :: r) := by
  obtain ⟨v, ts1, e1, a1, a2⟩ := f_next 9 (by decide) ts r
  obtain ⟨q, ts2, e2, b1, b2⟩ := f_next (1 + v + 1) (by omega) ts1 r
  have e3 := f_lowest q (1 + v) (tp ts2 :: r) (by omega) (by omega)
  refine ⟨Rat.divInt q (1 + v), ts2, ?_⟩
  unfold F_n_law_moment
  refine fn_len (ρ := [some (.ref 0), some (.int (1 + v))]) ?_ (by simp)
  unfold G_n_law_moment
  simp [e1, e2, e3]
theorem ok_encO (o : Option Sx) : okD 8 (encO o) = true := by
  cases o with
  | none => rfl
  | some s => rfl
theorem ok_encR (r : Rat) : okD 8 (encR r) = true := rfl
theorem f_stretch_right (cs : List (Int × Int)) (n : Nat) (st : Sto) (hn : st[n]? = some (.lst (cs.map encC))) (hs : ∀ c ∈ cs, SmC c) (hl : cs.length ≤ 100) : F_n_law_stretch_right [.ref n] st = some (.bl true, st) := by
  have h1 := f_law_stretch cs n st hn hs hl
  rw [law_prog] at h1
  have h2 := f_stretch cs st hs
  have h3 := same_refl 8 (encO (narS whole cs)) st (ok_encO _)
  unfold F_n_law_stretch_right
  cases hw : narS whole cs with
  | none =>
    rw [hw] at h1 h2 h3
    refine fn_same (ρ := [some (.ref n), some .non, none]) ?_
    unfold G_n_law_stretch_right
    simp only [encO] at h1 h2 h3
    simp [h1, hn, h2, h3]
  | some t =>
    rw [hw] at h1 h2 h3
    have hsm := narS_small cs whole ⟨by decide, by decide⟩ hs t hw
    have h4 := f_between t.lo t.hi st (by have := hsm.1; omega) (by have := hsm.2; omega)
    have h5 := f_middle_moment t st hsm
    have h6 := same_refl 8 (encR (mid t.lo t.hi)) st (ok_encR _)
    have h7 := f_all_hold cs (mid t.lo t.hi) n st hn hs
    rw [all_mid cs t hw] at h7
    have i0 : isNonD (encS t) = false := rfl
    refine fn_same (ρ := [some (.ref n), some (encS t), some (encR (mid t.lo t.hi))]) ?_
    unfold G_n_law_stretch_right
    simp only [encO] at h1 h2 h3
    refine step (ρ1 := [some (.ref n), some (encS t), none]) (st1 := st) (by simp [h1]) ?_
    refine step (ρ1 := [some (.ref n), some (encS t), none]) (st1 := st) (by simp [hn, h2, h3]) ?_
    refine step (ρ1 := [some (.ref n), some (encS t), none]) (st1 := st) (by simp [i0]) ?_
    refine step (ρ1 := [some (.ref n), some (encS t), some (encR (mid t.lo t.hi))]) (st1 := st) (by simp [encS, h4]) ?_
    simp [h5, h6, h7]
end W
end

section
set_option Elab.async false
set_option linter.all false
set_option maxRecDepth 100000
set_option maxHeartbeats 1000000
namespace W
open PySem PySem.Spec PyProof.Rows L2 DL
theorem loop_st {src : Src} {n : D → DEnv → Option DEnv} {g : DG} (Inv : DEnv → Sto → Prop) (ds : List D) (ρ : DEnv) (st : Sto) (h0 : Inv ρ st)
    (hs : ∀ d ∈ ds, ∀ ρ st, Inv ρ st → ∃ ρ1 ρ2 st2, n d ρ = some ρ1 ∧ g ρ1 st = some (.nx, ρ2, st2) ∧ sameSrc src st st2 = true ∧ Inv ρ2 st2) :
    ∃ ρ' st', loopG src n g ds ρ st = some (.nx, ρ', st') ∧ Inv ρ' st' :=
  loop_inv (fun _ => Inv) ds [] ρ st h0 fun _ d _ ρ st _ hi hd => hs d hd ρ st hi
theorem same_app {k : Nat} {st T : Sto} (h : k < st.length) : sameSrc (.cell k) st (st ++ T) = true := by
  show @decide _ (Classical.propDecidable _) = true
  rw [@decide_eq_true_iff _ (Classical.propDecidable _)]
  exact List.getElem?_append_left h
theorem enc_list {α : Type} (f : α → D) (p : α → Prop) : ∀ vs : List D, (∀ v ∈ vs, ∃ a, v = f a ∧ p a) → ∃ as : List α, vs = as.map f ∧ ∀ a ∈ as, p a
  | [], _ => ⟨[], rfl, fun _ h => nomatch h⟩
  | v :: vs, h => by
    obtain ⟨a, ha, pa⟩ := h v List.mem_cons_self
    obtain ⟨as, hv, hp⟩ := enc_list f p vs fun w hw => h w (List.mem_cons_of_mem _ hw)
    exact ⟨a :: as, by rw [ha, hv]; rfl, fun b hb => (List.mem_cons.mp hb).elim (fun e => e ▸ pa) (hp b)⟩
/-! ### the law -/
def InvL (x : Option D) (v : Int) (B : Sto) (ρ : DEnv) (st : Sto) : Prop := ∃ (y5 y6 y7 y8 y9 : Option D) (T : Sto), ρ = [x, some (.ref 0), some (.int v), some (.ref 1), some (.ref 4), y5, y6, y7, y8, y9] ∧ st = B ++ T
theorem law_true (ns : List Int) (_h : ns.length ≤ 63) : ∃ st', F_law [.fz (ns.map D.int)] [] = some (.bl true, st') := by
  obtain ⟨x, hx⟩ : ∃ x, x = some (D.fz (ns.map D.int)) := ⟨_, rfl⟩
  obtain ⟨ts0, e0⟩ := f_tape ns []
  obtain ⟨v, ts1, e1, v0, v7⟩ := f_next 7 (by decide) ts0 []
  obtain ⟨k, hk⟩ : ∃ k : Nat, v = k := ⟨v.toNat, by omega⟩
  have rk : RngOk v := by rw [hk]; exact rng_ok (by omega)
  have tn : v.toNat = k := by omega
  -- the conditions
  obtain ⟨vs, s1, c1, ⟨ts2, rfl⟩, c3, c4⟩ := lc_thread (src := .seq (rngD 0 k)) (n := nName 7) (el := dCall F_n_law_condition [] (dCons (dVar 1) dNil)) (ρ := [x, some (.ref 0), some (.int v), none, none, none, none, none, none, none])
    (fun s => ∃ ts, s = tp ts :: []) (fun w => ∃ c, w = encC c ∧ SmC c) (rngD 0 k) [tp ts1] ⟨ts1, rfl⟩ (fun d hd s hs => by
      obtain ⟨ts, rfl⟩ := hs
      obtain ⟨c, ts', h, hc⟩ := f_condition ts []
      exact ⟨_, encC c, tp ts' :: [], rfl, by simp [h], rfl, ⟨ts', rfl⟩, c, rfl, hc⟩)
  obtain ⟨cs, rfl, hcs⟩ := enc_list encC SmC vs c4
  rw [List.length_map, rng_len] at c3
  have lcs : cs.length ≤ 16777216 := by omega
  -- the moments
  obtain ⟨ws, s2, m1, ⟨ts3, rfl⟩, m3, m4⟩ := lc_thread (src := .seq (rngD 0 4)) (n := nName 7) (el := dCall F_n_law_moment [] (dCons (dVar 1) dNil)) (ρ := [x, some (.ref 0), some (.int v), some (.ref 1), none, none, none, none, none, none])
    (fun s => ∃ ts, s = tp ts :: [.lst (cs.map encC), .lst [encR 0, encR 1]]) (fun w => ∃ m, w = encR m ∧ True) (rngD 0 4) (tp ts2 :: [.lst (cs.map encC), .lst [encR 0, encR 1]]) ⟨ts2, rfl⟩ (fun d hd s hs => by
      obtain ⟨ts, rfl⟩ := hs
      obtain ⟨m, ts', h⟩ := f_moment ts [.lst (cs.map encC), .lst [encR 0, encR 1]]
      exact ⟨_, encR m, tp ts' :: [.lst (cs.map encC), .lst [encR 0, encR 1]], rfl, by simp [h], rfl, ⟨ts', rfl⟩, m, rfl, trivial⟩)
  obtain ⟨ms, rfl, _⟩ := enc_list encR (fun _ => True) ws m4
  rw [List.length_map, rng_len] at m3
  obtain ⟨M, hM⟩ : ∃ M : List Rat, M = [0, 1] ++ ms := ⟨_, rfl⟩
  obtain ⟨B, hB⟩ : ∃ B : Sto, B = [tp ts3, .lst (cs.map encC), .lst [encR 0, encR 1], .lst (ms.map encR), .lst (M.map encR)] := ⟨_, rfl⟩
  have B1 : ∀ T : Sto, (B ++ T)[1]? = some (.lst (cs.map encC)) := fun T => by rw [hB]; rfl
  have B4 : ∀ T : Sto, (B ++ T)[4]? = some (.lst (M.map encR)) := fun T => by rw [hB]; rfl
  have lB : ∀ T : Sto, 5 ≤ (B ++ T).length := fun T => by rw [hB, List.length_append]; simp only [List.length_cons, List.length_nil]; omega
  -- each condition at each moment
  have L1 : ∀ ρ st, InvL x v B ρ st → ∃ ρ' st', loopG (.cell 1) (nName 5) (gFor (srcOf (dVar 4)) (nName 6) (gIf (dNotT (dTr (dCall (F_n_law_same 8) [] (dCons (dCall F_holds_at [] (dCons (dVar 5) (dCons (dVar 6) dNil))) (dCons (dCall F_n_law_all_hold [] (dCons (dLst (dCons (dVar 5) dNil)) (dCons (dVar 6) dNil))) dNil))))) (gRet (dC (.bl false))) gNext))
      (cs.map encC) ρ st = some (.nx, ρ', st') ∧ InvL x v B ρ' st' := fun ρ st h0 => loop_st (InvL x v B) _ ρ st h0 fun d hd ρ st hi => by
    obtain ⟨c, hc, rfl⟩ := List.mem_map.mp hd
    obtain ⟨y5, y6, y7, y8, y9, T, rfl, rfl⟩ := hi
    obtain ⟨ρ', st', g1, z6, T', rfl, rfl⟩ := loop_st (src := .cell 4) (n := nName 6) (g := gIf (dNotT (dTr (dCall (F_n_law_same 8) [] (dCons (dCall F_holds_at [] (dCons (dVar 5) (dCons (dVar 6) dNil))) (dCons (dCall F_n_law_all_hold [] (dCons (dLst (dCons (dVar 5) dNil)) (dCons (dVar 6) dNil))) dNil))))) (gRet (dC (.bl false))) gNext)
      (fun ρ st => ∃ (z6 : Option D) (T' : Sto), ρ = [x, some (.ref 0), some (.int v), some (.ref 1), some (.ref 4), some (encC c), z6, y7, y8, y9] ∧ st = (B ++ T) ++ T') (M.map encR)
      [x, some (.ref 0), some (.int v), some (.ref 1), some (.ref 4), some (encC c), y6, y7, y8, y9] (B ++ T) ⟨y6, [], rfl, (List.append_nil _).symm⟩ fun d hd ρ st hi => by
        obtain ⟨m, hm, rfl⟩ := List.mem_map.mp hd
        obtain ⟨z6, T', rfl, rfl⟩ := hi
        obtain ⟨S, hS⟩ : ∃ S : Sto, S = (B ++ T) ++ T' := ⟨_, rfl⟩
        rw [← hS]
        have q1 := f_holds c m S (hcs c hc)
        have q2 := f_all_hold [c] m S.length (S ++ [.lst [encC c]]) (by simp) (fun d hd => by rw [List.mem_singleton.mp hd]; exact hcs c hc)
        have q3 := same_refl 8 (.bl (holdsZ c m)) (S ++ [.lst [encC c]]) rfl
        have q4 : ([c].all fun c => holdsZ c m) = holdsZ c m := by simp
        rw [q4] at q2
        refine ⟨_, [x, some (.ref 0), some (.int v), some (.ref 1), some (.ref 4), some (encC c), some (encR m), y7, y8, y9], S ++ [.lst [encC c]], rfl, ?_, same_app (by rw [hS, List.append_assoc]; have := lB (T ++ T'); omega), some (encR m), T' ++ [.lst [encC c]], rfl, by rw [hS, List.append_assoc]⟩
        simp [q1, q2, q3]
    refine ⟨[x, some (.ref 0), some (.int v), some (.ref 1), some (.ref 4), some (encC c), y6, y7, y8, y9], _, _, rfl, for_cell rfl (B4 T) g1, same_app (by have := lB T; omega), some (encC c), z6, y7, y8, y9, T ++ T', rfl, by rw [List.append_assoc]⟩
  -- the first conditions
  have L2 : ∀ ρ st, InvL x v B ρ st → ∃ ρ' st', loopG (.seq (rngD 0 (k + 1))) (nName 7) (gIf (dNotT (dTr (dCall F_n_law_stretch_right [] (dCons (dSl (dVar 3) oNo (oPart (dVar 7))) dNil)))) (gRet (dC (.bl false))) gNext)
      (rngD 0 (k + 1)) ρ st = some (.nx, ρ', st') ∧ InvL x v B ρ' st' := fun ρ st h0 => loop_st (InvL x v B) _ ρ st h0 fun d hd ρ st hi => by
    obtain ⟨i, hi', rfl⟩ := mem_rng hd
    obtain ⟨y5, y6, y7, y8, y9, T, rfl, rfl⟩ := hi
    have q0 : ((B ++ T) ++ [.lst ((cs.take i).map encC)])[(B ++ T).length]? = some (.lst ((cs.take i).map encC)) := by simp
    have q1 := f_stretch_right (cs.take i) (B ++ T).length ((B ++ T) ++ [.lst ((cs.take i).map encC)]) q0 (fun c hc => hcs c (List.mem_of_mem_take hc)) (by rw [List.length_take]; omega)
    have q2 : oSl none (some (0 + (i : Int))) (.ref 1) (B ++ T) = some (.ref (B ++ T).length, (B ++ T) ++ [.lst ((cs.take i).map encC)]) := by
      rw [sl_ref', B1 T, Int.zero_add]
      simp only [cut_to, List.map_take]
    obtain ⟨S, hS⟩ : ∃ S : Sto, S = B ++ T := ⟨_, rfl⟩
    refine ⟨[x, some (.ref 0), some (.int v), some (.ref 1), some (.ref 4), y5, y6, some (.int (0 + (i : Int))), y8, y9], [x, some (.ref 0), some (.int v), some (.ref 1), some (.ref 4), y5, y6, some (.int (0 + (i : Int))), y8, y9], (B ++ T) ++ [.lst ((cs.take i).map encC)], rfl, ?_, rfl, y5, y6, _, y8, y9, T ++ [.lst ((cs.take i).map encC)], rfl, by rw [List.append_assoc]⟩
    rw [← hS] at q1 q2 ⊢
    have t1 : (dSl (dVar 3) oNo (oPart (dVar 7))) [x, some (.ref 0), some (.int v), some (.ref 1), some (.ref 4), y5, y6, some (.int (0 + (i : Int))), y8, y9] S = some (.ref S.length, S ++ [.lst ((cs.take i).map encC)]) := q2
    have t2 : (dCall F_n_law_stretch_right [] (dCons (dSl (dVar 3) oNo (oPart (dVar 7))) dNil)) [x, some (.ref 0), some (.int v), some (.ref 1), some (.ref 4), y5, y6, some (.int (0 + (i : Int))), y8, y9] S = some (.bl true, S ++ [.lst ((cs.take i).map encC)]) := by
      rw [e_dCall, e_dCons, t1]
      exact q1
    rw [e_if, e_dNotT, e_dTr, t2]
    rfl
  -- each two conditions
  have L3 : ∀ ρ st, InvL x v B ρ st → ∃ ρ' st', loopG (.cell 1) (nName 8) (gFor (srcOf (dVar 3)) (nName 9) (gIf (dNotT (dTr (dCall (F_n_law_same 8) [] (dCons (dCall F_excludes [] (dCons (dVar 8) (dCons (dVar 9) dNil))) (dCons (dBin oIsN (dCall F_n_law_stretch [] (dCons (dLst (dCons (dVar 8) (dCons (dVar 9) dNil))) dNil)) (dC .non)) dNil))))) (gRet (dC (.bl false))) gNext))
      (cs.map encC) ρ st = some (.nx, ρ', st') ∧ InvL x v B ρ' st' := fun ρ st h0 => loop_st (InvL x v B) _ ρ st h0 fun d hd ρ st hi => by
    obtain ⟨c, hc, rfl⟩ := List.mem_map.mp hd
    obtain ⟨y5, y6, y7, y8, y9, T, rfl, rfl⟩ := hi
    obtain ⟨ρ', st', g1, z6, T', rfl, rfl⟩ := loop_st (src := .cell 1) (n := nName 9) (g := gIf (dNotT (dTr (dCall (F_n_law_same 8) [] (dCons (dCall F_excludes [] (dCons (dVar 8) (dCons (dVar 9) dNil))) (dCons (dBin oIsN (dCall F_n_law_stretch [] (dCons (dLst (dCons (dVar 8) (dCons (dVar 9) dNil))) dNil)) (dC .non)) dNil))))) (gRet (dC (.bl false))) gNext)
      (fun ρ st => ∃ (z6 : Option D) (T' : Sto), ρ = [x, some (.ref 0), some (.int v), some (.ref 1), some (.ref 4), y5, y6, y7, some (encC c), z6] ∧ st = (B ++ T) ++ T') (cs.map encC)
      [x, some (.ref 0), some (.int v), some (.ref 1), some (.ref 4), y5, y6, y7, some (encC c), y9] (B ++ T) ⟨y9, [], rfl, (List.append_nil _).symm⟩ fun d hd ρ st hi => by
        obtain ⟨m, hm, rfl⟩ := List.mem_map.mp hd
        obtain ⟨z6, T', rfl, rfl⟩ := hi
        obtain ⟨S, hS⟩ : ∃ S : Sto, S = (B ++ T) ++ T' := ⟨_, rfl⟩
        rw [← hS]
        have hcm : ∀ d ∈ [c, m], SmC d := fun d hd => by
          rcases List.mem_cons.mp hd with e | hd
          · rw [e]; exact hcs c hc
          · rw [List.mem_singleton.mp hd]; exact hcs m hm
        have q1 := f_excludes c m S (hcs c hc) (hcs m hm)
        have q2 := f_law_stretch [c, m] S.length (S ++ [.lst [encC c, encC m]]) (by simp) hcm (by simp)
        rw [law_prog] at q2
        have q3 := same_refl 8 (.bl (narS whole [c, m]).isNone) (S ++ [.lst [encC c, encC m]]) rfl
        have q5 : isNonD (encO (narS whole [c, m])) = (narS whole [c, m]).isNone := by cases narS whole [c, m] <;> rfl
        refine ⟨_, [x, some (.ref 0), some (.int v), some (.ref 1), some (.ref 4), y5, y6, y7, some (encC c), some (encC m)], S ++ [.lst [encC c, encC m]], rfl, ?_, same_app (by rw [hS, List.append_assoc]; have := lB (T ++ T'); omega), some (encC m), T' ++ [.lst [encC c, encC m]], rfl, by rw [hS, List.append_assoc]⟩
        simp [q1, q2, q3, q5]
    refine ⟨[x, some (.ref 0), some (.int v), some (.ref 1), some (.ref 4), y5, y6, y7, some (encC c), y9], _, _, rfl, for_cell rfl (B1 T) g1, same_app (by have := lB T; omega), y5, y6, y7, some (encC c), z6, T ++ T', rfl, by rw [List.append_assoc]⟩
  obtain ⟨ρ1, st1, l1, i1⟩ := L1 [x, some (.ref 0), some (.int v), some (.ref 1), some (.ref 4), none, none, none, none, none] B ⟨none, none, none, none, none, [], rfl, (List.append_nil _).symm⟩
  obtain ⟨ρ2, st2, l2, i2⟩ := L2 ρ1 st1 i1
  obtain ⟨ρ3, st3, l3, i3⟩ := L3 ρ2 st2 i2
  obtain ⟨a5, a6, a7, a8, a9, T1, r1, r2⟩ := i1
  obtain ⟨b5, b6, b7, b8, b9, T2, r3, r4⟩ := i2
  have whole_run : G_law (startD 10 [.fz (ns.map D.int)]) [] = some (.rt (.bl true), ρ3, st3) := by
    unfold G_law
    refine step (ρ1 := [x, some (.ref 0), none, none, none, none, none, none, none, none]) (st1 := [tp ts0]) (by simp [e0, hx]) ?_
    refine step (ρ1 := [x, some (.ref 0), some (.int v), none, none, none, none, none, none, none]) (st1 := [tp ts1]) (by simp [e1]) ?_
    refine step (ρ1 := [x, some (.ref 0), some (.int v), some (.ref 1), none, none, none, none, none, none]) (st1 := [tp ts2, .lst (cs.map encC)]) (by simp [rk, tn, c1, lcs]) ?_
    refine step (ρ1 := [x, some (.ref 0), some (.int v), some (.ref 1), some (.ref 4), none, none, none, none, none]) (st1 := B) ?_ ?_
    · have r4 : RngOk 4 := rngOk (by decide)
      have lm : ms.length ≤ 16777216 := by omega
      have lm2 : ms.length + 2 ≤ 16777216 := by omega
      rw [enc0, enc1] at m1
      simp [r4, m1, lm, hB, hM, enc0, enc1]
      try omega
    refine step (for_cell rfl (by have := B1 []; rw [List.append_nil] at this; exact this) l1) ?_
    have k1 : (srcRng1 (dCons (dBin oAdd (dVar 2) (dC (.int 1))) dNil)) ρ1 st1 = some (.seq (rngD 0 (k + 1)), st1) := by
      have rk1 : RngOk (v + 1) := by rw [hk]; exact rng_ok (n := k + 1) (by omega)
      have tn1 : (v + 1).toNat = k + 1 := by omega
      rw [r1]
      simp [rk1, tn1]
    refine step (e_for' k1 rfl l2) ?_
    refine step (for_cell (by rw [r3]; rfl) (by rw [r4]; exact B1 T2) l3) ?_
    simp
  exact ⟨st3.take 0, gc_eq (F := fnBody 10 G_law) (by unfold fnBody; rw [whole_run]; rfl) ⟨Nat.zero_le _, rfl, fun i hi => absurd hi (Nat.not_lt_zero _)⟩⟩
end W
end

section
set_option Elab.async false
set_option linter.all false
set_option maxRecDepth 100000
set_option maxHeartbeats 4000000
namespace W
open PySem PySem.Spec PyProof.Rows L2 DL
def fn : List He.DefD := [defD "gcd_of" s_gcd_of,
  defD "ratio" s_ratio [.int 1],
  defD "add_ratio" s_add_ratio,
  defD "times_ratio" s_times_ratio,
  defD "less_ratio" s_less_ratio,
  defD "middle_ratio" s_middle_ratio,
  defD "holds_at" s_holds_at,
  defD "narrowed" s_narrowed,
  defD "stretch" s_stretch,
  defD "middle_moment" s_middle_moment,
  defD "excludes" s_excludes,
  defD "_law_draw" s_n_law_draw,
  defD "_law_tape" s_n_law_tape,
  defD "_law_next" s_n_law_next,
  defD "_law_number" s_n_law_number,
  defD "_law_edge" s_n_law_edge,
  defD "_law_same" s_n_law_same,
  defD "_law_lowest" s_n_law_lowest,
  defD "_law_between" s_n_law_between,
  defD "_law_all_hold" s_n_law_all_hold,
  defD "_law_points" s_n_law_points,
  defD "_law_stretch" s_n_law_stretch,
  defD "_law_condition" s_n_law_condition,
  defD "_law_moment" s_n_law_moment,
  defD "_law_stretch_right" s_n_law_stretch_right,
  defD "law" s_law]
def fa : List He.Fa := [.glo "gcd_of", .glo "ratio", .glo "add_ratio", .glo "times_ratio", .glo "less_ratio", .glo "middle_ratio", .glo "holds_at", .glo "narrowed", .glo "stretch", .glo "middle_moment", .glo "excludes", .glo "_law_draw", .glo "_law_tape", .glo "_law_next", .glo "_law_number", .glo "_law_edge", .glo "_law_same", .glo "_law_lowest", .glo "_law_between", .glo "_law_all_hold", .glo "_law_points", .glo "_law_stretch", .glo "_law_condition", .glo "_law_moment", .glo "_law_stretch_right", .glo "law", .free "abs", .free "bool", .free "int", .free "isinstance", .free "len", .free "min", .free "range", .free "str", .free "tuple"]
def ex (K : PySem.W.Frag) : Bool := conAt K "WHOLE_MOVE" C_WHOLE_MOVE && true
abbrev R : PySem.W.OpenRow := PySem.W.OpenLaw.row PySem.Challenge.rw_camhouse_k46_stretches
abbrev hk : PySem.W.Hook := hookE 5 fa fn ex
def ob (s : PySem.W.SharedT) : AlE := obsE 5 fa fn ex (HandSHeadRun.getT s)
theorem ob_eq (s : PySem.W.SharedT) : ob s = hk.obs s.abs := obsE_eq (HandSHeadRun.getT_eq s)
def loose0 : List PySem.Str := ["gcd_of", "ratio", "add_ratio", "times_ratio", "less_ratio", "middle_ratio", "holds_at", "narrowed", "stretch", "middle_moment", "excludes", "_law_draw", "_law_tape", "_law_next", "_law_number", "_law_edge", "_law_same", "_law_lowest", "_law_between", "_law_all_hold", "_law_points", "_law_stretch", "_law_condition", "_law_moment", "_law_stretch_right", "WHOLE_MOVE"]
def loose : List PySem.Str := loose0
theorem run (w : World) : HandSHeadRun.RunEq R (PySem.W.view R.prog [30]) hk ob 20000 loose w := by
  intro os
  kernel_rfl
theorem facts {P : Program} {w : World} {K : PySem.W.Frag} {h : Heap} {mg : Str → Option Value} {f : Addr} (X : K.In h) (G : h.Ns mainGlobals mg) (hfa : mg ("law" : Str) = some (.ref f)) (c : He.SaysD fa fn K) (cx : ex K = true) :
    ∃ fd : FuncData, (∀ (s : Shared) (v : Value), BindsTo s fd ⟨[v], []⟩ [("script", v)]) ∧ ∀ base : Heap, K.In base → base.Ns mainGlobals mg → FnOk P w K mg base CX0 11 f fd ["script"] (spD K 1 F_law) := by
  simp only [ex, Bool.and_eq_true, and_true] at cx
  have k_WHOLE_MOVE : ConstD K mg "WHOLE_MOVE" C_WHOLE_MOVE := conAt_ok X G cx
  have m_abs : mg "abs" = none := He.free_ok X G (c.fact 26 (f := .free "abs") rfl)
  have m_bool : mg "bool" = none := He.free_ok X G (c.fact 27 (f := .free "bool") rfl)
  have m_int : mg "int" = none := He.free_ok X G (c.fact 28 (f := .free "int") rfl)
  have m_isinstance : mg "isinstance" = none := He.free_ok X G (c.fact 29 (f := .free "isinstance") rfl)
  have m_len : mg "len" = none := He.free_ok X G (c.fact 30 (f := .free "len") rfl)
  have m_min : mg "min" = none := He.free_ok X G (c.fact 31 (f := .free "min") rfl)
  have m_range : mg "range" = none := He.free_ok X G (c.fact 32 (f := .free "range") rfl)
  have m_str : mg "str" = none := He.free_ok X G (c.fact 33 (f := .free "str") rfl)
  have m_tuple : mg "tuple" = none := He.free_ok X G (c.fact 34 (f := .free "tuple") rfl)
  obtain ⟨fd0, F0⟩ := c.def_ 0 (d := defD "gcd_of" s_gcd_of) rfl
  have g0 : mg "gcd_of" = some (.ref (He.fAd K ("gcd_of", none))) := He.glo_ok X G (c.fact 0 (f := .glo "gcd_of") rfl)
  obtain ⟨fd1, F1⟩ := c.def_ 1 (d := defD "ratio" s_ratio [.int 1]) rfl
  have g1 : mg "ratio" = some (.ref (He.fAd K ("ratio", none))) := He.glo_ok X G (c.fact 1 (f := .glo "ratio") rfl)
  obtain ⟨fd2, F2⟩ := c.def_ 2 (d := defD "add_ratio" s_add_ratio) rfl
  have g2 : mg "add_ratio" = some (.ref (He.fAd K ("add_ratio", none))) := He.glo_ok X G (c.fact 2 (f := .glo "add_ratio") rfl)
  obtain ⟨fd3, F3⟩ := c.def_ 3 (d := defD "times_ratio" s_times_ratio) rfl
  have g3 : mg "times_ratio" = some (.ref (He.fAd K ("times_ratio", none))) := He.glo_ok X G (c.fact 3 (f := .glo "times_ratio") rfl)
  obtain ⟨fd4, F4⟩ := c.def_ 4 (d := defD "less_ratio" s_less_ratio) rfl
  have g4 : mg "less_ratio" = some (.ref (He.fAd K ("less_ratio", none))) := He.glo_ok X G (c.fact 4 (f := .glo "less_ratio") rfl)
  obtain ⟨fd5, F5⟩ := c.def_ 5 (d := defD "middle_ratio" s_middle_ratio) rfl
  have g5 : mg "middle_ratio" = some (.ref (He.fAd K ("middle_ratio", none))) := He.glo_ok X G (c.fact 5 (f := .glo "middle_ratio") rfl)
  obtain ⟨fd6, F6⟩ := c.def_ 6 (d := defD "holds_at" s_holds_at) rfl
  have g6 : mg "holds_at" = some (.ref (He.fAd K ("holds_at", none))) := He.glo_ok X G (c.fact 6 (f := .glo "holds_at") rfl)
  obtain ⟨fd7, F7⟩ := c.def_ 7 (d := defD "narrowed" s_narrowed) rfl
  have g7 : mg "narrowed" = some (.ref (He.fAd K ("narrowed", none))) := He.glo_ok X G (c.fact 7 (f := .glo "narrowed") rfl)
  obtain ⟨fd8, F8⟩ := c.def_ 8 (d := defD "stretch" s_stretch) rfl
  have g8 : mg "stretch" = some (.ref (He.fAd K ("stretch", none))) := He.glo_ok X G (c.fact 8 (f := .glo "stretch") rfl)
  obtain ⟨fd9, F9⟩ := c.def_ 9 (d := defD "middle_moment" s_middle_moment) rfl
  have g9 : mg "middle_moment" = some (.ref (He.fAd K ("middle_moment", none))) := He.glo_ok X G (c.fact 9 (f := .glo "middle_moment") rfl)
  obtain ⟨fd10, F10⟩ := c.def_ 10 (d := defD "excludes" s_excludes) rfl
  have g10 : mg "excludes" = some (.ref (He.fAd K ("excludes", none))) := He.glo_ok X G (c.fact 10 (f := .glo "excludes") rfl)
  obtain ⟨fd11, F11⟩ := c.def_ 11 (d := defD "_law_draw" s_n_law_draw) rfl
  have g11 : mg "_law_draw" = some (.ref (He.fAd K ("_law_draw", none))) := He.glo_ok X G (c.fact 11 (f := .glo "_law_draw") rfl)
  obtain ⟨fd12, F12⟩ := c.def_ 12 (d := defD "_law_tape" s_n_law_tape) rfl
  have g12 : mg "_law_tape" = some (.ref (He.fAd K ("_law_tape", none))) := He.glo_ok X G (c.fact 12 (f := .glo "_law_tape") rfl)
  obtain ⟨fd13, F13⟩ := c.def_ 13 (d := defD "_law_next" s_n_law_next) rfl
  have g13 : mg "_law_next" = some (.ref (He.fAd K ("_law_next", none))) := He.glo_ok X G (c.fact 13 (f := .glo "_law_next") rfl)
  obtain ⟨fd14, F14⟩ := c.def_ 14 (d := defD "_law_number" s_n_law_number) rfl
  have g14 : mg "_law_number" = some (.ref (He.fAd K ("_law_number", none))) := He.glo_ok X G (c.fact 14 (f := .glo "_law_number") rfl)
  obtain ⟨fd15, F15⟩ := c.def_ 15 (d := defD "_law_edge" s_n_law_edge) rfl
  have g15 : mg "_law_edge" = some (.ref (He.fAd K ("_law_edge", none))) := He.glo_ok X G (c.fact 15 (f := .glo "_law_edge") rfl)
  obtain ⟨fd16, F16⟩ := c.def_ 16 (d := defD "_law_same" s_n_law_same) rfl
  have g16 : mg "_law_same" = some (.ref (He.fAd K ("_law_same", none))) := He.glo_ok X G (c.fact 16 (f := .glo "_law_same") rfl)
  obtain ⟨fd17, F17⟩ := c.def_ 17 (d := defD "_law_lowest" s_n_law_lowest) rfl
  have g17 : mg "_law_lowest" = some (.ref (He.fAd K ("_law_lowest", none))) := He.glo_ok X G (c.fact 17 (f := .glo "_law_lowest") rfl)
  obtain ⟨fd18, F18⟩ := c.def_ 18 (d := defD "_law_between" s_n_law_between) rfl
  have g18 : mg "_law_between" = some (.ref (He.fAd K ("_law_between", none))) := He.glo_ok X G (c.fact 18 (f := .glo "_law_between") rfl)
  obtain ⟨fd19, F19⟩ := c.def_ 19 (d := defD "_law_all_hold" s_n_law_all_hold) rfl
  have g19 : mg "_law_all_hold" = some (.ref (He.fAd K ("_law_all_hold", none))) := He.glo_ok X G (c.fact 19 (f := .glo "_law_all_hold") rfl)
  obtain ⟨fd20, F20⟩ := c.def_ 20 (d := defD "_law_points" s_n_law_points) rfl
  have g20 : mg "_law_points" = some (.ref (He.fAd K ("_law_points", none))) := He.glo_ok X G (c.fact 20 (f := .glo "_law_points") rfl)
  obtain ⟨fd21, F21⟩ := c.def_ 21 (d := defD "_law_stretch" s_n_law_stretch) rfl
  have g21 : mg "_law_stretch" = some (.ref (He.fAd K ("_law_stretch", none))) := He.glo_ok X G (c.fact 21 (f := .glo "_law_stretch") rfl)
  obtain ⟨fd22, F22⟩ := c.def_ 22 (d := defD "_law_condition" s_n_law_condition) rfl
  have g22 : mg "_law_condition" = some (.ref (He.fAd K ("_law_condition", none))) := He.glo_ok X G (c.fact 22 (f := .glo "_law_condition") rfl)
  obtain ⟨fd23, F23⟩ := c.def_ 23 (d := defD "_law_moment" s_n_law_moment) rfl
  have g23 : mg "_law_moment" = some (.ref (He.fAd K ("_law_moment", none))) := He.glo_ok X G (c.fact 23 (f := .glo "_law_moment") rfl)
  obtain ⟨fd24, F24⟩ := c.def_ 24 (d := defD "_law_stretch_right" s_n_law_stretch_right) rfl
  have g24 : mg "_law_stretch_right" = some (.ref (He.fAd K ("_law_stretch_right", none))) := He.glo_ok X G (c.fact 24 (f := .glo "_law_stretch_right") rfl)
  obtain ⟨fd25, F25⟩ := c.def_ 25 (d := defD "law" s_law) rfl
  have g25 : mg "law" = some (.ref (He.fAd K ("law", none))) := He.glo_ok X G (c.fact 25 (f := .glo "law") rfl)
  have e := hfa.symm.trans g25
  cases e
  have b := FunD.bindsA (ps := ["script"]) F25 fun _ _ _ _ _ _ us hl => match us, hl with | [_], _ => rfl
  refine ⟨fd25, fun s v => b s [v] rfl, fun base _ _ => ?_⟩
  have c_gcd_of : DCall P w K mg base 1 "gcd_of" 2 F_gcd_of [] := dcall (ok_gcd_of F0 m_abs) g0 F0.kp (FunD.bindsN (ps := ["one", "other"]) F0 fun _ _ _ _ _ _ us hl => match us, hl with | [_, _], _ => rfl)
  have c_ratio : DCall P w K mg base 2 "ratio" 2 F_ratio [] := dcallD (ok_ratio F1 c_gcd_of) g1 F1.kp (FunD.binds1 (ps := ["above", "below"]) F1 2 1 (by intro z; cases z) rfl fun _ _ _ _ _ _ _ us its h1 h2 => match us, its, h1, h2 with | [_, _], [_], _, _ => ⟨_, rfl, rfl⟩) (fun _ _ => .nil)
  have c_add_ratio : DCall P w K mg base 3 "add_ratio" 2 F_add_ratio [] := dcall (ok_add_ratio F2 c_ratio) g2 F2.kp (FunD.bindsN (ps := ["one", "other"]) F2 fun _ _ _ _ _ _ us hl => match us, hl with | [_, _], _ => rfl)
  have c_times_ratio : DCall P w K mg base 3 "times_ratio" 2 F_times_ratio [] := dcall (ok_times_ratio F3 c_ratio) g3 F3.kp (FunD.bindsN (ps := ["one", "other"]) F3 fun _ _ _ _ _ _ us hl => match us, hl with | [_, _], _ => rfl)
  have c_less_ratio : DCall P w K mg base 1 "less_ratio" 2 F_less_ratio [] := dcall (ok_less_ratio F4 ) g4 F4.kp (FunD.bindsN (ps := ["one", "other"]) F4 fun _ _ _ _ _ _ us hl => match us, hl with | [_, _], _ => rfl)
  have c_middle_ratio : DCall P w K mg base 4 "middle_ratio" 2 F_middle_ratio [] := dcall (ok_middle_ratio F5 c_times_ratio c_add_ratio) g5 F5.kp (FunD.bindsN (ps := ["one", "other"]) F5 fun _ _ _ _ _ _ us hl => match us, hl with | [_, _], _ => rfl)
  have c_holds_at : DCall P w K mg base 1 "holds_at" 2 F_holds_at [] := dcall (ok_holds_at F6 ) g6 F6.kp (FunD.bindsN (ps := ["condition", "moment"]) F6 fun _ _ _ _ _ _ us hl => match us, hl with | [_, _], _ => rfl)
  have c_narrowed : DCall P w K mg base 3 "narrowed" 2 F_narrowed [] := dcall (ok_narrowed F7 c_ratio c_less_ratio) g7 F7.kp (FunD.bindsN (ps := ["told", "condition"]) F7 fun _ _ _ _ _ _ us hl => match us, hl with | [_, _], _ => rfl)
  have c_stretch : DCall P w K mg base 4 "stretch" 1 F_stretch [] := dcall (ok_stretch F8 c_narrowed k_WHOLE_MOVE) g8 F8.kp (FunD.bindsN (ps := ["conditions"]) F8 fun _ _ _ _ _ _ us hl => match us, hl with | [_], _ => rfl)
  have c_middle_moment : DCall P w K mg base 5 "middle_moment" 1 F_middle_moment [] := dcall (ok_middle_moment F9 c_middle_ratio) g9 F9.kp (FunD.bindsN (ps := ["told"]) F9 fun _ _ _ _ _ _ us hl => match us, hl with | [_], _ => rfl)
  have c_excludes : DCall P w K mg base 5 "excludes" 2 F_excludes [] := dcall (ok_excludes F10 c_stretch) g10 F10.kp (FunD.bindsN (ps := ["one", "other"]) F10 fun _ _ _ _ _ _ us hl => match us, hl with | [_, _], _ => rfl)
  have c_n_law_draw : DCall P w K mg base 1 "_law_draw" 2 F_n_law_draw [] := dcall (ok_n_law_draw F11 m_int m_len m_min m_range) g11 F11.kp (FunD.bindsN (ps := ["script", "j"]) F11 fun _ _ _ _ _ _ us hl => match us, hl with | [_, _], _ => rfl)
  have c_n_law_tape : DCall P w K mg base 2 "_law_tape" 1 F_n_law_tape [] := dcall (ok_n_law_tape F12 c_n_law_draw m_range) g12 F12.kp (FunD.bindsN (ps := ["script"]) F12 fun _ _ _ _ _ _ us hl => match us, hl with | [_], _ => rfl)
  have c_n_law_next : DCall P w K mg base 1 "_law_next" 2 F_n_law_next [] := dcall (ok_n_law_next F13 m_int) g13 F13.kp (FunD.bindsN (ps := ["tape", "many"]) F13 fun _ _ _ _ _ _ us hl => match us, hl with | [_, _], _ => rfl)
  have c_n_law_number : DCall P w K mg base 2 "_law_number" 3 F_n_law_number [] := dcall (ok_n_law_number F14 c_n_law_next m_int) g14 F14.kp (FunD.bindsN (ps := ["tape", "low", "high"]) F14 fun _ _ _ _ _ _ us hl => match us, hl with | [_, _, _], _ => rfl)
  have c_n_law_edge : DCall P w K mg base 3 "_law_edge" 3 F_n_law_edge [] := dcall (ok_n_law_edge F15 c_n_law_next c_n_law_number) g15 F15.kp (FunD.bindsN (ps := ["tape", "low", "high"]) F15 fun _ _ _ _ _ _ us hl => match us, hl with | [_, _, _], _ => rfl)
  have o16 : ∀ l, FnOk P w K mg base CX0 (0 + l) (He.fAd K ("_law_same", none)) fd16 ["actual", "due"] (spD K 2 (F_n_law_same l)) := by
    intro l
    induction l with
    | zero => exact fn_none
    | succ l ih => exact ok_n_law_same F16 m_bool m_int m_isinstance m_len m_range m_str m_tuple (dcall ih g16 F16.kp (FunD.bindsN (ps := ["actual", "due"]) F16 fun _ _ _ _ _ _ us hl => match us, hl with | [_, _], _ => rfl))
  have c_n_law_same : DCall P w K mg base 9 "_law_same" 2 (F_n_law_same 8) [] := dcall ((o16 8).mono (by decide)) g16 F16.kp (FunD.bindsN (ps := ["actual", "due"]) F16 fun _ _ _ _ _ _ us hl => match us, hl with | [_, _], _ => rfl)
  have c_n_law_lowest : DCall P w K mg base 1 "_law_lowest" 2 F_n_law_lowest [] := dcall (ok_n_law_lowest F17 m_abs m_int m_range) g17 F17.kp (FunD.bindsN (ps := ["above", "below"]) F17 fun _ _ _ _ _ _ us hl => match us, hl with | [_, _], _ => rfl)
  have c_n_law_between : DCall P w K mg base 2 "_law_between" 2 F_n_law_between [] := dcall (ok_n_law_between F18 c_n_law_lowest) g18 F18.kp (FunD.bindsN (ps := ["one", "other"]) F18 fun _ _ _ _ _ _ us hl => match us, hl with | [_, _], _ => rfl)
  have c_n_law_all_hold : DCall P w K mg base 1 "_law_all_hold" 2 F_n_law_all_hold [] := dcall (ok_n_law_all_hold F19 ) g19 F19.kp (FunD.bindsN (ps := ["conditions", "moment"]) F19 fun _ _ _ _ _ _ us hl => match us, hl with | [_, _], _ => rfl)
  have c_n_law_points : DCall P w K mg base 2 "_law_points" 1 F_n_law_points [] := dcall (ok_n_law_points F20 c_n_law_lowest m_len) g20 F20.kp (FunD.bindsN (ps := ["conditions"]) F20 fun _ _ _ _ _ _ us hl => match us, hl with | [_], _ => rfl)
  have c_n_law_stretch : DCall P w K mg base 3 "_law_stretch" 1 F_n_law_stretch [] := dcall (ok_n_law_stretch F21 c_n_law_points c_n_law_all_hold c_n_law_between m_len m_range) g21 F21.kp (FunD.bindsN (ps := ["conditions"]) F21 fun _ _ _ _ _ _ us hl => match us, hl with | [_], _ => rfl)
  have c_n_law_condition : DCall P w K mg base 4 "_law_condition" 1 F_n_law_condition [] := dcall (ok_n_law_condition F22 c_n_law_next c_n_law_edge) g22 F22.kp (FunD.bindsN (ps := ["tape"]) F22 fun _ _ _ _ _ _ us hl => match us, hl with | [_], _ => rfl)
  have c_n_law_moment : DCall P w K mg base 2 "_law_moment" 1 F_n_law_moment [] := dcall (ok_n_law_moment F23 c_n_law_next c_n_law_lowest) g23 F23.kp (FunD.bindsN (ps := ["tape"]) F23 fun _ _ _ _ _ _ us hl => match us, hl with | [_], _ => rfl)
  have c_n_law_stretch_right : DCall P w K mg base 10 "_law_stretch_right" 1 F_n_law_stretch_right [] := dcall (ok_n_law_stretch_right F24 c_n_law_stretch c_n_law_same c_stretch c_n_law_between c_middle_moment c_n_law_all_hold m_tuple) g24 F24.kp (FunD.bindsN (ps := ["conditions"]) F24 fun _ _ _ _ _ _ us hl => match us, hl with | [_], _ => rfl)
  exact ok_law F25 c_n_law_tape c_n_law_next c_n_law_condition c_n_law_moment c_n_law_same c_holds_at c_n_law_all_hold c_n_law_stretch_right c_excludes c_n_law_stretch m_range
end W
open PySem PySem.W PySem.Calls PyProof.Rows
set_option maxHeartbeats 0 in
theorem PySem.Challenge.cw_camhouse_k46_stretches_holds : PySem.Challenge.rw_camhouse_k46_stretches.Holds := by
  w_on; o_law
  refine HandSHeadRun.head_any (r := OpenLaw.row PySem.Challenge.rw_camhouse_k46_stretches) (q := view (OpenLaw.row PySem.Challenge.rw_camhouse_k46_stretches).prog [30]) (H := W.hk) (ob := W.ob) (M := 20000) (loose := W.loose) (d := HandSHeadRun.topDef (OpenLaw.row PySem.Challenge.rw_camhouse_k46_stretches).prog 30) (kwd := []) W.ob_eq
    (by kernel_rfl) (fun s => by kernel_rfl) W.run (by kernel_rfl) (by kernel_rfl) (by kernel_rfl) (by rfl) (by first | assumption | decide +kernel) (by decide +kernel) ⟨rfl, rfl, rfl, rfl, rfl, by decide +kernel⟩ ?hw ?hc
  case hw => w_witness2
  case hc =>
    refine L2.walk_ofE (l := PySem.Challenge.rw_camhouse_k46_stretches) (n := 63) (k := 11) (x := "script") (CX := L2.CX0) rfl (by decide) (by kernel_rfl) ⟨rfl, by decide, by decide⟩ ?F (fun _ _ _ _ z => z)
    intro w mg fa h Y G hmg0
    obtain ⟨K, KX, c, cx⟩ := Y
    have hmg : mg ("law" : PySem.Str) = some (.ref fa) := by
      have e : (HandSHeadRun.topDef (OpenLaw.row PySem.Challenge.rw_camhouse_k46_stretches).prog 30).name = ("law" : PySem.Str) := by kernel_rfl
      rw [← e]
      exact hmg0
    obtain ⟨fd, hb, hF⟩ := W.facts (P := (PySem.Challenge.rw_camhouse_k46_stretches).prog) (w := w) KX G hmg c cx
    exact ⟨K, fd, DL.spD K 1 W.F_law, KX, hb, fun H a ns hl hO hS => DL.law_sp (W.law_true ns hl) hO hS, hF⟩
end
