import PyProof.Rows.All
import HandS.ForMost
import HandS.Deep
import HandS.IsInst
import HandS.TupAny
import HandS.Wide
import HandS.Flow
import HandS.Conv
import HandS.Style
import HandS.Defaults
import HandS.Head0
import HandS.Head1
import HandS.Head2
import HandS.HeadEnd
import HandS.HeadHook1
import HandS.HeadHook2
import PySem.Challenge.RW_camhouse_k64_pair_papers
section
set_option Elab.async false
set_option linter.all false
set_option maxRecDepth 100000
set_option maxHeartbeats 4000000
/-! The data layer, part A: data, the store of lists, how they lie in the abstract heap. -/
namespace DL
open PySem PySem.Spec PyProof.Rows L2

/-- a plain value; ref n: the n-th cell of the store -/
inductive D where
  | non | bl (b : Bool) | int (i : Int) | str (x : Str) | tup (xs : List D) | ref (n : Nat)
  /-- a list that is only read -/
  | fz (xs : List D)
/-- a list that may be written -/
inductive Cell where
  | lst (xs : List D)
abbrev Sto := List Cell
abbrev DEnv := List (Option D)

/-- what a write may change -/
def mutO : HO → Bool
  | .lst _ => true
  | .dK _ => true
  | .dT _ => true
  | .set _ _ => true
  | .ext _ => true
  | .ins _ _ _ => true
  | _ => false

/-- a list that stays whatever is written -/
def Frz (K : PySem.W.Frag) (H : Hp) (a : Addr) (vs : List V) : Prop :=
  ∀ H' : Hp, (∀ o, H a = some o → mutO o = false → H' a = some o) → SqL K H' a vs

mutual
inductive Rep (K : PySem.W.Frag) (μ : List Addr) (H : Hp) : V → D → Prop
  | non : Rep K μ H .non .non
  | bl (b : Bool) : Rep K μ H (.bl b) (.bl b)
  | int (i : Int) : Rep K μ H (.int i) (.int i)
  | str (x : Str) : Rep K μ H (.str x) (.str x)
  | tup {a : Addr} {vs : List V} {ds : List D} : SqT K H a vs → Reps K μ H vs ds → Rep K μ H (.ref a) (.tup ds)
  | ref {a : Addr} {n : Nat} : μ[n]? = some a → Rep K μ H (.ref a) (.ref n)
  | fz {a : Addr} {vs : List V} {ds : List D} : Frz K H a vs → Reps K μ H vs ds → Rep K μ H (.ref a) (.fz ds)
inductive Reps (K : PySem.W.Frag) (μ : List Addr) (H : Hp) : List V → List D → Prop
  | nil : Reps K μ H [] []
  | cons {v : V} {vs : List V} {d : D} {ds : List D} : Rep K μ H v d → Reps K μ H vs ds → Reps K μ H (v :: vs) (d :: ds)
end

structure Step (μ : List Addr) (H : Hp) (μ' : List Addr) (H' : Hp) : Prop where
  ext : ∃ s, μ' = μ ++ s ∧ ∀ a ∈ s, H a = none
  keep : ∀ a o, H a = some o → (a ∉ μ ∨ mutO o = false) → H' a = some o
  dom : ∀ a o, H a = some o → ∃ o', H' a = some o'

def CellOk (K : PySem.W.Frag) (μ : List Addr) (H : Hp) (a : Addr) : Cell → Prop
  | .lst ds => ∃ vs, H a = some (.lst vs) ∧ Reps K μ H vs ds

structure RelS (K : PySem.W.Frag) (μ : List Addr) (H : Hp) (st : Sto) : Prop where
  len : μ.length = st.length
  ok : ∀ (n : Nat) (a : Addr) (c : Cell), μ[n]? = some a → st[n]? = some c → CellOk K μ H a c
  inj : ∀ (i j : Nat) (a : Addr) (xs ys : List D), μ[i]? = some a → μ[j]? = some a → st[i]? = some (.lst xs) → st[j]? = some (.lst ys) → i = j

structure RelE (K : PySem.W.Frag) (μ : List Addr) (σ : L2.St) (H : Hp) (ρ : DEnv) : Prop where
  len : σ.length = ρ.length
  at_ : ∀ (i : Nat) (d : D), ρ[i]? = some (some d) → ∃ v, σ[i]? = some (some v) ∧ Rep K μ H v d

section
variable {K : PySem.W.Frag} {μ μ' μ1 : List Addr} {H H' H1 : Hp} {st st' : Sto} {σ : L2.St} {ρ : DEnv}

theorem Reps.length : ∀ {vs : List V} {ds : List D}, Reps K μ H vs ds → vs.length = ds.length
  | _, _, .nil => rfl
  | _, _, .cons _ t => by rw [List.length_cons, List.length_cons, Reps.length t]
theorem Reps.get : ∀ {vs : List V} {ds : List D} {i : Nat} {d : D}, Reps K μ H vs ds → ds[i]? = some d → ∃ v, vs[i]? = some v ∧ Rep K μ H v d
  | _, _, _, _, .nil, e => by simp at e
  | _, _, 0, _, .cons r _, e => by simp at e; subst e; exact ⟨_, rfl, r⟩
  | _, _, i + 1, d, .cons _ t, e => by
    obtain ⟨v, h1, h2⟩ := Reps.get (i := i) (d := d) t (by simpa using e)
    exact ⟨v, by simpa using h1, h2⟩
theorem Reps.getV : ∀ {vs : List V} {ds : List D} {i : Nat} {v : V}, Reps K μ H vs ds → vs[i]? = some v → ∃ d, ds[i]? = some d ∧ Rep K μ H v d
  | _, _, _, _, .nil, e => by simp at e
  | _, _, 0, _, .cons r _, e => by simp at e; subst e; exact ⟨_, rfl, r⟩
  | _, _, i + 1, d, .cons _ t, e => by
    obtain ⟨v, h1, h2⟩ := Reps.getV (i := i) t (by simpa using e)
    exact ⟨v, by simpa using h1, h2⟩
theorem Reps.append : ∀ {xs ys : List V} {us ws : List D}, Reps K μ H xs us → Reps K μ H ys ws → Reps K μ H (xs ++ ys) (us ++ ws)
  | _, _, _, _, .nil, s => s
  | _, _, _, _, .cons r t, s => .cons r (Reps.append t s)
theorem Reps.take : ∀ {xs : List V} {us : List D} (n : Nat), Reps K μ H xs us → Reps K μ H (xs.take n) (us.take n)
  | _, _, 0, _ => .nil
  | _, _, _ + 1, .nil => .nil
  | _, _, n + 1, .cons r t => .cons r (Reps.take n t)
theorem Reps.drop : ∀ {xs : List V} {us : List D} (n : Nat), Reps K μ H xs us → Reps K μ H (xs.drop n) (us.drop n)
  | _, _, 0, r => r
  | _, _, _ + 1, .nil => .nil
  | _, _, n + 1, .cons _ t => Reps.drop n t
theorem Reps.set {v : V} {d : D} (r : Rep K μ H v d) : ∀ {xs : List V} {us : List D} (i : Nat), Reps K μ H xs us → Reps K μ H (xs.set i v) (us.set i d)
  | _, _, _, .nil => .nil
  | _, _, 0, .cons _ t => .cons r t
  | _, _, i + 1, .cons q t => .cons q (Reps.set r i t)
theorem Reps.erase : ∀ {xs : List V} {us : List D} (i : Nat), Reps K μ H xs us → Reps K μ H (xs.eraseIdx i) (us.eraseIdx i)
  | _, _, _, .nil => .nil
  | _, _, 0, .cons _ t => t
  | _, _, i + 1, .cons q t => .cons q (Reps.erase i t)
theorem Reps.dropLast {xs : List V} {us : List D} (r : Reps K μ H xs us) : Reps K μ H xs.dropLast us.dropLast := by
  rw [List.dropLast_eq_take, List.dropLast_eq_take, r.length]
  exact r.take _
theorem Reps.repl {xs : List V} {us : List D} (r : Reps K μ H xs us) : ∀ n : Nat, Reps K μ H (List.replicate n xs).flatten (List.replicate n us).flatten
  | 0 => .nil
  | n + 1 => by
    rw [List.replicate_succ, List.replicate_succ, List.flatten_cons, List.flatten_cons]
    exact r.append (Reps.repl r n)
theorem Reps.reverse : ∀ {xs : List V} {us : List D}, Reps K μ H xs us → Reps K μ H xs.reverse us.reverse
  | _, _, .nil => .nil
  | _, _, .cons r t => by
    rw [List.reverse_cons, List.reverse_cons]
    exact (Reps.reverse t).append (.cons r .nil)

theorem Step.refl : Step μ H μ H := ⟨⟨[], by simp, by simp⟩, fun _ _ h _ => h, fun _ o h => ⟨o, h⟩⟩
theorem Step.at (s : Step μ H μ' H') {n : Nat} {a : Addr} (h : μ[n]? = some a) : μ'[n]? = some a := by
  obtain ⟨x, rfl, _⟩ := s.ext
  have : n < μ.length := (List.getElem?_eq_some_iff.mp h).1
  rw [List.getElem?_append_left this]
  exact h
theorem Step.trans (a : Step μ H μ1 H1) (b : Step μ1 H1 μ' H') : Step μ H μ' H' := by
  obtain ⟨s, rfl, hs⟩ := a.ext
  obtain ⟨t, rfl, ht⟩ := b.ext
  refine ⟨⟨s ++ t, by rw [List.append_assoc], fun x hx => ?_⟩, fun x o e h => ?_, fun x o e => ?_⟩
  · rcases List.mem_append.mp hx with hx | hx
    · exact hs x hx
    · cases q : H x with
      | none => rfl
      | some o =>
        obtain ⟨o', e'⟩ := a.dom x o q
        rw [ht x hx] at e'
        cases e'
  · have e1 := a.keep x o e h
    refine b.keep x o e1 ?_
    rcases h with h | h
    · refine .inl fun z => ?_
      rcases List.mem_append.mp z with z | z
      · exact h z
      · rw [hs x z] at e
        cases e
    · exact .inr h
  · obtain ⟨o1, e1⟩ := a.dom x o e
    exact b.dom x o1 e1
theorem Step.tup (s : Step μ H μ' H') {a : Addr} {vs : List V} (h : SqT K H a vs) : SqT K H' a vs := by
  rcases h with (h | ⟨o, h⟩) | h
  · exact .inl (.inl (s.keep _ _ h (.inr rfl)))
  · exact .inl (.inr ⟨o, s.keep _ _ h (.inr rfl)⟩)
  · exact .inr h
theorem Step.frz (s : Step μ H μ' H') {a : Addr} {vs : List V} (h : Frz K H a vs) : Frz K H' a vs := fun H2 k =>
  h H2 fun o e m => k o (s.keep a o e (.inr m)) m
mutual
theorem Step.rep (s : Step μ H μ' H') : ∀ (d : D) (v : V), Rep K μ H v d → Rep K μ' H' v d
  | .non, _, h => by cases h; exact .non
  | .bl _, _, h => by cases h; exact .bl _
  | .int _, _, h => by cases h; exact .int _
  | .str _, _, h => by cases h; exact .str _
  | .tup ds, _, h => by
    cases h with
    | tup h1 h2 => exact .tup (s.tup h1) (Step.reps s ds _ h2)
  | .ref n, _, h => by
    cases h with
    | ref h1 => exact .ref (s.at h1)
  | .fz ds, _, h => by
    cases h with
    | fz h1 h2 => exact .fz (s.frz h1) (Step.reps s ds _ h2)
theorem Step.reps (s : Step μ H μ' H') : ∀ (ds : List D) (vs : List V), Reps K μ H vs ds → Reps K μ' H' vs ds
  | [], _, h => by cases h; exact .nil
  | d :: ds, _, h => by
    cases h with
    | cons h1 h2 => exact .cons (Step.rep s d _ h1) (Step.reps s ds _ h2)
end
theorem Frz.sq {a : Addr} {vs : List V} (h : Frz K H a vs) : SqL K H a vs := h H fun _ e _ => e
theorem RelE.step (r : RelE K μ σ H ρ) (s : Step μ H μ' H') : RelE K μ' σ H' ρ := ⟨r.len, fun i d e => by
  obtain ⟨v, e1, h⟩ := r.at_ i d e
  exact ⟨v, e1, s.rep _ _ h⟩⟩
theorem RelE.set (r : RelE K μ σ H ρ) (i : Nat) {v : V} {d : D} (h : Rep K μ H v d) : RelE K μ (σ.set i (some v)) H (ρ.set i (some d)) := ⟨by rw [List.length_set, List.length_set, r.len], fun j e q => by
  by_cases hj : i = j
  · subst hj
    by_cases hi : i < ρ.length
    · rw [List.getElem?_set_self hi] at q
      cases q
      exact ⟨v, by rw [List.getElem?_set_self (by rw [r.len]; exact hi)], h⟩
    · rw [List.getElem?_eq_none (by rw [List.length_set]; omega)] at q
      cases q
  · rw [List.getElem?_set_ne hj] at q
    rw [List.getElem?_set_ne hj]
    exact r.at_ j e q⟩
theorem RelE.weak {ρ' : DEnv} (r : RelE K μ σ H ρ) (hl : ρ'.length = ρ.length) (h : ∀ (i : Nat) (d : D), ρ'[i]? = some (some d) → ρ[i]? = some (some d)) : RelE K μ σ H ρ' :=
  ⟨r.len.trans hl.symm, fun i d e => r.at_ i d (h i d e)⟩

/-! ### cells -/
theorem RelS.mem (r : RelS K μ H st) {a : Addr} (h : a ∈ μ) : ∃ (n : Nat) (c : Cell), μ[n]? = some a ∧ st[n]? = some c ∧ CellOk K μ H a c := by
  obtain ⟨n, hn, e⟩ := List.mem_iff_getElem.mp h
  have hn' : n < st.length := by rw [← r.len]; exact hn
  have e1 : μ[n]? = some a := by rw [List.getElem?_eq_getElem hn, e]
  have e2 : st[n]? = some st[n] := List.getElem?_eq_getElem hn'
  exact ⟨n, _, e1, e2, r.ok _ _ _ e1 e2⟩
theorem RelS.addr (r : RelS K μ H st) {n : Nat} {c : Cell} (h : st[n]? = some c) : ∃ a, μ[n]? = some a ∧ CellOk K μ H a c := by
  have hn : n < μ.length := by rw [r.len]; exact (List.getElem?_eq_some_iff.mp h).1
  exact ⟨μ[n], List.getElem?_eq_getElem hn, r.ok _ _ _ (List.getElem?_eq_getElem hn) h⟩
theorem CellOk.step {a : Addr} {c : Cell} (h : CellOk K μ H a c) (s : Step μ H μ' H') (k : ∀ o, H a = some o → H' a = some o) : CellOk K μ' H' a c := by
  cases c with
  | lst ds =>
    obtain ⟨vs, e, r⟩ := h
    exact ⟨vs, k _ e, s.reps _ _ r⟩
theorem CellOk.some {a : Addr} {c : Cell} (h : CellOk K μ H a c) : ∃ o, H a = some o := by
  cases c with
  | lst ds => obtain ⟨vs, e, r⟩ := h; exact ⟨_, e⟩
theorem RelS.out (r : RelS K μ H st) {p : Addr} (hp : H p = none) : p ∉ μ := fun h => by
  obtain ⟨n, c, _, _, ok⟩ := r.mem h
  obtain ⟨o, e⟩ := ok.some
  rw [hp] at e
  cases e
theorem step_new {p : Addr} {o : HO} (hp : H p = none) : Step μ H μ (upd H p o) :=
  ⟨⟨[], by simp, by simp⟩, fun a u e _ => by rw [upd_ne (ne_of_none e hp)]; exact e, fun a u e => ⟨u, by rw [upd_ne (ne_of_none e hp)]; exact e⟩⟩
/-- a new thing that is no cell -/
theorem RelS.new (r : RelS K μ H st) {p : Addr} {o : HO} (hp : H p = none) : RelS K μ (upd H p o) st :=
  ⟨r.len, fun n a c e1 e2 => (r.ok n a c e1 e2).step (step_new hp) fun u e => by rw [upd_ne (ne_of_none e hp)]; exact e, r.inj⟩
theorem step_alloc {p : Addr} {o : HO} (hp : H p = none) : Step μ H (μ ++ [p]) (upd H p o) :=
  ⟨⟨[p], rfl, fun a h => by rw [List.mem_singleton.mp h]; exact hp⟩, fun a u e _ => by rw [upd_ne (ne_of_none e hp)]; exact e, fun a u e => ⟨u, by rw [upd_ne (ne_of_none e hp)]; exact e⟩⟩
/-- a new list -/
theorem RelS.alloc (r : RelS K μ H st) {p : Addr} {vs : List V} {ds : List D} (hp : H p = none) (h : Reps K μ H vs ds) : RelS K (μ ++ [p]) (upd H p (.lst vs)) (st ++ [.lst ds]) := by
  have sp : Step μ H (μ ++ [p]) (upd H p (.lst vs)) := step_alloc hp
  have old : ∀ {n : Nat} {a : Addr} {c : Cell}, (μ ++ [p])[n]? = some a → (st ++ [Cell.lst ds])[n]? = some c → (μ[n]? = some a ∧ st[n]? = some c) ∨ (n = μ.length ∧ a = p ∧ c = .lst ds) := fun {n a c} e1 e2 => by
    by_cases hn : n < μ.length
    · rw [List.getElem?_append_left hn] at e1
      rw [List.getElem?_append_left (by rw [← r.len]; exact hn)] at e2
      exact .inl ⟨e1, e2⟩
    · have hl : n < (μ ++ [p]).length := (List.getElem?_eq_some_iff.mp e1).1
      rw [List.length_append, List.length_singleton] at hl
      have hn' : n = μ.length := by omega
      subst hn'
      rw [List.getElem?_concat_length] at e1
      rw [r.len, List.getElem?_concat_length] at e2
      cases e1
      cases e2
      exact .inr ⟨rfl, rfl, rfl⟩
  have nop : ∀ {n : Nat} {xs : List D}, μ[n]? = some p → st[n]? = some (.lst xs) → False := fun {n xs} e1 e2 => by
    obtain ⟨ws, q, _⟩ := r.ok n p _ e1 e2
    rw [hp] at q
    cases q
  refine ⟨by rw [List.length_append, List.length_append, r.len] <;> rfl, fun n a c e1 e2 => ?_, fun i j a xs ys e1 e2 e3 e4 => ?_⟩
  · rcases old e1 e2 with ⟨e1, e2⟩ | ⟨_, rfl, rfl⟩
    · exact (r.ok n a c e1 e2).step sp fun u e => by rw [upd_ne (ne_of_none e hp)]; exact e
    · exact ⟨vs, upd_same, sp.reps _ _ h⟩
  · rcases old e1 e3 with ⟨a1, a2⟩ | ⟨a1, a2, a3⟩
    · rcases old e2 e4 with ⟨b1, b2⟩ | ⟨b1, b2, b3⟩
      · exact r.inj i j a xs ys a1 b1 a2 b2
      · subst b2
        exact (nop a1 a2).elim
    · rcases old e2 e4 with ⟨b1, b2⟩ | ⟨b1, b2, b3⟩
      · subst a2
        exact (nop b1 b2).elim
      · omega
theorem step_write {n : Nat} {a : Addr} {o : HO} {ws : List V} (h : μ[n]? = some a) (e : H a = some (.lst ws)) : Step μ H μ (upd H a o) :=
  ⟨⟨[], by simp, by simp⟩, fun b u q k => by
    have hb : b ≠ a := by
      rintro rfl
      rcases k with k | k
      · exact k (List.mem_of_getElem? h)
      · rw [e] at q
        cases q
        cases k
    rw [upd_ne hb]
    exact q, fun b u q => by
    by_cases hb : b = a
    · exact ⟨o, by rw [hb, upd_same]⟩
    · exact ⟨u, by rw [upd_ne hb]; exact q⟩⟩
/-- a list written -/
theorem RelS.write (r : RelS K μ H st) {n : Nat} {a : Addr} {xs ds : List D} {vs : List V} (e1 : μ[n]? = some a) (e2 : st[n]? = some (.lst xs)) (h : Reps K μ H vs ds) :
    RelS K μ (upd H a (.lst vs)) (st.set n (.lst ds)) := by
  obtain ⟨ws, q, _⟩ := r.ok n a _ e1 e2
  have sp : Step μ H μ (upd H a (.lst vs)) := step_write e1 q
  have hn : n < st.length := (List.getElem?_eq_some_iff.mp e2).1
  refine ⟨by rw [List.length_set]; exact r.len, fun m b c f1 f2 => ?_, fun i j b ys zs f1 f2 f3 f4 => ?_⟩
  · by_cases hm : n = m
    · subst hm
      rw [List.getElem?_set_self hn] at f2
      cases f2
      rw [e1] at f1
      cases f1
      exact ⟨vs, upd_same, sp.reps _ _ h⟩
    · rw [List.getElem?_set_ne hm] at f2
      cases c with
      | lst ys =>
        refine (r.ok m b _ f1 f2).step sp fun o e => ?_
        have hb : b ≠ a := by
          rintro rfl
          exact hm (r.inj n m b xs ys e1 f1 e2 f2)
        rw [upd_ne hb]
        exact e
  · have old : ∀ {i : Nat} {ys : List D}, (st.set n (Cell.lst ds))[i]? = some (.lst ys) → ∃ zs, st[i]? = some (.lst zs) := fun {i ys} f => by
      by_cases hi : n = i
      · subst hi
        exact ⟨xs, e2⟩
      · rw [List.getElem?_set_ne hi] at f
        exact ⟨ys, f⟩
    obtain ⟨ys', g1⟩ := old f3
    obtain ⟨zs', g2⟩ := old f4
    exact r.inj i j b ys' zs' f1 f2 g1 g2
end
end DL
end

section
set_option Elab.async false
set_option linter.all false
set_option maxRecDepth 100000
set_option maxHeartbeats 4000000
/-! The data layer, part B: judgements, expressions. -/
namespace DL
open PySem PySem.Spec PyProof.Rows L2

abbrev DF := DEnv → Sto → Option (D × Sto)
abbrev DFb := DEnv → Sto → Option (Bool × Sto)
abbrev DFs := DEnv → Sto → Option (List D × Sto)
def Post (K : PySem.W.Frag) (μ : List Addr) (H : Hp) (st' : Sto) (d : D) (Q : VK) : Prop :=
  ∀ (v : V) (H' : Hp) (μ' : List Addr), RelS K μ' H' st' → Step μ H μ' H' → Rep K μ' H' v d → Q v H'
def tD (K : PySem.W.Frag) (f : DF) : TE := fun σ H Q => ∃ (ρ : DEnv) (st : Sto) (μ : List Addr), RelS K μ H st ∧ RelE K μ σ H ρ ∧ ∃ (d : D) (st' : Sto), f ρ st = some (d, st') ∧ Post K μ H st' d Q
def tDb (K : PySem.W.Frag) (f : DFb) : TT := fun σ H Q => ∃ (ρ : DEnv) (st : Sto) (μ : List Addr), RelS K μ H st ∧ RelE K μ σ H ρ ∧ ∃ (b : Bool) (st' : Sto), f ρ st = some (b, st') ∧
  ∀ (H' : Hp) (μ' : List Addr), RelS K μ' H' st' → Step μ H μ' H' → Q b H'
def tDs (K : PySem.W.Frag) (f : DFs) : TA := fun σ H Q => ∃ (ρ : DEnv) (st : Sto) (μ : List Addr), RelS K μ H st ∧ RelE K μ σ H ρ ∧ ∃ (ds : List D) (st' : Sto), f ρ st = some (ds, st') ∧
  ∀ (vs : List V) (H' : Hp) (μ' : List Addr), RelS K μ' H' st' → Step μ H μ' H' → Reps K μ' H' vs ds → Q vs H'
abbrev DE (X : Cx) (e : Expr) (f : DF) : Prop := PE X e (tD X.K f)
abbrev DT (X : Cx) (e : Expr) (f : DFb) : Prop := PT X e (tDb X.K f)
abbrev DW (X : Cx) (e : Expr) (f : DFb) : Prop := PW X e (tDb X.K f)
abbrev DAs (X : Cx) (es : List Expr) (f : DFs) : Prop := PA X es (tDs X.K f)

theorem imp {X : Cx} {e : Expr} {t t' : TE} (h : PE X e t) (k : ∀ σ H Q, t' σ H Q → t σ H Q) : PE X e t' := ⟨fun pins s σ H Q I q => h.run pins s σ H Q I (k σ H Q q)⟩
theorem impT {X : Cx} {e : Expr} {t t' : TT} (h : PT X e t) (k : ∀ σ H Q, t' σ H Q → t σ H Q) : PT X e t' := ⟨fun pins s σ H Q I q => h.run pins s σ H Q I (k σ H Q q)⟩
theorem impW {X : Cx} {e : Expr} {t t' : TT} (h : PW X e t) (k : ∀ σ H Q, t' σ H Q → t σ H Q) : PW X e t' := ⟨fun wh pins s σ H Q I q => h.run wh pins s σ H Q I (k σ H Q q)⟩
theorem impA {X : Cx} {es : List Expr} {t t' : TA} (h : PA X es t) (k : ∀ σ H Q, t' σ H Q → t σ H Q) : PA X es t' := ⟨fun pos pins s σ H Q I q => h.run pos pins s σ H Q I (k σ H Q q)⟩

/-! ### names, constants -/
def dVar (i : Nat) : DF := fun ρ st => match ρ[i]? with
  | some (some d) => some (d, st)
  | _ => none
def dC (d : D) : DF := fun _ st => some (d, st)
section
variable {X : Cx} {K : PySem.W.Frag}
theorem dVar_le {i : Nat} {σ : L2.St} {H : Hp} {Q : VK} (h : tD K (dVar i) σ H Q) : tVar i σ H Q := by
  obtain ⟨ρ, st, μ, rs, re, d, st', e, q⟩ := h
  unfold dVar at e
  split at e
  · rename_i d' e1
    cases e
    obtain ⟨v, e2, r⟩ := re.at_ i _ e1
    exact ⟨v, e2, q v H μ rs .refl r⟩
  · cases e
theorem d_var (i : Nat) {x : Str} {pos : Pos} (hN : X.N[i]? = some x) (hv : Vis X.env.scope x) (hd : (x == ("__debug__" : Str)) = false := by decide) (hcd : (x == ("__classdict__" : Str)) = false := by decide) : DE X (.Name x pos) (dVar i) :=
  imp (pe_var hN hv hd hcd) fun _ _ _ => dVar_le
theorem dC_le {d : D} {v : V} (h : ∀ μ H, Rep K μ H v d) {σ : L2.St} {H : Hp} {Q : VK} (q : tD K (dC d) σ H Q) : tC v σ H Q := by
  obtain ⟨ρ, st, μ, rs, re, d, st', e, q⟩ := q
  cases e
  exact q v H μ rs .refl (h μ H)
theorem d_int {i : Int} {j : Nat} {pos : Pos} : DE X (.Constant (.int i) j pos) (dC (.int i)) := imp pe_int fun _ _ _ => dC_le fun _ _ => .int i
theorem d_bl {b : Bool} {j : Nat} {pos : Pos} : DE X (.Constant (.bool b) j pos) (dC (.bl b)) := imp pe_bl fun _ _ _ => dC_le fun _ _ => .bl b
theorem d_non {j : Nat} {pos : Pos} : DE X (.Constant .none j pos) (dC .non) := imp pe_non fun _ _ _ => dC_le fun _ _ => .non
theorem d_str {x : Str} {j : Nat} {pos : Pos} : DE X (.Constant (.str x) j pos) (dC (.str x)) := imp pe_str fun _ _ _ => dC_le fun _ _ => .str x
/-- a module's constant -/
theorem d_glob {x : Str} {v : V} {d : D} {u : Value} {pos : Pos} (hg : Gl X x) (hm : X.mg x = some u) (r : RelV v u) (h : ∀ μ H, Rep X.K μ H v d) (hd : (x == ("__debug__" : Str)) = false := by decide) : DE X (.Name x pos) (dC d) :=
  imp (pe_glob hg hm r hd) fun _ _ _ => dC_le h
end

/-! ### two places -/
def dBin (o : D → D → Sto → Option (D × Sto)) (fa fb : DF) : DF := fun ρ st => (fa ρ st).bind fun p => (fb ρ p.2).bind fun q => o p.1 q.1 q.2
def dUn (o : D → Sto → Option (D × Sto)) (fa : DF) : DF := fun ρ st => (fa ρ st).bind fun p => o p.1 p.2
def OpD (K : PySem.W.Frag) (r : R2) (o : D → D → Sto → Option (D × Sto)) : Prop :=
  ∀ (μ : List Addr) (H : Hp) (st st' : Sto) (x y : V) (a b d : D) (Q : VK), RelS K μ H st → Rep K μ H x a → Rep K μ H y b → o a b st = some (d, st') → Post K μ H st' d Q → r x y H Q
def UnD (K : PySem.W.Frag) (r : V → Hp → VK → Prop) (o : D → Sto → Option (D × Sto)) : Prop :=
  ∀ (μ : List Addr) (H : Hp) (st st' : Sto) (x : V) (a d : D) (Q : VK), RelS K μ H st → Rep K μ H x a → o a st = some (d, st') → Post K μ H st' d Q → r x H Q
theorem Post.after {K : PySem.W.Frag} {μ μ1 : List Addr} {H H1 : Hp} {st' : Sto} {d : D} {Q : VK} (q : Post K μ H st' d Q) (s : Step μ H μ1 H1) : Post K μ1 H1 st' d Q :=
  fun v H' μ' rs s' r => q v H' μ' rs (s.trans s') r
section
variable {X : Cx} {K : PySem.W.Frag} {a b : Expr} {fa fb : DF} {pos : Pos} {σ : L2.St} {H : Hp} {Q : VK} {r : R2} {o : D → D → Sto → Option (D × Sto)}
theorem dBin_le (hd : OpD K r o) (h : tD K (dBin o fa fb) σ H Q) : tD K fa σ H fun x H1 => tD K fb σ H1 fun y H2 => r x y H2 Q := by
  obtain ⟨ρ, st, μ, rs, re, d, st', e, q⟩ := h
  unfold dBin at e
  obtain ⟨p, e1, e2⟩ := Option.bind_eq_some_iff.mp e
  obtain ⟨p2, e3, e4⟩ := Option.bind_eq_some_iff.mp e2
  exact ⟨ρ, st, μ, rs, re, p.1, p.2, e1, fun x H1 μ1 rs1 s1 r1 => ⟨ρ, p.2, μ1, rs1, re.step s1, p2.1, p2.2, e3, fun y H2 μ2 rs2 s2 r2 =>
    hd μ2 H2 p2.2 st' x y p.1 p2.1 d Q rs2 (s2.rep _ _ r1) r2 e4 (q.after (s1.trans s2))⟩⟩
theorem d_bin {op : Operator} (ho : OpR X (binaryOp op) r) (hd : OpD X.K r o) (ha : DE X a fa) (hb : DE X b fb) : DE X (.BinOp a op b pos) (dBin o fa fb) :=
  imp (pe_op ho ha hb) fun _ _ _ h => dBin_le hd h
theorem d_cmp {op : CmpOp} (ho : OpR X (compareOp op) r) (hd : OpD X.K r o) (ha : DE X a fa) (hb : DE X b fb) (hm : behindInMarks op b = false) : DE X (.Compare a [op] [b] pos) (dBin o fa fb) :=
  imp (pe_cmpR ho ha hb hm) fun _ _ _ h => dBin_le hd h
theorem dUn_le {r : V → Hp → VK → Prop} {o : D → Sto → Option (D × Sto)} (hd : UnD K r o) (h : tD K (dUn o fa) σ H Q) : tUn r (tD K fa) σ H Q := by
  obtain ⟨ρ, st, μ, rs, re, d, st', e, q⟩ := h
  unfold dUn at e
  obtain ⟨p, e1, e2⟩ := Option.bind_eq_some_iff.mp e
  exact ⟨ρ, st, μ, rs, re, p.1, p.2, e1, fun x H1 μ1 rs1 s1 r1 => hd μ1 H1 p.2 st' x p.1 d Q rs1 r1 e2 (q.after s1)⟩
theorem d_un {op : UnaryOp} {r : V → Hp → VK → Prop} {o : D → Sto → Option (D × Sto)} (ho : UnR X (unaryOp op) r) (hd : UnD X.K r o) (ha : DE X a fa) : DE X (.UnaryOp op a pos) (dUn o fa) :=
  imp (pe_un ho ha) fun _ _ _ h => dUn_le hd h
theorem d_ix (hr : IxR X r) (hd : OpD X.K r o) (ha : DE X a fa) (hb : DE X b fb) (hs : PlainIx b) : DE X (.Subscript a b pos) (dBin o fa fb) :=
  imp (pe_ix hr ha hb hs) fun _ _ _ h => dBin_le hd h
end

/-! ### tests -/
/-- a value that is a bool -/
def dB (f : DF) : DFb := fun ρ st => (f ρ st).bind fun p => match p.1 with
  | .bl b => some (b, p.2)
  | _ => none
def truD (st : Sto) : D → Option Bool
  | .non => some false
  | .bl b => some b
  | .int i => some (i != 0)
  | .str x => if x.length ≤ 16777216 then some ((x.length : Int) != 0) else none
  | .tup xs => some (!xs.isEmpty)
  | .ref n => match st[n]? with
    | some (.lst xs) => some (!xs.isEmpty)
    | none => none
  | .fz xs => some (!xs.isEmpty)
/-- a value by its truth -/
def dTr (f : DF) : DFb := fun ρ st => (f ρ st).bind fun p => (truD p.2 p.1).map fun b => (b, p.2)
def dNotT (f : DFb) : DFb := fun ρ st => (f ρ st).map fun p => (!p.1, p.2)
def dAndT (f g : DFb) : DFb := fun ρ st => (f ρ st).bind fun p => if p.1 = true then g ρ p.2 else some (false, p.2)
def dOrT (f g : DFb) : DFb := fun ρ st => (f ρ st).bind fun p => if p.1 = true then some (true, p.2) else g ρ p.2
/-- a test's answer as a value -/
def dV (f : DFb) : DF := fun ρ st => (f ρ st).map fun p => (.bl p.1, p.2)
/-- x and y, x or y as values -/
def dAnd (f g : DF) : DF := fun ρ st => (f ρ st).bind fun p => (truD p.2 p.1).bind fun b => if b = true then g ρ p.2 else some p
def dOr (f g : DF) : DF := fun ρ st => (f ρ st).bind fun p => (truD p.2 p.1).bind fun b => if b = true then some p else g ρ p.2
def dNot (f : DF) : DF := fun ρ st => (f ρ st).bind fun p => (truD p.2 p.1).map fun b => (.bl (!b), p.2)
def dIfE (c : DFb) (f g : DF) : DF := fun ρ st => (c ρ st).bind fun p => if p.1 = true then f ρ p.2 else g ρ p.2
theorem isEmpty_reps {K : PySem.W.Frag} {μ : List Addr} {H : Hp} {vs : List V} {ds : List D} (r : Reps K μ H vs ds) : vs.isEmpty = ds.isEmpty := by
  cases r <;> rfl
theorem RelS.cell {K : PySem.W.Frag} {μ : List Addr} {H : Hp} {st : Sto} (rs : RelS K μ H st) {n : Nat} {c : Cell} {x : V} (r : Rep K μ H x (.ref n)) (e : st[n]? = some c) : ∃ a, x = .ref a ∧ μ[n]? = some a ∧ CellOk K μ H a c := by
  cases r with
  | @ref a n h => exact ⟨a, rfl, h, rs.ok n a c h e⟩
theorem CellOk.sq {K : PySem.W.Frag} {μ : List Addr} {H : Hp} {a : Addr} {c : Cell} (h : CellOk K μ H a c) : ∃ vs, SqL K H a vs ∧ Reps K μ H vs (match c with | .lst ds => ds) := by
  cases c with
  | lst ds => obtain ⟨vs, e, r⟩ := h; exact ⟨vs, SqL.of e, r⟩
theorem line_eq : sizeLine = 16777216 := sizeLine_eq
theorem tru_ok2 {K : PySem.W.Frag} {μ : List Addr} {H : Hp} {st : Sto} (rs : RelS K μ H st) {x : V} {d : D} {b : Bool} (r : Rep K μ H x d) (e : truD st d = some b) : TruV K x H b := by
  cases r with
  | non => cases e; rfl
  | bl c => cases e; rfl
  | int i => cases e; rfl
  | str z =>
    have e' : (if z.length ≤ 16777216 then some ((z.length : Int) != 0) else none) = some b := e
    split at e'
    · rename_i hz
      cases e'
      exact ⟨by rw [line_eq]; exact hz, rfl⟩
    · cases e'
  | tup h1 h2 =>
    cases e
    exact .inr (.inl ⟨_, h1, by rw [isEmpty_reps h2]⟩)
  | @ref a n h =>
    have e' : (match st[n]? with
      | some (.lst xs) => some (!xs.isEmpty)
      | none => none) = some b := e
    cases q : st[n]? with
    | none => rw [q] at e'; cases e'
    | some c =>
      rw [q] at e'
      obtain ⟨vs, h1, h2⟩ := (rs.ok n a c h q).sq
      cases c with
      | lst xs => cases e'; exact .inl ⟨vs, h1, by rw [isEmpty_reps h2]⟩
  | fz h1 h2 =>
    cases e
    exact .inl ⟨_, h1.sq, by rw [isEmpty_reps h2]⟩
section
variable {X : Cx} {K : PySem.W.Frag} {a b : Expr} {fa fb : DF} {ga gb : DFb} {pos : Pos} {σ : L2.St} {H : Hp} {Q : VK} {rest : List Expr}
theorem dTr_le {Q : Bool → Hp → Prop} (h : tDb K (dTr fa) σ H Q) : tD K fa σ H fun x H' => ∃ k, TruV K x H' k ∧ Q k H' := by
  obtain ⟨ρ, st, μ, rs, re, d, st', e, q⟩ := h
  unfold dTr at e
  obtain ⟨p, e1, e2⟩ := Option.bind_eq_some_iff.mp e
  obtain ⟨c, e3, e4⟩ := Option.map_eq_some_iff.mp e2
  cases e4
  exact ⟨ρ, st, μ, rs, re, p.1, p.2, e1, fun x H1 μ1 rs1 s1 r1 => ⟨_, tru_ok2 rs1 r1 e3, q H1 μ1 rs1 s1⟩⟩
/-- an expression's truth: a name, a call, a subscript -/
theorem dt_tr (ha : DE X a fa) (he : ∀ whole, isTrue a X.env whole = (do let v ← whole; standAt a.pos; holding [v] (truthy v))) : DT X a (dTr fa) :=
  impT (pt_truth ha he) fun _ _ _ h => dTr_le h
theorem dB_le {Q : Bool → Hp → Prop} (h : tDb K (dB fa) σ H Q) : tD K fa σ H fun x H' => ∃ k, x = .bl k ∧ Q k H' := by
  obtain ⟨ρ, st, μ, rs, re, c, st', e, q⟩ := h
  unfold dB at e
  obtain ⟨p, e1, e2⟩ := Option.bind_eq_some_iff.mp e
  refine ⟨ρ, st, μ, rs, re, p.1, p.2, e1, fun x H1 μ1 rs1 s1 r1 => ?_⟩
  obtain ⟨d, st1⟩ := p
  cases d with
  | bl k => cases r1; cases e2; exact ⟨_, rfl, q H1 μ1 rs1 s1⟩
  | _ => cases e2
theorem dt_cmp {op : CmpOp} {r : R2} {o : D → D → Sto → Option (D × Sto)} (ho : OpR X (compareOp op) r) (hd : OpD X.K r o) (ha : DE X a fa) (hb : DE X b fb) (hm : behindInMarks op b = false) : DT X (.Compare a [op] [b] pos) (dB (dBin o fa fb)) :=
  impT (pt_cmpR ho ha hb hm) fun _ _ _ h => dBin_le hd (dB_le h)
theorem dt_not (ha : DT X a ga) : DT X (.UnaryOp .Not a pos) (dNotT ga) := impT (pt_not ha) fun σ H Q h => by
  obtain ⟨ρ, st, μ, rs, re, c, st', e, q⟩ := h
  obtain ⟨p, e1, e2⟩ := Option.map_eq_some_iff.mp e
  cases e2
  exact ⟨ρ, st, μ, rs, re, p.1, p.2, e1, q⟩
theorem dw_and1 (ha : DT X a ga) : DW X (.BoolOp .And [a] pos) ga := pw_and1 ha
theorem dw_or1 (ha : DT X a ga) : DW X (.BoolOp .Or [a] pos) ga := pw_or1 ha
theorem dw_and (ha : DT X a ga) (hb : DW X (.BoolOp .And (b :: rest) pos) gb) : DW X (.BoolOp .And (a :: b :: rest) pos) (dAndT ga gb) := impW (pw_and ha hb) fun σ H Q h => by
  obtain ⟨ρ, st, μ, rs, re, c, st', e, q⟩ := h
  obtain ⟨p, e1, e2⟩ := Option.bind_eq_some_iff.mp e
  refine ⟨ρ, st, μ, rs, re, p.1, p.2, e1, fun H1 μ1 rs1 s1 => ?_⟩
  obtain ⟨k, st1⟩ := p
  cases k with
  | true => exact iteT ⟨ρ, st1, μ1, rs1, re.step s1, c, st', e2, fun H2 μ2 rs2 s2 => q H2 μ2 rs2 (s1.trans s2)⟩
  | false => cases e2; exact iteF (q H1 μ1 rs1 s1)
theorem dw_or (ha : DT X a ga) (hb : DW X (.BoolOp .Or (b :: rest) pos) gb) : DW X (.BoolOp .Or (a :: b :: rest) pos) (dOrT ga gb) := impW (pw_or ha hb) fun σ H Q h => by
  obtain ⟨ρ, st, μ, rs, re, c, st', e, q⟩ := h
  obtain ⟨p, e1, e2⟩ := Option.bind_eq_some_iff.mp e
  refine ⟨ρ, st, μ, rs, re, p.1, p.2, e1, fun H1 μ1 rs1 s1 => ?_⟩
  obtain ⟨k, st1⟩ := p
  cases k with
  | false => exact iteF ⟨ρ, st1, μ1, rs1, re.step s1, c, st', e2, fun H2 μ2 rs2 s2 => q H2 μ2 rs2 (s1.trans s2)⟩
  | true => cases e2; exact iteT (q H1 μ1 rs1 s1)
theorem d_one {op : BoolOp} (h : DE X a fa) : DE X (.BoolOp op [a] pos) fa := pe_one h
theorem d_and (ha : DE X a fa) (hb : DE X (.BoolOp .And (b :: rest) pos) fb) : DE X (.BoolOp .And (a :: b :: rest) pos) (dAnd fa fb) := imp (pe_andT ha hb) fun σ H Q h => by
  obtain ⟨ρ, st, μ, rs, re, d, st', e, q⟩ := h
  obtain ⟨p, e1, e2⟩ := Option.bind_eq_some_iff.mp e
  obtain ⟨c, e3, e4⟩ := Option.bind_eq_some_iff.mp e2
  refine ⟨ρ, st, μ, rs, re, p.1, p.2, e1, fun x H1 μ1 rs1 s1 r1 => ⟨c, tru_ok2 rs1 r1 e3, ?_⟩⟩
  cases c with
  | true => exact iteT ⟨ρ, p.2, μ1, rs1, re.step s1, d, st', e4, q.after s1⟩
  | false => cases e4; exact iteF (q x H1 μ1 rs1 s1 r1)
theorem d_or (ha : DE X a fa) (hb : DE X (.BoolOp .Or (b :: rest) pos) fb) : DE X (.BoolOp .Or (a :: b :: rest) pos) (dOr fa fb) := imp (pe_orT ha hb) fun σ H Q h => by
  obtain ⟨ρ, st, μ, rs, re, d, st', e, q⟩ := h
  obtain ⟨p, e1, e2⟩ := Option.bind_eq_some_iff.mp e
  obtain ⟨c, e3, e4⟩ := Option.bind_eq_some_iff.mp e2
  refine ⟨ρ, st, μ, rs, re, p.1, p.2, e1, fun x H1 μ1 rs1 s1 r1 => ⟨c, tru_ok2 rs1 r1 e3, ?_⟩⟩
  cases c with
  | false => exact iteF ⟨ρ, p.2, μ1, rs1, re.step s1, d, st', e4, q.after s1⟩
  | true => cases e4; exact iteT (q x H1 μ1 rs1 s1 r1)
theorem d_not (ha : DE X a fa) : DE X (.UnaryOp .Not a pos) (dNot fa) := imp (pe_notT ha) fun σ H Q h => by
  obtain ⟨ρ, st, μ, rs, re, d, st', e, q⟩ := h
  obtain ⟨p, e1, e2⟩ := Option.bind_eq_some_iff.mp e
  obtain ⟨c, e3, e4⟩ := Option.map_eq_some_iff.mp e2
  cases e4
  exact ⟨ρ, st, μ, rs, re, p.1, p.2, e1, fun x H1 μ1 rs1 s1 r1 => ⟨c, tru_ok2 rs1 r1 e3, q _ H1 μ1 rs1 s1 (.bl _)⟩⟩
theorem d_ifE {c : Expr} {gc : DFb} (hc : DT X c gc) (ha : DE X a fa) (hb : DE X b fb) : DE X (.IfExp c a b pos) (dIfE gc fa fb) := imp (pe_ifExp hc ha hb) fun σ H Q h => by
  obtain ⟨ρ, st, μ, rs, re, d, st', e, q⟩ := h
  obtain ⟨p, e1, e2⟩ := Option.bind_eq_some_iff.mp e
  refine ⟨ρ, st, μ, rs, re, p.1, p.2, e1, fun H1 μ1 rs1 s1 => ?_⟩
  obtain ⟨k, st1⟩ := p
  cases k with
  | true => exact iteT ⟨ρ, st1, μ1, rs1, re.step s1, d, st', e2, q.after s1⟩
  | false => exact iteF ⟨ρ, st1, μ1, rs1, re.step s1, d, st', e2, q.after s1⟩
end

/-! ### chains: a op b op c -/
def dChain (o o' : D → D → Sto → Option (D × Sto)) (fa fb fc : DF) : DF := fun ρ st => (fa ρ st).bind fun p => (fb ρ p.2).bind fun q => (o p.1 q.1 q.2).bind fun z => match z.1 with
  | .bl true => (fc ρ z.2).bind fun w => o' q.1 w.1 w.2
  | .bl false => some (.bl false, z.2)
  | _ => none
section
variable {X : Cx} {K : PySem.W.Frag} {a b c : Expr} {fa fb fc : DF} {pos : Pos} {σ : L2.St} {H : Hp} {Q : VK} {r r' : R2} {o o' : D → D → Sto → Option (D × Sto)}
theorem dChain_le (hd : OpD K r o) (hd' : OpD K r' o') (h : tD K (dChain o o' fa fb fc) σ H Q) : tChain r r' (tD K fa) (tD K fb) (tD K fc) σ H Q := by
  obtain ⟨ρ, st, μ, rs, re, d, st', e, q⟩ := h
  obtain ⟨p, e1, e2⟩ := Option.bind_eq_some_iff.mp e
  obtain ⟨p2, e3, e4⟩ := Option.bind_eq_some_iff.mp e2
  obtain ⟨p3, e5, e6⟩ := Option.bind_eq_some_iff.mp e4
  refine ⟨ρ, st, μ, rs, re, p.1, p.2, e1, fun x H1 μ1 rs1 s1 r1 => ⟨ρ, p.2, μ1, rs1, re.step s1, p2.1, p2.2, e3, fun y H2 μ2 rs2 s2 r2 => ?_⟩⟩
  refine hd μ2 H2 p2.2 p3.2 x y p.1 p2.1 p3.1 _ rs2 (s2.rep _ _ r1) r2 e5 fun z H3 μ3 rs3 s3 r3 => ?_
  obtain ⟨d3, st3⟩ := p3
  cases d3 with
  | bl k =>
    cases r3
    refine ⟨k, rfl, ?_⟩
    cases k with
    | true =>
      obtain ⟨p4, e7, e8⟩ := Option.bind_eq_some_iff.mp e6
      refine iteT ⟨ρ, st3, μ3, rs3, ((re.step s1).step s2).step s3, p4.1, p4.2, e7, fun w H4 μ4 rs4 s4 r4 => ?_⟩
      exact hd' μ4 H4 p4.2 st' y w p2.1 p4.1 d Q rs4 ((s3.trans s4).rep _ _ r2) r4 e8 (q.after (((s1.trans s2).trans s3).trans s4))
    | false =>
      cases e6
      exact iteF (q _ H3 μ3 rs3 ((s1.trans s2).trans s3) (.bl false))
  | _ => cases e6
theorem d_chain {op op' : CmpOp} (ho : OpR X (compareOp op) r) (hd : OpD X.K r o) (ho' : OpR X (compareOp op') r') (hd' : OpD X.K r' o') (ha : DE X a fa) (hb : DE X b fb) (hc : DE X c fc)
    (hm : lastMarks [op, op'] [b, c] = false := by with_unfolding_all rfl) : DE X (.Compare a [op, op'] [b, c] pos) (dChain o o' fa fb fc) := imp (pe_chain ho ho' ha hb hc hm) fun _ _ _ h => dChain_le hd hd' h
theorem dt_chain {op op' : CmpOp} (ho : OpR X (compareOp op) r) (hd : OpD X.K r o) (ho' : OpR X (compareOp op') r') (hd' : OpD X.K r' o') (ha : DE X a fa) (hb : DE X b fb) (hc : DE X c fc)
    (hm : lastMarks [op, op'] [b, c] = false := by with_unfolding_all rfl) : DT X (.Compare a [op, op'] [b, c] pos) (dB (dChain o o' fa fb fc)) := impT (pt_chain ho ho' ha hb hc hm) fun _ _ _ h => dChain_le hd hd' (dB_le h)
end

/-! ### arguments, displays, calls of built-ins -/
def dNil : DFs := fun _ st => some ([], st)
def dCons (f : DF) (g : DFs) : DFs := fun ρ st => (f ρ st).bind fun p => (g ρ p.2).map fun q => (p.1 :: q.1, q.2)
def dTup (f : DFs) : DF := fun ρ st => (f ρ st).bind fun p => if p.1.length ≤ 16777216 then some (.tup p.1, p.2) else none
def dLst (f : DFs) : DF := fun ρ st => (f ρ st).bind fun p => if p.1.length ≤ 16777216 then some (.ref p.2.length, p.2 ++ [.lst p.1]) else none
def dCB (o : List D → Sto → Option (D × Sto)) (f : DFs) : DF := fun ρ st => (f ρ st).bind fun p => o p.1 p.2
def CallD (K : PySem.W.Frag) (r : List V → Hp → VK → Prop) (o : List D → Sto → Option (D × Sto)) : Prop :=
  ∀ (μ : List Addr) (H : Hp) (st st' : Sto) (xs : List V) (ds : List D) (d : D) (Q : VK), RelS K μ H st → Reps K μ H xs ds → o ds st = some (d, st') → Post K μ H st' d Q → r xs H Q
section
variable {X : Cx} {K : PySem.W.Frag} {e : Expr} {es : List Expr} {f : DF} {g : DFs} {pos : Pos} {σ : L2.St} {H : Hp} {Q : VK}
theorem da_nil : DAs X [] dNil := impA pa_nil fun σ H Q h => by
  obtain ⟨ρ, st, μ, rs, re, ds, st', e, q⟩ := h
  cases e
  exact q [] H μ rs .refl .nil
theorem dCons_le {Q : List V → Hp → Prop} (h : tDs K (dCons f g) σ H Q) : tCons (tD K f) (tDs K g) σ H Q := by
  obtain ⟨ρ, st, μ, rs, re, ds, st', e, q⟩ := h
  obtain ⟨p, e1, e2⟩ := Option.bind_eq_some_iff.mp e
  obtain ⟨p2, e3, e4⟩ := Option.map_eq_some_iff.mp e2
  cases e4
  exact ⟨ρ, st, μ, rs, re, p.1, p.2, e1, fun x H1 μ1 rs1 s1 r1 => ⟨ρ, p.2, μ1, rs1, re.step s1, p2.1, p2.2, e3, fun xs H2 μ2 rs2 s2 r2 => q _ H2 μ2 rs2 (s1.trans s2) (.cons (s2.rep _ _ r1) r2)⟩⟩
theorem da_cons (ha : DE X e f) (hr : DAs X es g) (hs : starEach (e :: es) X.env = (false, eval e X.env) :: starEach es X.env := by rfl) : DAs X (e :: es) (dCons f g) :=
  impA (pa_cons ha hr hs) fun _ _ _ h => dCons_le h
theorem d_tup {x1 : Nat} (h : DAs X es g) : DE X (.Tuple es x1 pos) (dTup g) := imp (pe_tup h) fun σ H Q q => by
  obtain ⟨ρ, st, μ, rs, re, d, st', e, q⟩ := q
  obtain ⟨p, e1, e2⟩ := Option.bind_eq_some_iff.mp e
  split at e2
  · rename_i hl
    cases e2
    refine ⟨ρ, st, μ, rs, re, p.1, p.2, e1, fun vs H1 μ1 rs1 s1 r1 => ⟨by rw [r1.length, line_eq]; exact hl, fun a ha => ?_⟩⟩
    exact q _ _ μ1 (rs1.new ha) (s1.trans (step_new ha)) (.tup (SqT.of upd_same) ((step_new ha).reps _ _ r1))
  · cases e2
theorem d_lst (h : DAs X es g) : DE X (.List es pos) (dLst g) := imp (pe_lst h) fun σ H Q q => by
  obtain ⟨ρ, st, μ, rs, re, d, st', e, q⟩ := q
  obtain ⟨p, e1, e2⟩ := Option.bind_eq_some_iff.mp e
  split at e2
  · rename_i hl
    cases e2
    refine ⟨ρ, st, μ, rs, re, p.1, p.2, e1, fun vs H1 μ1 rs1 s1 r1 => ⟨by rw [r1.length, line_eq]; exact hl, fun a ha => ?_⟩⟩
    exact q _ _ _ (rs1.alloc ha r1) (s1.trans (step_alloc ha)) (.ref (by rw [← rs1.len]; exact List.getElem?_concat_length))
  · cases e2
theorem dCB_le {r : List V → Hp → VK → Prop} {o : List D → Sto → Option (D × Sto)} (hd : CallD K r o) (h : tD K (dCB o g) σ H Q) : tCB r (tDs K g) σ H Q := by
  obtain ⟨ρ, st, μ, rs, re, d, st', e, q⟩ := h
  obtain ⟨p, e1, e2⟩ := Option.bind_eq_some_iff.mp e
  exact ⟨ρ, st, μ, rs, re, p.1, p.2, e1, fun vs H1 μ1 rs1 s1 r1 => hd μ1 H1 p.2 st' vs p.1 d Q rs1 r1 e2 (q.after s1)⟩
theorem d_callB {x : Str} {p : Pos} {id : String} {r : List V → Hp → VK → Prop} {o : List D → Sto → Option (D × Sto)} (hc : CallR X (.builtin id) r) (hd : CallD X.K r o) (hg : Gl X x) (hm : X.mg x = none) (hv : bootBuiltins x = some (.builtin id)) (ha : DAs X (e :: es) g)
    (hn : x ≠ "__name__" := by decide) (hdb : (x == ("__debug__" : Str)) = false := by decide)
    (he : starEach (e :: es) X.env = (false, eval e X.env) :: starEach es X.env := by rfl) (hpl : (backTo pos (starEach es X.env)).any (·.1) = false := by rfl) : DE X (.Call (.Name x p) (e :: es) [] pos) (dCB o g) :=
  imp (pe_callB hc hg hm hv ha hn hdb he hpl) fun _ _ _ h => dCB_le hd h
theorem d_callTy {x : Str} {p : Pos} {T : String} {r : List V → Hp → VK → Prop} {o : List D → Sto → Option (D × Sto)} (hc : CallR X (.type T) r) (hd : CallD X.K r o) (hg : Gl X x) (hm : X.mg x = none) (hv : bootBuiltins x = some (.type T)) (ha : DAs X (e :: es) g)
    (hn : x ≠ "__name__" := by decide) (hdb : (x == ("__debug__" : Str)) = false := by decide)
    (he : starEach (e :: es) X.env = (false, eval e X.env) :: starEach es X.env := by rfl) (hpl : (backTo pos (starEach es X.env)).any (·.1) = false := by rfl) : DE X (.Call (.Name x p) (e :: es) [] pos) (dCB o g) :=
  imp (pe_callTy hc hg hm hv ha hn hdb he hpl) fun _ _ _ h => dCB_le hd h
end

/-! ### calls of defs -/
abbrev Fn := List D → Sto → Option (D × Sto)
def spD (K : PySem.W.Frag) (n : Nat) (F : Fn) : Sp := fun vs H Q _ => ∃ (ds : List D) (st : Sto) (μ : List Addr), RelS K μ H st ∧ Reps K μ H vs ds ∧ ds.length = n ∧ ∃ (d : D) (st' : Sto), F ds st = some (d, st') ∧ Post K μ H st' d Q
theorem spD_len {K : PySem.W.Frag} {n : Nat} {F : Fn} (vs : List V) (H : Hp) (Q : VK) (E : XK) (h : spD K n F vs H Q E) : vs.length = n := by
  obtain ⟨ds, st, μ, rs, r, hl, _⟩ := h
  rw [r.length, hl]
def dCall (F : Fn) (dv : List D) (g : DFs) : DF := fun ρ st => (g ρ st).bind fun p => F (p.1 ++ dv) p.2
section
variable {X : Cx} {K : PySem.W.Frag} {e : Expr} {es : List Expr} {g : DFs} {σ : L2.St} {H : Hp} {Q : VK} {F : Fn} {n k : Nat} {dvs : List V} {dv : List D}
theorem dCall_le {E : XK} (hv : ∀ μ H, Reps K μ H dvs dv) (hn : ∀ (ds : List D), (∃ ρ st st', g ρ st = some (ds, st')) → (ds ++ dv).length = n) (h : tD K (dCall F dv g) σ H Q) : tCall (spD K n F) dvs E (tDs K g) σ H Q := by
  obtain ⟨ρ, st, μ, rs, re, d, st', e, q⟩ := h
  obtain ⟨p, e1, e2⟩ := Option.bind_eq_some_iff.mp e
  exact ⟨ρ, st, μ, rs, re, p.1, p.2, e1, fun vs H1 μ1 rs1 s1 r1 => ⟨p.1 ++ dv, p.2, μ1, rs1, r1.append (hv μ1 H1), hn _ ⟨ρ, st, p.2, e1⟩, d, st', e2, q.after s1⟩⟩
theorem dNil_len {ρ : DEnv} {st st' : Sto} {ds : List D} (h : dNil ρ st = some (ds, st')) : ds.length = 0 := by cases h; rfl
/-- the arguments' number -/
def NArg (g : DFs) (n : Nat) : Prop := ∀ (ρ : DEnv) (st st' : Sto) (ds : List D), g ρ st = some (ds, st') → ds.length = n
theorem narg_nil : NArg dNil 0 := fun _ _ _ _ h => dNil_len h
theorem narg_cons {f : DF} {g : DFs} {n : Nat} (h : NArg g n) : NArg (dCons f g) (n + 1) := fun ρ st st' ds e => by
  obtain ⟨p, e1, e2⟩ := Option.bind_eq_some_iff.mp e
  obtain ⟨p2, e3, e4⟩ := Option.map_eq_some_iff.mp e2
  cases e4
  rw [List.length_cons, h _ _ _ _ e3]
theorem d_call {f : Addr} {fd : FuncData} {ps : List Str} {x : Str} {p pos : Pos} {ds : List Value} {m : Nat} (F' : FnOk X.prog X.w X.K X.mg X.base CX0 k f fd ps (spD X.K n F)) (hr : Room k X.A) (hg : Gl X x) (hm : X.mg x = some (.ref f)) (hk : PySem.W.keepIn X.K (.ref f) = true)
    (hb : Binds X.K fd ps ds) (hd : Vals dvs ds) (hv : ∀ μ H, Reps X.K μ H dvs dv) (hnn : NArg g m) (hlen : m + dv.length = n) (ha : DAs X (e :: es) g) (hdb : (x == ("__debug__" : Str)) = false := by decide)
    (he : starEach (e :: es) X.env = (false, eval e X.env) :: starEach es X.env := by rfl) (hpl : (backTo pos (starEach es X.env)).any (·.1) = false := by rfl) :
    DE X (.Call (.Name x p) (e :: es) [] pos) (dCall F dv g) :=
  imp (pe_call F' hr hg hm hk hb hd pass0 ha hdb he hpl) fun _ _ _ h => dCall_le hv (fun ds ⟨_, _, _, e⟩ => by rw [List.length_append, hnn _ _ _ _ e, hlen]) h
theorem d_call0 {f : Addr} {fd : FuncData} {ps : List Str} {x : Str} {p pos : Pos} {ds : List Value} (F' : FnOk X.prog X.w X.K X.mg X.base CX0 k f fd ps (spD X.K n F)) (hr : Room k X.A) (hg : Gl X x) (hm : X.mg x = some (.ref f)) (hk : PySem.W.keepIn X.K (.ref f) = true)
    (hb : Binds X.K fd ps ds) (hd : Vals dvs ds) (hv : ∀ μ H, Reps X.K μ H dvs dv) (hlen : dv.length = n) (hdb : (x == ("__debug__" : Str)) = false := by decide) :
    DE X (.Call (.Name x p) [] [] pos) (dCall F dv dNil) :=
  imp (pe_call0 F' hr hg hm hk hb hd pass0 hdb) fun σ H Q h => by
    obtain ⟨ρ, st, μ, rs, re, d, st', e, q⟩ := dCall_le (E := E0) (n := n) hv (fun ds ⟨_, _, _, e⟩ => by rw [List.length_append, dNil_len e, hlen, Nat.zero_add]) h
    cases e
    exact q [] H μ rs .refl .nil
end
end DL
end

section
set_option Elab.async false
set_option linter.all false
set_option maxRecDepth 100000
set_option maxHeartbeats 4000000
/-! The data layer, part C: operators, subscripts, built-ins on data. -/
namespace DL
open PySem PySem.Spec PyProof.Rows L2
noncomputable section

/-- a list's or a tuple's items -/
def seqD (st : Sto) : D → Option (List D)
  | .tup xs => some xs
  | .ref n => match st[n]? with
    | some (.lst xs) => some xs
    | none => none
  | .fz xs => some xs
  | _ => none
mutual
/-- as data; a reference is no data -/
def pyD : D → PyData
  | .non => .none
  | .bl b => .bool b
  | .int i => .int i
  | .str x => .str x
  | .tup xs => .tuple (pyDs xs)
  | .ref _ => .dict []
  | .fz xs => .list (pyDs xs)
def pyDs : List D → List PyData
  | [] => []
  | d :: ds => pyD d :: pyDs ds
end
/-- as data, a list by its items -/
def pyS (st : Sto) : D → PyData
  | .ref n => match st[n]? with
    | some (.lst xs) => .list (pyDs xs)
    | none => .dict []
  | d => pyD d
theorem pyDs_eq : ∀ ds : List D, pyDs ds = ds.map pyD
  | [] => by simp [pyDs]
  | d :: ds => by simp [pyDs, pyDs_eq ds]

section
variable {K : PySem.W.Frag} {μ : List Addr} {H : Hp} {st : Sto}
theorem seq_rep (rs : RelS K μ H st) {x : V} {d : D} {ds : List D} (r : Rep K μ H x d) (e : seqD st d = some ds) : ∃ a vs, x = .ref a ∧ (SqL K H a vs ∨ SqT K H a vs) ∧ Reps K μ H vs ds := by
  cases r with
  | tup h1 h2 => cases e; exact ⟨_, _, rfl, .inr h1, h2⟩
  | @ref a n h =>
    have e' : (match st[n]? with
      | some (.lst xs) => some xs
      | none => none) = some ds := e
    cases q : st[n]? with
    | none => rw [q] at e'; cases e'
    | some c =>
      rw [q] at e'
      obtain ⟨vs, h1, h2⟩ := (rs.ok n a c h q).sq
      cases c with
      | lst xs => cases e'; exact ⟨a, vs, rfl, .inl h1, h2⟩
  | fz h1 h2 => cases e; exact ⟨_, _, rfl, .inl h1.sq, h2⟩
  | _ => cases e
theorem lst_rep (rs : RelS K μ H st) {x : V} {n : Nat} {ds : List D} (r : Rep K μ H x (.ref n)) (e : st[n]? = some (.lst ds)) : ∃ a vs, x = .ref a ∧ μ[n]? = some a ∧ H a = some (.lst vs) ∧ Reps K μ H vs ds := by
  obtain ⟨a, rfl, h1, vs, h2, h3⟩ := rs.cell r e
  exact ⟨a, vs, rfl, h1, h2, h3⟩
mutual
theorem dp_of : ∀ (d : D) (v : V), Rep K μ H v d → SeqAt.shaped (pyD d) = true ∨ True → (∀ n, d ≠ .ref n) → (pyD d).canLay0 = true → Dp K H v (pyD d)
  | .non, _, h, _, _, _ => by cases h; simp only [pyD]; exact .non
  | .bl b, _, h, _, _, _ => by cases h; simp only [pyD]; exact .bl b
  | .int i, _, h, _, _, _ => by cases h; simp only [pyD]; exact .int i
  | .str x, _, h, _, _, _ => by cases h; simp only [pyD]; exact .str x
  | .tup ds, _, h, _, _, c => by
    cases h with
    | tup h1 h2 =>
      simp only [pyD, PyData.canLay0] at c ⊢
      exact .tup h1 (dps_of ds _ h2 c)
  | .ref n, _, _, _, z, _ => absurd rfl (z n)
  | .fz ds, _, h, _, _, c => by
    cases h with
    | fz h1 h2 =>
      simp only [pyD, PyData.canLay0] at c ⊢
      exact .lst h1.sq (dps_of ds _ h2 c)
theorem dps_of : ∀ (ds : List D) (vs : List V), Reps K μ H vs ds → PyData.canLayAll0 (pyDs ds) = true → DpAll K H vs (pyDs ds)
  | [], _, h, _ => by cases h; simp only [pyDs]; exact .nil
  | d :: ds, _, h, c => by
    cases h with
    | cons h1 h2 =>
      simp only [pyDs, PyData.canLayAll0, Bool.and_eq_true] at c ⊢
      refine .cons (dp_of d _ h1 (.inr trivial) (fun n z => ?_) c.1) (dps_of ds _ h2 c.2)
      subst z
      simp [pyD, PyData.canLay0] at c
end
theorem dp_any (rs : RelS K μ H st) {d : D} {v : V} (r : Rep K μ H v d) (s : SeqAt.shaped (pyS st d) = true) : Dp K H v (pyS st d) := by
  cases d with
  | ref n =>
    have s' : SeqAt.shaped (match st[n]? with
      | some (.lst xs) => .list (pyDs xs)
      | none => .dict []) = true := s
    show Dp K H v (match st[n]? with
      | some (.lst xs) => .list (pyDs xs)
      | none => .dict [])
    cases q : st[n]? with
    | none => rw [q] at s'; simp [SeqAt.shaped, PyData.canLay0] at s'
    | some c =>
      rw [q] at s'
      obtain ⟨a, rfl, _, h⟩ := rs.cell r q
      obtain ⟨vs, h1, h2⟩ := h.sq
      cases c with
      | lst xs =>
        have c0 := SeqAt.canLay_of_shaped s'
        simp only [PyData.canLay0] at c0
        exact .lst h1 (dps_of xs _ h2 c0)
  | non => exact dp_of _ _ r (.inr trivial) (fun n z => by cases z) (SeqAt.canLay_of_shaped s)
  | bl b => exact dp_of _ _ r (.inr trivial) (fun n z => by cases z) (SeqAt.canLay_of_shaped s)
  | int i => exact dp_of _ _ r (.inr trivial) (fun n z => by cases z) (SeqAt.canLay_of_shaped s)
  | str x => exact dp_of _ _ r (.inr trivial) (fun n z => by cases z) (SeqAt.canLay_of_shaped s)
  | tup xs => exact dp_of _ _ r (.inr trivial) (fun n z => by cases z) (SeqAt.canLay_of_shaped s)
  | fz xs => exact dp_of _ _ r (.inr trivial) (fun n z => by cases z) (SeqAt.canLay_of_shaped s)

/-! ### arithmetic -/
/-- a product that the model reckons -/
def MulOk (i j : Int) : Prop := i.natAbs < 18446744073709551616 ∨ j.natAbs < 18446744073709551616 ∨ (i.natAbs < 2 ^ 1000 ∧ j.natAbs < 2 ^ 1000)
noncomputable instance (i j : Int) : Decidable (MulOk i j) := Classical.propDecidable _
theorem MulOk.ok {i j : Int} (h : MulOk i j) : IntMulOk i j := by
  rcases h with h | h | ⟨h1, h2⟩
  · exact .of_left (intBits_le_64 (by omega) (by omega))
  · exact .of_right (intBits_le_64 (by omega) (by omega))
  · exact CMulW.ok (wide_mul h1 h2 (by decide) (by decide) (by decide))
def DivOk (j : Int) : Prop := j ≠ 0 ∧ j.natAbs < 115792089237316195423570985008687907853269984665640564039457584007913129639936
noncomputable instance (j : Int) : Decidable (DivOk j) := Classical.propDecidable _
theorem divOk {j : Int} (h : decide (j ≠ 0 ∧ j.natAbs < 115792089237316195423570985008687907853269984665640564039457584007913129639936) = true) : DivOk j := by
  have z := of_decide_eq_true h
  exact z
theorem op_mulA {X : Cx} : OpR X (binaryOp .Mult) (rI MulOk fun i j => .int (i * j)) := opI fun _ _ _ _ _ _ _ hc q => mul_int q hc.ok
theorem divOk_log {j : Int} (h : DivOk j) : j.natAbs.log2 < 9000 := by
  have h2 : j.natAbs < 2 ^ 256 := Nat.lt_of_lt_of_le h.2 (by decide)
  exact Nat.lt_of_lt_of_le (PySem.Flt.log2_lt_of (by decide) h2) (by decide)
theorem op_fdivA {X : Cx} : OpR X (binaryOp .FloorDiv) (rI (fun _ j => DivOk j) fun i j => .int (i.fdiv j)) := opI fun _ _ _ _ _ _ _ hc q => floordiv_int hc.1 q (.inl (PyProof.noPylong_of_log2 (divOk_log hc)))

def oAdd : D → D → Sto → Option (D × Sto)
  | .int i, .int j, st => some (.int (i + j), st)
  | .str x, .str y, st => if x.length + y.length ≤ 16777216 then some (.str (x ++ y), st) else none
  | .tup xs, .tup ys, st => if xs.length + ys.length ≤ 16777216 then some (.tup (xs ++ ys), st) else none
  | .ref n, .ref m, st => match st[n]?, st[m]? with
    | some (.lst xs), some (.lst ys) => if xs.length + ys.length ≤ 16777216 then some (.ref st.length, st ++ [.lst (xs ++ ys)]) else none
    | _, _ => none
  | _, _, _ => none
def oSub : D → D → Sto → Option (D × Sto)
  | .int i, .int j, st => some (.int (i - j), st)
  | _, _, _ => none
def oMul : D → D → Sto → Option (D × Sto)
  | .int i, .int j, st => if MulOk i j then some (.int (i * j), st) else none
  | .ref n, .int k, st => match st[n]? with
    | some (.lst xs) => if -(2 ^ 63) ≤ k ∧ k < 2 ^ 63 ∧ xs.length * k.toNat ≤ 16777216 then some (.ref st.length, st ++ [.lst (List.replicate k.toNat xs).flatten]) else none
    | _ => none
  | _, _, _ => none
def oFdiv : D → D → Sto → Option (D × Sto)
  | .int i, .int j, st => if DivOk j then some (.int (i.fdiv j), st) else none
  | _, _, _ => none
def oMod : D → D → Sto → Option (D × Sto)
  | .int i, .int j, st => if j ≠ 0 then some (.int (i.fmod j), st) else none
  | _, _, _ => none
def oPow : D → D → Sto → Option (D × Sto)
  | .int i, .int j, st => if 0 ≤ j ∧ j ≤ 1000000 ∧ i.natAbs < 2 ^ 64 then some (.int (i ^ j.toNat), st) else none
  | _, _, _ => none
def oNeg : D → Sto → Option (D × Sto)
  | .int i, st => some (.int (-i), st)
  | _, _ => none

abbrev rAddA (K : PySem.W.Frag) : R2 := fun x y H Q => (rI0 fun i j => .int (i + j)) x y H Q ∨ (∃ i j, x = .str i ∧ y = .str j ∧ i.length + j.length ≤ sizeLine ∧ Q (.str (i ++ j)) H) ∨ rCatA K x y H Q ∨ rCat x y H Q
theorem op_addA {X : Cx} : OpR X (binaryOp .Add) (rAddA X.K) := op_add.or (op_add_str.or (op_catA.or op_cat))
theorem od_add : OpD K (rAddA K) oAdd := by
  intro μ H st st' x y a b d Q rs rx ry e q
  cases rx with
  | int i =>
    cases ry with
    | int j => cases e; exact .inl ⟨i, j, rfl, rfl, q _ H μ rs .refl (.int _)⟩
    | _ => cases e
  | str i =>
    cases ry with
    | str j =>
      have e' : (if i.length + j.length ≤ 16777216 then some (D.str (i ++ j), st) else none) = some (d, st') := e
      split at e'
      · rename_i hz
        cases e'
        exact .inr (.inl ⟨i, j, rfl, rfl, by rw [line_eq]; exact hz, q _ H μ rs .refl (.str _)⟩)
      · cases e'
    | _ => cases e
  | @tup a1 vs ds h1 h2 =>
    cases ry with
    | @tup a2 ws es g1 g2 =>
      have e' : (if ds.length + es.length ≤ 16777216 then some (D.tup (ds ++ es), st) else none) = some (d, st') := e
      split at e'
      · rename_i hz
        cases e'
        refine .inr (.inr (.inl ⟨a1, a2, vs, ws, rfl, rfl, h1, g1, by rw [line_eq, h2.length, g2.length]; exact hz, fun z => ?_, fun z z2 => ?_, fun _ _ p hp => ?_⟩))
        · subst z
          cases h2
          exact q _ H μ rs .refl (.tup g1 g2)
        · subst z2
          cases g2
          exact q _ H μ rs .refl (.tup h1 (by simpa using h2))
        · exact q _ _ μ (rs.new hp) (step_new hp) (.tup (SqT.of upd_same) ((step_new hp).reps _ _ (h2.append g2)))
      · cases e'
    | _ => cases e
  | @ref a1 n h =>
    cases ry with
    | @ref a2 m g =>
      have e' : (match st[n]?, st[m]? with
        | some (.lst xs), some (.lst ys) => if xs.length + ys.length ≤ 16777216 then some (D.ref st.length, st ++ [Cell.lst (xs ++ ys)]) else none
        | _, _ => none) = some (d, st') := e
      split at e'
      · rename_i xs ys q1 q2
        split at e'
        · rename_i hz
          cases e'
          obtain ⟨vs, h1, h2⟩ := rs.ok n a1 _ h q1
          obtain ⟨ws, g1, g2⟩ := rs.ok m a2 _ g q2
          refine .inr (.inr (.inr ⟨a1, a2, vs, ws, rfl, rfl, h1, g1, by rw [line_eq, h2.length, g2.length]; exact hz, fun p hp => ?_⟩))
          exact q _ _ _ (rs.alloc hp (h2.append g2)) (step_alloc hp) (.ref (by rw [← rs.len]; exact List.getElem?_concat_length))
        · cases e'
      · cases e'
    | _ => cases e
  | _ => cases e
theorem od_sub : OpD K (rI0 fun i j => .int (i - j)) oSub := by
  intro μ H st st' x y a b d Q rs rx ry e q
  cases rx with
  | int i =>
    cases ry with
    | int j => cases e; exact ⟨i, j, rfl, rfl, q _ H μ rs .refl (.int _)⟩
    | _ => cases e
  | _ => cases e
abbrev rMulA : R2 := fun x y H Q => (rI MulOk fun i j => .int (i * j)) x y H Q ∨ rRep x y H Q
theorem op_mulB {X : Cx} : OpR X (binaryOp .Mult) rMulA := op_mulA.or op_rep
theorem od_mul : OpD K rMulA oMul := by
  intro μ H st st' x y a b d Q rs rx ry e q
  cases rx with
  | int i =>
    cases ry with
    | int j =>
      have e' : (if MulOk i j then some (D.int (i * j), st) else none) = some (d, st') := e
      split at e'
      · rename_i hz
        cases e'
        exact .inl ⟨i, j, rfl, rfl, hz, q _ H μ rs .refl (.int _)⟩
      · cases e'
    | _ => cases e
  | @ref a1 n h =>
    cases ry with
    | int k =>
      have e' : (match st[n]? with
        | some (.lst xs) => if -(2 ^ 63) ≤ k ∧ k < 2 ^ 63 ∧ xs.length * k.toNat ≤ 16777216 then some (D.ref st.length, st ++ [Cell.lst (List.replicate k.toNat xs).flatten]) else none
        | _ => none) = some (d, st') := e
      split at e'
      · rename_i xs q1
        split at e'
        · rename_i hz
          cases e'
          obtain ⟨vs, h1, h2⟩ := rs.ok n a1 _ h q1
          refine .inr ⟨a1, k, vs, rfl, rfl, h1, hz.1, hz.2.1, by rw [line_eq, h2.length]; exact hz.2.2, fun p hp => ?_⟩
          exact q _ _ _ (rs.alloc hp (h2.repl _)) (step_alloc hp) (.ref (by rw [← rs.len]; exact List.getElem?_concat_length))
        · cases e'
      · cases e'
    | _ => cases e
  | _ => cases e
theorem od_fdiv : OpD K (rI (fun _ j => DivOk j) fun i j => .int (i.fdiv j)) oFdiv := by
  intro μ H st st' x y a b d Q rs rx ry e q
  cases rx with
  | int i =>
    cases ry with
    | int j =>
      have e' : (if DivOk j then some (D.int (i.fdiv j), st) else none) = some (d, st') := e
      split at e'
      · rename_i hz
        cases e'
        exact ⟨i, j, rfl, rfl, hz, q _ H μ rs .refl (.int _)⟩
      · cases e'
    | _ => cases e
  | _ => cases e
theorem od_mod : OpD K (rI (fun _ j => j ≠ 0) fun i j => .int (i.fmod j)) oMod := by
  intro μ H st st' x y a b d Q rs rx ry e q
  cases rx with
  | int i =>
    cases ry with
    | int j =>
      have e' : (if j ≠ 0 then some (D.int (i.fmod j), st) else none) = some (d, st') := e
      split at e'
      · rename_i hz
        cases e'
        exact ⟨i, j, rfl, rfl, hz, q _ H μ rs .refl (.int _)⟩
      · cases e'
    | _ => cases e
  | _ => cases e
theorem od_pow : OpD K (rI CPow fun i j => .int (i ^ j.toNat)) oPow := by
  intro μ H st st' x y a b d Q rs rx ry e q
  cases rx with
  | int i =>
    cases ry with
    | int j =>
      have e' : (if 0 ≤ j ∧ j ≤ 1000000 ∧ i.natAbs < 2 ^ 64 then some (D.int (i ^ j.toNat), st) else none) = some (d, st') := e
      split at e'
      · rename_i hz
        cases e'
        exact ⟨i, j, rfl, rfl, hz, q _ H μ rs .refl (.int _)⟩
      · cases e'
    | _ => cases e
  | _ => cases e
theorem ud_neg : UnD K (rU fun i => .int (-i)) oNeg := by
  intro μ H st st' x a d Q rs rx e q
  cases rx with
  | int i => cases e; exact ⟨i, rfl, q _ H μ rs .refl (.int _)⟩
  | _ => cases e

/-! ### comparisons -/
def scalD : D → D → Bool
  | .non, .non => true | .non, .int _ => true | .int _, .non => true | .non, .bl _ => true | .bl _, .non => true | .non, .str _ => true | .str _, .non => true
  | .int _, .int _ => true | .bl _, .bl _ => true | .str _, .str _ => true
  | .int _, .str _ => true | .str _, .int _ => true | .bl _, .str _ => true | .str _, .bl _ => true
  | _, _ => false
/-- Python's == on data -/
def eqB (st : Sto) (a b : D) : Option Bool := if scalD a b = true then some (PyData.eqv (pyD a) (pyD b)) else
  if SeqAt.shaped (pyS st a) = true ∧ SeqAt.shaped (pyS st b) = true then some (PyData.eqv (pyS st a) (pyS st b)) else none
def oEq (a b : D) (st : Sto) : Option (D × Sto) := (eqB st a b).map fun c => (.bl c, st)
def oNe (a b : D) (st : Sto) : Option (D × Sto) := (eqB st a b).map fun c => (.bl (!c), st)
theorem scal_of {x y : V} {a b : D} (rx : Rep K μ H x a) (ry : Rep K μ H y b) (s : scalD a b = true) : scal x y = true ∧ decide (x = y) = PyData.eqv (pyD a) (pyD b) := by
  cases rx <;> cases ry <;> first
    | exact absurd (show false = true from s) Bool.false_ne_true
    | (refine ⟨rfl, ?_⟩; simp [pyD, PyData.eqv] ; done)
    | (refine ⟨rfl, ?_⟩; simp [pyD, PyData.eqv]; exact (Bool.beq_eq_decide_eq _ _).symm)
    | (refine ⟨rfl, ?_⟩; simp only [pyD, PyData.eqv]; rw [Bool.eq_iff_iff]; simp)
abbrev rEqA (K : PySem.W.Frag) : R2 := fun x y H Q => rEq x y H Q ∨ rEqD K x y H Q
abbrev rNeA (K : PySem.W.Frag) : R2 := fun x y H Q => rNe x y H Q ∨ rNeD K x y H Q
theorem op_eqA {X : Cx} (hu : X.A.units + 64 < cLine) : OpR X (compareOp .Eq) (rEqA X.K) := op_eq.or (op_eqD hu)
theorem op_neA {X : Cx} (hu : X.A.units + 64 < cLine) : OpR X (compareOp .NotEq) (rNeA X.K) := op_ne.or (op_neD hu)
theorem od_eq : OpD K (rEqA K) oEq := by
  intro μ H st st' x y a b d Q rs rx ry e q
  obtain ⟨c, e1, e2⟩ := Option.map_eq_some_iff.mp e
  cases e2
  unfold eqB at e1
  split at e1
  · rename_i hs
    cases e1
    obtain ⟨h1, h2⟩ := scal_of rx ry hs
    exact .inl ⟨h1, by rw [h2]; exact q _ H μ rs .refl (.bl _)⟩
  · split at e1
    · rename_i hs
      cases e1
      exact .inr ⟨_, _, dp_any rs rx hs.1, dp_any rs ry hs.2, hs.1, hs.2, q _ H μ rs .refl (.bl _)⟩
    · cases e1
theorem od_ne : OpD K (rNeA K) oNe := by
  intro μ H st st' x y a b d Q rs rx ry e q
  obtain ⟨c, e1, e2⟩ := Option.map_eq_some_iff.mp e
  cases e2
  unfold eqB at e1
  split at e1
  · rename_i hs
    cases e1
    obtain ⟨h1, h2⟩ := scal_of rx ry hs
    exact .inl ⟨h1, by rw [h2]; exact q _ H μ rs .refl (.bl _)⟩
  · split at e1
    · rename_i hs
      cases e1
      exact .inr ⟨_, _, dp_any rs rx hs.1, dp_any rs ry hs.2, hs.1, hs.2, q _ H μ rs .refl (.bl _)⟩
    · cases e1
/-- an order of ints and of texts -/
def oOrd (p : Int → Int → Bool) (c : List Nat → List Nat → Bool) : D → D → Sto → Option (D × Sto)
  | .int i, .int j, st => some (.bl (p i j), st)
  | .str x, .str y, st => some (.bl (c x.cps.toList y.cps.toList), st)
  | _, _, _ => none
abbrev rOrd (p : Int → Int → Bool) (c : List Nat → List Nat → Bool) : R2 := fun x y H Q => (rI0 fun i j => .bl (p i j)) x y H Q ∨ ∃ i j, x = .str i ∧ y = .str j ∧ Q (.bl (c i.cps.toList j.cps.toList)) H
abbrev oLt := oOrd (fun i j => decide (i < j)) fun x y => decide (x < y)
abbrev oLe := oOrd (fun i j => decide (i ≤ j)) fun x y => !decide (y < x)
abbrev oGt := oOrd (fun i j => decide (j < i)) fun x y => decide (y < x)
abbrev oGe := oOrd (fun i j => decide (j ≤ i)) fun x y => !decide (x < y)
theorem op_ltA {X : Cx} : OpR X (compareOp .Lt) (rOrd (fun i j => decide (i < j)) fun x y => decide (x < y)) := op_lt.or op_lt_str
theorem op_leA {X : Cx} : OpR X (compareOp .LtE) (rOrd (fun i j => decide (i ≤ j)) fun x y => !decide (y < x)) := op_le.or op_le_str
theorem op_gtA {X : Cx} : OpR X (compareOp .Gt) (rOrd (fun i j => decide (j < i)) fun x y => decide (y < x)) := op_gt.or op_gt_str
theorem op_geA {X : Cx} : OpR X (compareOp .GtE) (rOrd (fun i j => decide (j ≤ i)) fun x y => !decide (x < y)) := op_ge.or op_ge_str
theorem od_ord {p : Int → Int → Bool} {c : List Nat → List Nat → Bool} : OpD K (rOrd p c) (oOrd p c) := by
  intro μ H st st' x y a b d Q rs rx ry e q
  cases rx with
  | int i =>
    cases ry with
    | int j => cases e; exact .inl ⟨i, j, rfl, rfl, q _ H μ rs .refl (.bl _)⟩
    | _ => cases e
  | str i =>
    cases ry with
    | str j => cases e; exact .inr ⟨i, j, rfl, rfl, q _ H μ rs .refl (.bl _)⟩
    | _ => cases e
  | _ => cases e
def isNonD : D → Bool
  | .non => true
  | _ => false
def oIsN (a b : D) (st : Sto) : Option (D × Sto) := if isNonD b = true then some (.bl (isNonD a), st) else none
def oNotN (a b : D) (st : Sto) : Option (D × Sto) := if isNonD b = true then some (.bl (!isNonD a), st) else none
theorem isNon_of {x : V} {a : D} (r : Rep K μ H x a) : decide (x = .non) = isNonD a := by
  cases r <;> first | rfl | (simp [isNonD])
theorem od_isN : OpD K (fun x y H Q => y = .non ∧ Q (.bl (decide (x = .non))) H) oIsN := by
  intro μ H st st' x y a b d Q rs rx ry e q
  unfold oIsN at e
  split at e
  · rename_i hb
    cases e
    refine ⟨of_decide_eq_true (by rw [isNon_of ry]; exact hb), ?_⟩
    rw [isNon_of rx]
    exact q _ H μ rs .refl (.bl _)
  · cases e
theorem od_notN : OpD K (fun x y H Q => y = .non ∧ Q (.bl (!decide (x = .non))) H) oNotN := by
  intro μ H st st' x y a b d Q rs rx ry e q
  unfold oNotN at e
  split at e
  · rename_i hb
    cases e
    refine ⟨of_decide_eq_true (by rw [isNon_of ry]; exact hb), ?_⟩
    rw [isNon_of rx]
    exact q _ H μ rs .refl (.bl _)
  · cases e

/-! ### in -/
def flatD : D → Bool
  | .non => true
  | .bl _ => true
  | .int _ => true
  | .str _ => true
  | _ => false
def isTupD : D → Bool
  | .tup _ => true
  | _ => false
/-- x in xs: flat items, or a list of data -/
def inB (st : Sto) (x y : D) : Option Bool := (seqD st y).bind fun ds => if flatD x = true ∧ ds.all flatD = true then some (ds.any fun z => PyData.eqv (pyD z) (pyD x)) else
  if isTupD y = false ∧ SeqAt.shaped (pyD x) = true ∧ SeqAt.shaped (.list (pyDs ds)) = true then some (ds.any fun z => PyData.eqv (pyD z) (pyD x)) else none
def oIn (x y : D) (st : Sto) : Option (D × Sto) := (inB st x y).map fun c => (.bl c, st)
def oNotIn (x y : D) (st : Sto) : Option (D × Sto) := (inB st x y).map fun c => (.bl (!c), st)
theorem eqV_of {x y : V} {a b : D} (rx : Rep K μ H x a) (ry : Rep K μ H y b) (fa : flatD a = true) (fb : flatD b = true) : eqV x y = PyData.eqv (pyD a) (pyD b) := by
  cases rx <;> cases ry <;> first
    | exact absurd (show false = true from fa) Bool.false_ne_true
    | exact absurd (show false = true from fb) Bool.false_ne_true
    | (simp [eqV, pyD, PyData.eqv])
theorem flat_of {x : V} {a : D} (rx : Rep K μ H x a) (f : flatD a = true) : flatV x = true := by
  cases rx <;> first | rfl | exact absurd (show false = true from f) Bool.false_ne_true
theorem flats_of : ∀ {vs : List V} {ds : List D}, Reps K μ H vs ds → ds.all flatD = true → vs.all flatV = true
  | _, _, .nil, _ => rfl
  | _, _, .cons r t, h => by
    rw [List.all_cons, Bool.and_eq_true] at h
    rw [List.all_cons, flat_of r h.1, flats_of t h.2]; rfl
theorem inV_of {x : V} {a : D} (rx : Rep K μ H x a) (fa : flatD a = true) : ∀ {vs : List V} {ds : List D}, Reps K μ H vs ds → ds.all flatD = true → inV x vs = ds.any fun z => PyData.eqv (pyD z) (pyD a)
  | _, _, .nil, _ => rfl
  | _, _, .cons r t, h => by
    rw [List.all_cons, Bool.and_eq_true] at h
    have ih := inV_of rx fa t h.2
    unfold inV at ih ⊢
    rw [List.any_cons, List.any_cons, ih, eqV_of r rx h.1 fa]
theorem any_map_py (x : D) : ∀ ds : List D, (pyDs ds).any (fun z => PyData.eqv z (pyD x)) = ds.any fun z => PyData.eqv (pyD z) (pyD x)
  | [] => by simp [pyDs]
  | d :: ds => by simp [pyDs, any_map_py x ds]
abbrev rInA (K : PySem.W.Frag) : R2 := fun x y H Q => rIn K false x y H Q ∨ rInD K x y H Q
abbrev rNotInA (K : PySem.W.Frag) : R2 := fun x y H Q => rIn K true x y H Q ∨ rNotInD K x y H Q
theorem op_inA {X : Cx} (hu : X.A.units + 65 < cLine) : OpR X (compareOp .In) (rInA X.K) := op_in_seq.or (op_inD hu)
theorem op_notInA {X : Cx} (hu : X.A.units + 65 < cLine) : OpR X (compareOp .NotIn) (rNotInA X.K) := op_notIn_seq.or (op_notInD hu)
theorem in_core (rs : RelS K μ H st) {x y : V} {a b : D} {c : Bool} (rx : Rep K μ H x a) (ry : Rep K μ H y b) (e : inB st a b = some c) :
    (∃ p xs, y = .ref p ∧ (SqL K H p xs ∨ SqT K H p xs) ∧ flatV x = true ∧ xs.all flatV = true ∧ inV x xs = c) ∨
    (∃ d ds, Dp K H x d ∧ Dp K H y (.list ds) ∧ SeqAt.shaped d = true ∧ SeqAt.shaped (.list ds) = true ∧ (ds.any fun z => PyData.eqv z d) = c) := by
  obtain ⟨ds, e1, e2⟩ := Option.bind_eq_some_iff.mp e
  obtain ⟨p, vs, rfl, hs, r⟩ := seq_rep rs ry e1
  split at e2
  · rename_i hf
    cases e2
    exact .inl ⟨p, vs, rfl, hs, flat_of rx hf.1, flats_of r hf.2, inV_of rx hf.1 r hf.2⟩
  · split at e2
    · rename_i hf
      cases e2
      refine .inr ⟨pyD a, pyDs ds, ?_, ?_, hf.2.1, hf.2.2, any_map_py a ds⟩
      · have h1 : ∀ n, a ≠ .ref n := fun n z => by
          have h3 := hf.2.1
          rw [z] at h3
          simp [pyD, SeqAt.shaped, PyData.canLay0] at h3
        exact dp_of a x rx (.inr trivial) h1 (SeqAt.canLay_of_shaped hf.2.1)
      · cases ry with
        | tup h1 h2 => exact absurd hf.1 (by simp [isTupD])
        | @ref _ n h =>
          have e' : (match st[n]? with
            | some (.lst xs) => some xs
            | none => none) = some ds := e1
          have c0 := SeqAt.canLay_of_shaped hf.2.2
          simp only [PyData.canLay0] at c0
          cases qn : st[n]? with
          | none => rw [qn] at e'; cases e'
          | some cc =>
            rw [qn] at e'
            obtain ⟨ws, h1, h2⟩ := (rs.ok n p cc h qn).sq
            cases cc with
            | lst xs => cases e'; exact .lst h1 (dps_of ds _ h2 c0)
        | fz h1 h2 =>
          cases e1
          have c0 := SeqAt.canLay_of_shaped hf.2.2
          simp only [PyData.canLay0] at c0
          exact .lst h1.sq (dps_of ds _ h2 c0)
        | _ => cases e1
    · cases e2
theorem od_in : OpD K (rInA K) oIn := by
  intro μ H st st' x y a b d Q rs rx ry e q
  obtain ⟨c, e1, e2⟩ := Option.map_eq_some_iff.mp e
  cases e2
  have q' := q (.bl c) H μ rs .refl (.bl _)
  rcases in_core rs rx ry e1 with ⟨p, xs, rfl, h1, h2, h3, h4⟩ | ⟨d, ds, h1, h2, h3, h4, h5⟩
  · exact .inl ⟨p, xs, rfl, h1, h2, h3, by rw [if_neg Bool.false_ne_true, h4]; exact q'⟩
  · exact .inr ⟨d, ds, h1, h2, h3, h4, by rw [h5]; exact q'⟩
theorem od_notIn : OpD K (rNotInA K) oNotIn := by
  intro μ H st st' x y a b d Q rs rx ry e q
  obtain ⟨c, e1, e2⟩ := Option.map_eq_some_iff.mp e
  cases e2
  have q' := q (.bl (!c)) H μ rs .refl (.bl _)
  rcases in_core rs rx ry e1 with ⟨p, xs, rfl, h1, h2, h3, h4⟩ | ⟨d, ds, h1, h2, h3, h4, h5⟩
  · exact .inl ⟨p, xs, rfl, h1, h2, h3, by rw [if_pos rfl, h4]; exact q'⟩
  · exact .inr ⟨d, ds, h1, h2, h3, h4, by rw [h5]; exact q'⟩

/-! ### subscripts -/
def oIx : D → D → Sto → Option (D × Sto)
  | .str x, .int i, st => if x.length ≤ 16777216 then (atI x.cps.toList i).map fun c => (.str ⟨#[c]⟩, st) else none
  | a, .int i, st => (seqD st a).bind fun ds => (atI ds i).map fun d => (d, st)
  | _, _, _ => none
theorem atI_rep {vs : List V} {ds : List D} {i : Int} {d : D} (r : Reps K μ H vs ds) (e : atI ds i = some d) : ∃ v, atI vs i = some v ∧ Rep K μ H v d := by
  unfold atI at e ⊢
  rw [r.length]
  obtain ⟨j, e1, e2⟩ := Option.bind_eq_some_iff.mp e
  obtain ⟨v, e3, h⟩ := r.get e2
  exact ⟨v, by rw [e1]; exact e3, h⟩
theorem od_ix : OpD K (rIx K) oIx := by
  intro μ H st st' x y a b d Q rs rx ry e q
  have go : ∀ {i : Int}, y = .int i → ((seqD st a).bind fun ds => (atI ds i).map fun d => (d, st)) = some (d, st') → rIx K x y H Q := fun {i} hy e => by
    obtain ⟨ds, e1, e2⟩ := Option.bind_eq_some_iff.mp e
    obtain ⟨d', e3, e4⟩ := Option.map_eq_some_iff.mp e2
    cases e4
    obtain ⟨p, vs, rfl, hs, r⟩ := seq_rep rs rx e1
    obtain ⟨v, e5, h⟩ := atI_rep r e3
    rcases hs with hs | hs
    · exact .inl ⟨p, vs, i, v, rfl, hy, hs, e5, q v H μ rs .refl h⟩
    · exact .inr (.inl ⟨p, vs, i, v, rfl, hy, hs, e5, q v H μ rs .refl h⟩)
  cases ry with
  | int i =>
    cases a with
    | str z =>
      cases rx
      have e' : (if z.length ≤ 16777216 then (atI z.cps.toList i).map fun c => (D.str ⟨#[c]⟩, st) else none) = some (d, st') := e
      split at e'
      · rename_i hz
        obtain ⟨c, e1, e2⟩ := Option.map_eq_some_iff.mp e'
        cases e2
        exact .inr (.inr ⟨z, i, c, rfl, rfl, by rw [line_eq]; exact hz, e1, q _ H μ rs .refl (.str _)⟩)
      · cases e'
    | tup xs => exact go rfl e
    | ref n => exact go rfl e
    | fz xs => exact go rfl e
    | non => cases e
    | bl b => cases e
    | int j => cases e
  | _ => cases a <;> cases e

/-! ### slices -/
abbrev DO := DEnv → Sto → Option (Option Int × Sto)
def tDo (K : PySem.W.Frag) (f : DO) : TO := fun σ H Q => ∃ (ρ : DEnv) (st : Sto) (μ : List Addr), RelS K μ H st ∧ RelE K μ σ H ρ ∧ ∃ (o : Option Int) (st' : Sto), f ρ st = some (o, st') ∧
  ∀ (H' : Hp) (μ' : List Addr), RelS K μ' H' st' → Step μ H μ' H' → Q o H'
def oNo : DO := fun _ st => some (none, st)
def oPart (f : DF) : DO := fun ρ st => (f ρ st).bind fun p => match p.1 with
  | .int i => some (some i, p.2)
  | _ => none
abbrev DOx (X : Cx) (e : Option Expr) (f : DO) : Prop := PO X e (tDo X.K f)
theorem impO {X : Cx} {e : Option Expr} {t t' : TO} (h : PO X e t) (k : ∀ σ H Q, t' σ H Q → t σ H Q) : PO X e t' := ⟨fun pins s σ H Q I q => h.run pins s σ H Q I (k σ H Q q)⟩
theorem do_none {X : Cx} : DOx X none oNo := impO po_none fun σ H Q h => by
  obtain ⟨ρ, st, μ, rs, re, o, st', e, q⟩ := h
  cases e
  exact q H μ rs .refl
theorem do_some {X : Cx} {e : Expr} {f : DF} (h : DE X e f) : DOx X (some e) (oPart f) := impO (po_some h) fun σ H Q q => by
  obtain ⟨ρ, st, μ, rs, re, o, st', e, q⟩ := q
  obtain ⟨p, e1, e2⟩ := Option.bind_eq_some_iff.mp e
  refine ⟨ρ, st, μ, rs, re, p.1, p.2, e1, fun x H1 μ1 rs1 s1 r1 => ?_⟩
  obtain ⟨d, st1⟩ := p
  cases d with
  | int i => cases r1; cases e2; exact ⟨i, rfl, q H1 μ1 rs1 s1⟩
  | _ => cases e2
def cutD (xs : List D) (lo hi : Option Int) : List D := (xs.drop (HT.sIx xs.length 0 lo)).take (HT.sIx xs.length xs.length hi - HT.sIx xs.length 0 lo)
def oSl (lo hi : Option Int) : D → Sto → Option (D × Sto)
  | .tup xs, st => some (.tup (cutD xs lo hi), st)
  | .ref n, st => match st[n]? with
    | some (.lst xs) => some (.ref st.length, st ++ [.lst (cutD xs lo hi)])
    | none => none
  | .fz xs, st => some (.ref st.length, st ++ [.lst (cutD xs lo hi)])
  | .str x, st => if x.length ≤ 16777216 then some (.str (cutS x lo hi), st) else none
  | _, _ => none
def dSl (f : DF) (l h : DO) : DF := fun ρ st => (f ρ st).bind fun p => (l ρ p.2).bind fun a => (h ρ a.2).bind fun b => oSl a.1 b.1 p.1 b.2
abbrev rSlX (K : PySem.W.Frag) : V → Option Int → Option Int → Hp → VK → Prop := fun x lo hi H Q => rSlL K x lo hi H Q ∨ rSlA K x lo hi H Q ∨ rSlS x lo hi H Q
theorem sl_any {X : Cx} : SlR X (rSlX X.K) := sl_list.or (sl_tupA.or sl_str)
theorem cut_rep {vs : List V} {ds : List D} (lo hi : Option Int) (r : Reps K μ H vs ds) : Reps K μ H (cutV vs lo hi) (cutD ds lo hi) := by
  unfold cutV cutD
  rw [r.length]
  exact (r.drop _).take _
theorem cut_whole {ds : List D} {lo hi : Option Int} (h : HT.sIx ds.length 0 lo = 0 ∧ HT.sIx ds.length ds.length hi = ds.length) : cutD ds lo hi = ds := by
  unfold cutD
  rw [h.1, h.2]
  simp
theorem sl_core (rs : RelS K μ H st) {x : V} {a d : D} {st' : Sto} {lo hi : Option Int} {Q : VK} (r : Rep K μ H x a) (e : oSl lo hi a st = some (d, st')) (q : Post K μ H st' d Q) : rSlX K x lo hi H Q := by
  cases r with
  | @tup p vs ds h1 h2 =>
    cases e
    refine .inr (.inl ⟨p, vs, rfl, h1, fun z => ?_, fun _ t ht => ?_⟩)
    · rw [h2.length] at z
      refine q _ H μ rs .refl ?_
      rw [cut_whole z]
      exact .tup h1 h2
    · exact q _ _ μ (rs.new ht) (step_new ht) (.tup (SqT.of upd_same) ((step_new ht).reps _ _ (cut_rep lo hi h2)))
  | str z =>
    have e' : (if z.length ≤ 16777216 then some (D.str (cutS z lo hi), st) else none) = some (d, st') := e
    split at e'
    · rename_i hz
      cases e'
      exact .inr (.inr ⟨z, rfl, by rw [line_eq]; exact hz, q _ H μ rs .refl (.str _)⟩)
    · cases e'
  | @ref p n h =>
    have e' : (match st[n]? with
      | some (.lst xs) => some (D.ref st.length, st ++ [Cell.lst (cutD xs lo hi)])
      | none => none) = some (d, st') := e
    cases qn : st[n]? with
    | none => rw [qn] at e'; cases e'
    | some cc =>
      rw [qn] at e'
      obtain ⟨ws, h1, h2⟩ := (rs.ok n p cc h qn).sq
      cases cc with
      | lst xs =>
        cases e'
        exact .inl ⟨p, ws, rfl, h1, fun l hl => q _ _ _ (rs.alloc hl (cut_rep lo hi h2)) (step_alloc hl) (.ref (by rw [← rs.len]; exact List.getElem?_concat_length))⟩
  | @fz p ws xs h1 h2 =>
    cases e
    exact .inl ⟨p, ws, rfl, h1.sq, fun l hl => q _ _ _ (rs.alloc hl (cut_rep lo hi h2)) (step_alloc hl) (.ref (by rw [← rs.len]; exact List.getElem?_concat_length))⟩
  | _ => cases e
theorem d_slice {X : Cx} {e : Expr} {f : DF} {lo hi : Option Expr} {fl fh : DO} {pos p2 : Pos} (he : DE X e f) (hl : DOx X lo fl) (hu : DOx X hi fh) : DE X (.Subscript e (.Slice lo hi none p2) pos) (dSl f fl fh) :=
  imp (pe_slice sl_any he hl hu) fun σ H Q h => by
    obtain ⟨ρ, st, μ, rs, re, d, st', e, q⟩ := h
    obtain ⟨p, e1, e2⟩ := Option.bind_eq_some_iff.mp e
    obtain ⟨a, e3, e4⟩ := Option.bind_eq_some_iff.mp e2
    obtain ⟨b, e5, e6⟩ := Option.bind_eq_some_iff.mp e4
    exact ⟨ρ, st, μ, rs, re, p.1, p.2, e1, fun x H1 μ1 rs1 s1 r1 => ⟨ρ, p.2, μ1, rs1, re.step s1, a.1, a.2, e3, fun H2 μ2 rs2 s2 => ⟨ρ, a.2, μ2, rs2, (re.step s1).step s2, b.1, b.2, e5, fun H3 μ3 rs3 s3 =>
      sl_core rs3 ((s2.trans s3).rep _ _ r1) e6 (q.after ((s1.trans s2).trans s3))⟩⟩⟩

/-! ### built-ins -/
def bLen : List D → Sto → Option (D × Sto)
  | [.str x], st => if x.length ≤ 16777216 then some (.int x.length, st) else none
  | [d], st => (seqD st d).map fun ds => (.int ds.length, st)
  | _, _ => none
theorem reps1 {xs : List V} {d : D} (r : Reps K μ H xs [d]) : ∃ x, xs = [x] ∧ Rep K μ H x d := by
  cases r with
  | cons r t => cases t; exact ⟨_, rfl, r⟩
theorem reps2 {xs : List V} {d d2 : D} (r : Reps K μ H xs [d, d2]) : ∃ x y, xs = [x, y] ∧ Rep K μ H x d ∧ Rep K μ H y d2 := by
  cases r with
  | cons r t =>
    cases t with
    | cons r2 t2 => cases t2; exact ⟨_, _, rfl, r, r2⟩
theorem cd_len : CallD K (fun xs H Q => ∃ x n, xs = [x] ∧ LenV K x H n ∧ Q (.int n) H) bLen := by
  intro μ H st st' xs ds d Q rs r e q
  cases ds with
  | nil => cases e
  | cons a t =>
  cases t with
  | cons b t => cases a <;> cases e
  | nil =>
    obtain ⟨x, rfl, rx⟩ := reps1 r
    have go : ((seqD st a).map fun ds => (D.int ds.length, st)) = some (d, st') → ∃ y n, [x] = [y] ∧ LenV K y H n ∧ Q (.int n) H := fun e => by
      obtain ⟨ds, e1, e2⟩ := Option.map_eq_some_iff.mp e
      cases e2
      obtain ⟨p, vs, rfl, hs, rr⟩ := seq_rep rs rx e1
      refine ⟨_, ds.length, rfl, ?_, q _ H μ rs .refl (.int _)⟩
      rcases hs with hs | hs
      · exact .inl ⟨vs, hs, rr.length.symm⟩
      · exact .inr ⟨vs, hs, rr.length.symm⟩
    cases a with
    | str z =>
      cases rx
      have e' : (if z.length ≤ 16777216 then some (D.int z.length, st) else none) = some (d, st') := e
      split at e'
      · rename_i hz
        cases e'
        exact ⟨_, z.length, rfl, ⟨by rw [line_eq]; exact hz, rfl⟩, q _ H μ rs .refl (.int _)⟩
      · cases e'
    | tup xs => exact go e
    | ref n => exact go e
    | fz xs => exact go e
    | non => exact go e
    | bl b => exact go e
    | int j => exact go e
def bAbs : List D → Sto → Option (D × Sto)
  | [.int i], st => some (.int (if i < 0 then -i else i), st)
  | _, _ => none
theorem cd_abs : CallD K (fun xs H Q => ∃ i, xs = [.int i] ∧ Q (.int (if i < 0 then -i else i)) H) bAbs := by
  intro μ H st st' xs ds d Q rs r e q
  unfold bAbs at e
  split at e
  · obtain ⟨x, rfl, rx⟩ := reps1 r
    cases rx
    cases e
    exact ⟨_, rfl, q _ H μ rs .refl (.int _)⟩
  · cases e
def bMax2 : List D → Sto → Option (D × Sto)
  | [.int i, .int j], st => some (.int (if j > i then j else i), st)
  | _, _ => none
def bMin2 : List D → Sto → Option (D × Sto)
  | [.int i, .int j], st => some (.int (if j < i then j else i), st)
  | _, _ => none
theorem cd_max2 : CallD K (fun xs H Q => ∃ i j, xs = [.int i, .int j] ∧ Q (.int (if j > i then j else i)) H) bMax2 := by
  intro μ H st st' xs ds d Q rs r e q
  unfold bMax2 at e
  split at e
  · obtain ⟨x, y, rfl, rx, ry⟩ := reps2 r
    cases rx
    cases ry
    cases e
    exact ⟨_, _, rfl, q _ H μ rs .refl (.int _)⟩
  · cases e
theorem cd_min2 : CallD K (fun xs H Q => ∃ i j, xs = [.int i, .int j] ∧ Q (.int (if j < i then j else i)) H) bMin2 := by
  intro μ H st st' xs ds d Q rs r e q
  unfold bMin2 at e
  split at e
  · obtain ⟨x, y, rfl, rx, ry⟩ := reps2 r
    cases rx
    cases ry
    cases e
    exact ⟨_, _, rfl, q _ H μ rs .refl (.int _)⟩
  · cases e
def bInt : List D → Sto → Option (D × Sto)
  | [.int i], st => some (.int i, st)
  | [.bl k], st => some (.int (if k then 1 else 0), st)
  | _, _ => none
theorem cd_int : CallD K (fun xs H Q => (∃ i, xs = [.int i] ∧ Q (.int i) H) ∨ ∃ k, xs = [.bl k] ∧ Q (.int (if k then 1 else 0)) H) bInt := by
  intro μ H st st' xs ds d Q rs r e q
  unfold bInt at e
  split at e
  · obtain ⟨x, rfl, rx⟩ := reps1 r
    cases rx
    cases e
    exact .inl ⟨_, rfl, q _ H μ rs .refl (.int _)⟩
  · obtain ⟨x, rfl, rx⟩ := reps1 r
    cases rx
    cases e
    exact .inr ⟨_, rfl, q _ H μ rs .refl (.int _)⟩
  · cases e
def bBool : List D → Sto → Option (D × Sto)
  | [.int i], st => some (.bl (i != 0), st)
  | [.bl k], st => some (.bl k, st)
  | _, _ => none
theorem cd_bool : CallD K (fun xs H Q => (∃ i, xs = [.int i] ∧ Q (.bl (i != 0)) H) ∨ ∃ k, xs = [.bl k] ∧ Q (.bl k) H) bBool := by
  intro μ H st st' xs ds d Q rs r e q
  unfold bBool at e
  split at e
  · obtain ⟨x, rfl, rx⟩ := reps1 r
    cases rx
    cases e
    exact .inl ⟨_, rfl, q _ H μ rs .refl (.bl _)⟩
  · obtain ⟨x, rfl, rx⟩ := reps1 r
    cases rx
    cases e
    exact .inr ⟨_, rfl, q _ H μ rs .refl (.bl _)⟩
  · cases e
/-- tuple(x) of a list or a tuple -/
def bTup : List D → Sto → Option (D × Sto)
  | [d], st => (seqD st d).map fun ds => (.tup ds, st)
  | _, _ => none
theorem cd_tup : CallD K (fun xs H Q => ∃ p ys, xs = [.ref p] ∧ ((SqL K H p ys ∧ ∀ l, H l = none → Q (.ref l) (upd H l (.tup ys))) ∨ (SqT K H p ys ∧ Q (.ref p) H))) bTup := by
  intro μ H st st' xs ds d Q rs r e q
  unfold bTup at e
  split at e
  · obtain ⟨x, rfl, rx⟩ := reps1 r
    obtain ⟨es, e1, e2⟩ := Option.map_eq_some_iff.mp e
    cases e2
    obtain ⟨p, vs, rfl, hs, rr⟩ := seq_rep rs rx e1
    refine ⟨p, vs, rfl, ?_⟩
    rcases hs with hs | hs
    · exact .inl ⟨hs, fun l hl => q _ _ μ (rs.new hl) (step_new hl) (.tup (SqT.of upd_same) ((step_new hl).reps _ _ rr))⟩
    · exact .inr ⟨hs, q _ H μ rs .refl (.tup hs rr)⟩
  · cases e
def bList : List D → Sto → Option (D × Sto)
  | [d], st => (seqD st d).map fun ds => (.ref st.length, st ++ [.lst ds])
  | _, _ => none
theorem cd_list : CallD K (fun xs H Q => ∃ p ys, xs = [.ref p] ∧ (SqL K H p ys ∨ SqT K H p ys) ∧ ∀ l, H l = none → Q (.ref l) (upd H l (.lst ys))) bList := by
  intro μ H st st' xs ds d Q rs r e q
  unfold bList at e
  split at e
  · obtain ⟨x, rfl, rx⟩ := reps1 r
    obtain ⟨es, e1, e2⟩ := Option.map_eq_some_iff.mp e
    cases e2
    obtain ⟨p, vs, rfl, hs, rr⟩ := seq_rep rs rx e1
    exact ⟨p, vs, rfl, hs, fun l hl => q _ _ _ (rs.alloc hl rr) (step_alloc hl) (.ref (by rw [← rs.len]; exact List.getElem?_concat_length))⟩
  · cases e
/-- lists of ints, of bools -/
def intsD : List D → Option (List Int)
  | [] => some []
  | .int i :: r => (intsD r).map (i :: ·)
  | _ :: _ => none
def blsD : List D → Option (List Bool)
  | [] => some []
  | .bl i :: r => (blsD r).map (i :: ·)
  | _ :: _ => none
theorem ints_rep : ∀ {vs : List V} {ds : List D} {ns : List Int}, Reps K μ H vs ds → intsD ds = some ns → vs = ns.map V.int
  | _, _, _, .nil, e => by cases e; rfl
  | _, _, _, .cons (d := d) r t, e => by
    cases d with
    | int i =>
      obtain ⟨ms, e1, e2⟩ := Option.map_eq_some_iff.mp e
      cases e2
      cases r
      rw [ints_rep t e1] <;> rfl
    | _ => cases e
theorem bls_rep : ∀ {vs : List V} {ds : List D} {ns : List Bool}, Reps K μ H vs ds → blsD ds = some ns → vs = ns.map V.bl
  | _, _, _, .nil, e => by cases e; rfl
  | _, _, _, .cons (d := d) r t, e => by
    cases d with
    | bl i =>
      obtain ⟨ms, e1, e2⟩ := Option.map_eq_some_iff.mp e
      cases e2
      cases r
      rw [bls_rep t e1] <;> rfl
    | _ => cases e
/-- a LIST's items -/
def lstD (st : Sto) : D → Option (List D)
  | .ref n => match st[n]? with
    | some (.lst xs) => some xs
    | none => none
  | .fz xs => some xs
  | _ => none
theorem lstD_rep (rs : RelS K μ H st) {x : V} {d : D} {ds : List D} (r : Rep K μ H x d) (e : lstD st d = some ds) : ∃ a vs, x = .ref a ∧ SqL K H a vs ∧ Reps K μ H vs ds := by
  cases r with
  | @ref a n h =>
    have e' : (match st[n]? with
      | some (.lst xs) => some xs
      | none => none) = some ds := e
    cases q : st[n]? with
    | none => rw [q] at e'; cases e'
    | some c =>
      rw [q] at e'
      obtain ⟨vs, h1, h2⟩ := (rs.ok n a c h q).sq
      cases c with
      | lst xs => cases e'; exact ⟨a, vs, rfl, h1, h2⟩
  | fz h1 h2 => cases e; exact ⟨_, _, rfl, h1.sq, h2⟩
  | _ => cases e
def bSum : List D → Sto → Option (D × Sto)
  | [d], st => (lstD st d).bind fun ds => (intsD ds).map fun ns => (.int ns.sum, st)
  | _, _ => none
def bAll : List D → Sto → Option (D × Sto)
  | [d], st => (lstD st d).bind fun ds => (blsD ds).map fun ns => (.bl (ns.all id), st)
  | _, _ => none
def bAny : List D → Sto → Option (D × Sto)
  | [d], st => (lstD st d).bind fun ds => (blsD ds).map fun ns => (.bl (ns.any id), st)
  | _, _ => none
theorem cd_sum : CallD K (rSum K) bSum := by
  intro μ H st st' xs ds d Q rs r e q
  unfold bSum at e
  split at e
  · obtain ⟨x, rfl, rx⟩ := reps1 r
    obtain ⟨es, e1, e2⟩ := Option.bind_eq_some_iff.mp e
    obtain ⟨ns, e3, e4⟩ := Option.map_eq_some_iff.mp e2
    cases e4
    obtain ⟨p, vs, rfl, hs, rr⟩ := lstD_rep rs rx e1
    exact ⟨p, ns, rfl, by rw [← ints_rep rr e3]; exact hs, q _ H μ rs .refl (.int _)⟩
  · cases e
theorem cd_all : CallD K (rAll K) bAll := by
  intro μ H st st' xs ds d Q rs r e q
  unfold bAll at e
  split at e
  · obtain ⟨x, rfl, rx⟩ := reps1 r
    obtain ⟨es, e1, e2⟩ := Option.bind_eq_some_iff.mp e
    obtain ⟨ns, e3, e4⟩ := Option.map_eq_some_iff.mp e2
    cases e4
    obtain ⟨p, vs, rfl, hs, rr⟩ := lstD_rep rs rx e1
    exact ⟨p, ns, rfl, by rw [← bls_rep rr e3]; exact hs, q _ H μ rs .refl (.bl _)⟩
  · cases e
theorem cd_any : CallD K (rAny K) bAny := by
  intro μ H st st' xs ds d Q rs r e q
  unfold bAny at e
  split at e
  · obtain ⟨x, rfl, rx⟩ := reps1 r
    obtain ⟨es, e1, e2⟩ := Option.bind_eq_some_iff.mp e
    obtain ⟨ns, e3, e4⟩ := Option.map_eq_some_iff.mp e2
    cases e4
    obtain ⟨p, vs, rfl, hs, rr⟩ := lstD_rep rs rx e1
    exact ⟨p, ns, rfl, by rw [← bls_rep rr e3]; exact hs, q _ H μ rs .refl (.bl _)⟩
  · cases e
/-- max, min of a list of ints -/
def bMaxL : List D → Sto → Option (D × Sto)
  | [d], st => (lstD st d).bind fun ds => (intsD ds).bind fun ns => ns.max?.map fun m => (.int m, st)
  | _, _ => none
def bMinL : List D → Sto → Option (D × Sto)
  | [d], st => (lstD st d).bind fun ds => (intsD ds).bind fun ns => ns.min?.map fun m => (.int m, st)
  | _, _ => none
theorem cd_maxL : CallD K (rMax K) bMaxL := by
  intro μ H st st' xs ds d Q rs r e q
  unfold bMaxL at e
  split at e
  · obtain ⟨x, rfl, rx⟩ := reps1 r
    obtain ⟨es, e1, e2⟩ := Option.bind_eq_some_iff.mp e
    obtain ⟨ns, e3, e4⟩ := Option.bind_eq_some_iff.mp e2
    obtain ⟨m, e5, e6⟩ := Option.map_eq_some_iff.mp e4
    cases e6
    obtain ⟨p, vs, rfl, hs, rr⟩ := lstD_rep rs rx e1
    refine ⟨p, ns, rfl, by rw [← ints_rep rr e3]; exact hs, ?_, fun m' hm hle => ?_⟩
    · cases ns with
      | nil => cases e5
      | cons a b => exact Nat.succ_pos _
    · have hm2 := List.max?_eq_some_iff.mp e5
      have : m' = m := Int.le_antisymm (hm2.2 m' hm) (hle m hm2.1)
      rw [this]
      exact q _ H μ rs .refl (.int _)
  · cases e
theorem cd_minL : CallD K (rMin K) bMinL := by
  intro μ H st st' xs ds d Q rs r e q
  unfold bMinL at e
  split at e
  · obtain ⟨x, rfl, rx⟩ := reps1 r
    obtain ⟨es, e1, e2⟩ := Option.bind_eq_some_iff.mp e
    obtain ⟨ns, e3, e4⟩ := Option.bind_eq_some_iff.mp e2
    obtain ⟨m, e5, e6⟩ := Option.map_eq_some_iff.mp e4
    cases e6
    obtain ⟨p, vs, rfl, hs, rr⟩ := lstD_rep rs rx e1
    refine ⟨p, ns, rfl, by rw [← ints_rep rr e3]; exact hs, ?_, fun m' hm hle => ?_⟩
    · cases ns with
      | nil => cases e5
      | cons a b => exact Nat.succ_pos _
    · have hm2 := List.min?_eq_some_iff.mp e5
      have : m' = m := Int.le_antisymm (hle m hm2.1) (hm2.2 m' hm)
      rw [this]
      exact q _ H μ rs .refl (.int _)
  · cases e

/-! ### isinstance -/
def typD : D → String
  | .non => "NoneType"
  | .bl _ => "bool"
  | .int _ => "int"
  | .str _ => "str"
  | .tup _ => "tuple"
  | .ref _ => "list"
  | .fz _ => "list"
/-- isinstance(x, T) for T one of int, bool, str, tuple, list -/
def isiB (T : String) : D → Bool
  | .non => false
  | .bl _ => T == "bool" || T == "int"
  | .int _ => T == "int"
  | .str _ => T == "str"
  | .tup _ => T == "tuple"
  | .ref _ => T == "list"
  | .fz _ => T == "list"
def dIsi (T : String) (f : DF) : DF := fun ρ st => (f ρ st).bind fun p => match p.1 with
  | .ref n => if n < p.2.length then some (.bl (isiB T p.1), p.2) else none
  | d => some (.bl (isiB T d), p.2)
theorem typ_of (rs : RelS K μ H st) {x : V} {d : D} (r : Rep K μ H x d) (h : ∀ n, d = .ref n → n < st.length) : TyX K H x (.type (typD d)) := by
  cases r with
  | non => exact .base .non
  | bl b => exact .base (.bl b)
  | int i => exact .base (.int i)
  | str z => exact .base (.str z)
  | tup h1 h2 =>
    rcases h1 with (h1 | ⟨o, h1⟩) | ⟨o, its, n, h1, h2, _⟩
    · exact .base (.tup h1)
    · exact .fTuple h1
    · exact .kTuple h1 h2
  | @ref a n h1 =>
    have hn : n < st.length := h n rfl
    obtain ⟨vs, h2, _⟩ := (rs.ok n a _ h1 (List.getElem?_eq_getElem hn)).sq
    rcases h2 with (h2 | ⟨o, h2⟩) | ⟨o, its, m, h2, h3, _⟩
    · exact .base (.lst h2)
    · exact .base (.frz h2)
    · exact .kList h2 h3
  | fz h1 h3 =>
    rcases h1.sq with (h2 | ⟨o, h2⟩) | ⟨o, its, m, h2, h3, _⟩
    · exact .base (.lst h2)
    · exact .base (.frz h2)
    · exact .kList h2 h3
/-- the classes asked for -/
def isT (T : String) : Prop := T = "bool" ∨ T = "int" ∨ T = "str" ∨ T = "tuple" ∨ T = "list"
theorem kit_all {T : String} (h : isT T) (d : D) : L2.kitB (typD d) T = some (isiB T d) := by
  rcases h with rfl | rfl | rfl | rfl | rfl <;> cases d <;> simp only [typD, isiB] <;> decide +kernel
theorem dIsi_le {f : DF} {T : String} (hT : isT T) {σ : L2.St} {Q : VK} (h : tD K (dIsi T f) σ H Q) : tCB (rIsi K) (tCons (tD K f) (tCons (tC (.ty T)) tNil)) σ H Q := by
  obtain ⟨ρ, st, μ, rs, re, d, st', e, q⟩ := h
  obtain ⟨p, e1, e2⟩ := Option.bind_eq_some_iff.mp e
  obtain ⟨d1, st1⟩ := p
  refine ⟨ρ, st, μ, rs, re, d1, st1, e1, fun x H1 μ1 rs1 s1 r1 => ?_⟩
  have go : (∀ n, d1 = .ref n → n < st1.length) → some (D.bl (isiB T d1), st1) = some (d, st') → rIsi K [x, .ty T] H1 Q := fun hr e => by
    cases e
    exact ⟨x, .ty T, _, _, _, rfl, .ty T, typ_of rs1 r1 hr, L2.kit_ty (kit_all hT d1), q _ H1 μ1 rs1 s1 (.bl _)⟩
  cases d1 with
  | ref n =>
    have e' : (if n < st1.length then some (D.bl (isiB T (.ref n)), st1) else none) = some (d, st') := e2
    split at e'
    · rename_i hn
      exact go (fun m z => by cases z; exact hn) e'
    · cases e'
  | non => exact go (fun m z => by cases z) e2
  | bl b => exact go (fun m z => by cases z) e2
  | int i => exact go (fun m z => by cases z) e2
  | str z => exact go (fun m z => by cases z) e2
  | tup xs => exact go (fun m z => by cases z) e2
  | fz xs => exact go (fun m z => by cases z) e2
end
end
end DL
end

section
set_option Elab.async false
set_option linter.all false
set_option maxRecDepth 100000
set_option maxHeartbeats 4000000
/-! The data layer, part D: statements, loops, comprehensions, defs. -/
namespace DL
open PySem PySem.Spec PyProof.Rows L2

inductive Fl where
  | nx | rt (d : D) | bk | ct
abbrev DG := DEnv → Sto → Option (Fl × DEnv × Sto)
def PostG (K : PySem.W.Frag) (μ : List Addr) (H : Hp) (ρ' : DEnv) (st' : Sto) (Dn : Ends) : Fl → Prop
  | .nx => ∀ (σ' : L2.St) (H' : Hp) (μ' : List Addr), RelS K μ' H' st' → RelE K μ' σ' H' ρ' → Step μ H μ' H' → Dn.nx σ' H'
  | .bk => ∀ (σ' : L2.St) (H' : Hp) (μ' : List Addr), RelS K μ' H' st' → RelE K μ' σ' H' ρ' → Step μ H μ' H' → Dn.bk σ' H'
  | .ct => ∀ (σ' : L2.St) (H' : Hp) (μ' : List Addr), RelS K μ' H' st' → RelE K μ' σ' H' ρ' → Step μ H μ' H' → Dn.ct σ' H'
  | .rt d => ∀ (v : V) (H' : Hp) (μ' : List Addr), RelS K μ' H' st' → Step μ H μ' H' → Rep K μ' H' v d → Dn.rt v H'
def tG (K : PySem.W.Frag) (g : DG) : TS := fun Dn σ H => ∃ (ρ : DEnv) (st : Sto) (μ : List Addr), RelS K μ H st ∧ RelE K μ σ H ρ ∧ ∃ (fl : Fl) (ρ' : DEnv) (st' : Sto), g ρ st = some (fl, ρ', st') ∧ PostG K μ H ρ' st' Dn fl
abbrev DS (X : Cx) (s : Stmt) (g : DG) : Prop := PS X s (tG X.K g)
abbrev DSs (X : Cx) (s : List Stmt) (g : DG) : Prop := PSs X s (tG X.K g)
theorem impS {X : Cx} {e : Stmt} {t t' : TS} (h : PS X e t) (k : ∀ Dn σ H, t' Dn σ H → t Dn σ H) : PS X e t' := ⟨fun pins s σ H Dn I q => h.run pins s σ H Dn I (k Dn σ H q)⟩
theorem impSs {X : Cx} {e : List Stmt} {t t' : TS} (h : PSs X e t) (k : ∀ Dn σ H, t' Dn σ H → t Dn σ H) : PSs X e t' := ⟨fun pins s σ H Dn I q => h.run pins s σ H Dn I (k Dn σ H q)⟩
theorem PostG.after {K : PySem.W.Frag} {μ μ1 : List Addr} {H H1 : Hp} {ρ' : DEnv} {st' : Sto} {Dn : Ends} {fl : Fl} (q : PostG K μ H ρ' st' Dn fl) (s : Step μ H μ1 H1) : PostG K μ1 H1 ρ' st' Dn fl := by
  cases fl with
  | nx => exact fun σ' H' μ' rs re s' => q σ' H' μ' rs re (s.trans s')
  | bk => exact fun σ' H' μ' rs re s' => q σ' H' μ' rs re (s.trans s')
  | ct => exact fun σ' H' μ' rs re s' => q σ' H' μ' rs re (s.trans s')
  | rt d => exact fun v H' μ' rs s' r => q v H' μ' rs (s.trans s') r

def gNext : DG := fun ρ st => some (.nx, ρ, st)
def gBrk : DG := fun ρ st => some (.bk, ρ, st)
def gCont : DG := fun ρ st => some (.ct, ρ, st)
def gSeq (g1 g2 : DG) : DG := fun ρ st => (g1 ρ st).bind fun r => match r.1 with
  | .nx => g2 r.2.1 r.2.2
  | _ => some r
def gIf (c : DFb) (g1 g2 : DG) : DG := fun ρ st => (c ρ st).bind fun p => if p.1 = true then g1 ρ p.2 else g2 ρ p.2
def gRet (f : DF) : DG := fun ρ st => (f ρ st).map fun p => (.rt p.1, ρ, p.2)
def gDrop (f : DF) : DG := fun ρ st => (f ρ st).map fun p => (.nx, ρ, p.2)
def gSet (i : Nat) (f : DF) : DG := fun ρ st => (f ρ st).map fun p => (.nx, ρ.set i (some p.1), p.2)
def gAsg (f : DF) (g : D → DEnv → Option DEnv) : DG := fun ρ st => (f ρ st).bind fun p => (g p.1 ρ).map fun ρ' => (.nx, ρ', p.2)
/-- a, b = x, y -/
def gPar (i j : Nat) (f : DFs) : DG := fun ρ st => (f ρ st).bind fun p => match p.1 with
  | [a, b] => some (.nx, (ρ.set i (some a)).set j (some b), p.2)
  | _ => none
/-- x op= e of ints -/
def gAug (i : Nat) (o : D → D → Sto → Option (D × Sto)) (f : DF) : DG := fun ρ st => match ρ[i]? with
  | some (some a) => (f ρ st).bind fun p => (o a p.1 p.2).map fun q => (.nx, ρ.set i (some q.1), q.2)
  | _ => none

section
variable {X : Cx} {K : PySem.W.Frag} {st : Stmt} {rest : List Stmt} {g g1 g2 : DG} {e : Expr} {f : DF} {pos : Pos}
theorem gs_nil : DSs X [] gNext := impSs pss_nil fun Dn σ H h => by
  obtain ⟨ρ, st, μ, rs, re, fl, ρ', st', e, q⟩ := h
  cases e
  exact q σ H μ rs re .refl
theorem g_pass : DS X (.Pass pos) gNext := impS ps_pass fun Dn σ H h => by
  obtain ⟨ρ, st, μ, rs, re, fl, ρ', st', e, q⟩ := h
  cases e
  exact q σ H μ rs re .refl
theorem g_break : DS X (.Break pos) gBrk := impS ps_break fun Dn σ H h => by
  obtain ⟨ρ, st, μ, rs, re, fl, ρ', st', e, q⟩ := h
  cases e
  exact q σ H μ rs re .refl
theorem g_continue : DS X (.Continue pos) gCont := impS ps_continue fun Dn σ H h => by
  obtain ⟨ρ, st, μ, rs, re, fl, ρ', st', e, q⟩ := h
  cases e
  exact q σ H μ rs re .refl
theorem gs_one (h : DS X st g) : DSs X [st] g := pss_one h
theorem gSeq_le {Dn : Ends} {σ : L2.St} {H : Hp} (h : tG K (gSeq g1 g2) Dn σ H) : tSeq (tG K g1) (tG K g2) Dn σ H := by
  obtain ⟨ρ, st, μ, rs, re, fl, ρ', st', e, q⟩ := h
  obtain ⟨r, e1, e2⟩ := Option.bind_eq_some_iff.mp e
  obtain ⟨fl1, ρ1, st1⟩ := r
  refine ⟨ρ, st, μ, rs, re, fl1, ρ1, st1, e1, ?_⟩
  cases fl1 with
  | nx => exact fun σ1 H1 μ1 rs1 re1 s1 => ⟨ρ1, st1, μ1, rs1, re1, fl, ρ', st', e2, q.after s1⟩
  | bk => cases e2; exact q
  | ct => cases e2; exact q
  | rt d => cases e2; exact q
theorem gs_cons (h1 : DS X st g1) (h2 : DSs X rest g2) : DSs X (st :: rest) (gSeq g1 g2) := impSs (pss_cons h1 h2) fun _ _ _ h => gSeq_le h
theorem g_if {c : Expr} {a b : List Stmt} {gc : DFb} (hc : DT X c gc) (ha : DSs X a g1) (hb : DSs X b g2) : DS X (.If c a b pos) (gIf gc g1 g2) := impS (ps_if hc ha hb) fun Dn σ H h => by
  obtain ⟨ρ, st, μ, rs, re, fl, ρ', st', e, q⟩ := h
  obtain ⟨p, e1, e2⟩ := Option.bind_eq_some_iff.mp e
  refine ⟨ρ, st, μ, rs, re, p.1, p.2, e1, fun H1 μ1 rs1 s1 => ?_⟩
  obtain ⟨k, st1⟩ := p
  cases k with
  | true => exact iteT ⟨ρ, st1, μ1, rs1, re.step s1, fl, ρ', st', e2, q.after s1⟩
  | false => exact iteF ⟨ρ, st1, μ1, rs1, re.step s1, fl, ρ', st', e2, q.after s1⟩
theorem g_ret (he : DE X e f) : DS X (.Return (some e) pos) (gRet f) := impS (ps_ret he) fun Dn σ H h => by
  obtain ⟨ρ, st, μ, rs, re, fl, ρ', st', e, q⟩ := h
  obtain ⟨p, e1, e2⟩ := Option.map_eq_some_iff.mp e
  cases e2
  exact ⟨ρ, st, μ, rs, re, p.1, p.2, e1, fun v H1 μ1 rs1 s1 r1 => q v H1 μ1 rs1 s1 r1⟩
theorem g_retN : DS X (.Return none pos) (gRet (dC .non)) := impS ps_retN fun Dn σ H h => by
  obtain ⟨ρ, st, μ, rs, re, fl, ρ', st', e, q⟩ := h
  cases e
  exact q .non H μ rs .refl .non
theorem g_expr (he : DE X e f) (hs : swapsWith e none pos.line X.env = pure false := by rfl) : DS X (.Expr e pos) (gDrop f) := impS (ps_expr he hs) fun Dn σ H h => by
  obtain ⟨ρ, st, μ, rs, re, fl, ρ', st', e, q⟩ := h
  obtain ⟨p, e1, e2⟩ := Option.map_eq_some_iff.mp e
  cases e2
  exact ⟨ρ, st, μ, rs, re, p.1, p.2, e1, fun v H1 μ1 rs1 s1 r1 => q σ H1 μ1 rs1 (re.step s1) s1⟩
theorem g_doc {x : Str} {j : Nat} {pos' : Pos} : DS X (.Expr (.Constant (.str x) j pos) pos') gNext := impS ps_doc fun Dn σ H h => by
  obtain ⟨ρ, st, μ, rs, re, fl, ρ', st', e, q⟩ := h
  cases e
  exact q σ H μ rs re .refl
theorem gSet_le {i : Nat} {Dn : Ends} {σ : L2.St} {H : Hp} (h : tG K (gSet i f) Dn σ H) : tAsg (tD K f) (gName i) Dn σ H := by
  obtain ⟨ρ, st, μ, rs, re, fl, ρ', st', e, q⟩ := h
  obtain ⟨p, e1, e2⟩ := Option.map_eq_some_iff.mp e
  cases e2
  exact ⟨ρ, st, μ, rs, re, p.1, p.2, e1, fun v H1 μ1 rs1 s1 r1 => q _ H1 μ1 rs1 ((re.step s1).set i r1) s1⟩
theorem g_set (i : Nat) {x : Str} {pos' : Pos} (hN : X.N.Nodup) (hi : X.N[i]? = some x) (hx : Loc X.env.scope x) (he : DE X e f) (hs : swapsWith e (some (.Name x pos')) pos.line X.env = pure false := by rfl) (hf : X.fn x = true ∨ X.env.scope.names.lookup x = some .local := by first | exact .inl rfl | exact .inr rfl | assumption) :
    DS X (.Assign [.Name x pos'] e pos) (gSet i f) := impS (ps_set hN hi hx he hs hf) fun _ _ _ h => gSet_le h

/-! ### targets -/
def tT (K : PySem.W.Frag) (js : List Nat) (g : D → DEnv → Option DEnv) : TG := fun v σ H Q => ∃ (ρ : DEnv) (st : Sto) (μ : List Addr) (d : D), RelS K μ H st ∧ RelE K μ σ H ρ ∧ Rep K μ H v d ∧ ∃ ρ' : DEnv, g d ρ = some ρ' ∧
  ∀ σ' : L2.St, RelE K μ σ' H ρ' → (∀ j, j ∉ js → σ'[j]? = σ[j]?) → σ'.length = σ.length → Q σ' H
def tTs (K : PySem.W.Frag) (js : List Nat) (g : List D → DEnv → Option DEnv) : TGs := fun vs σ H Q => ∃ (ρ : DEnv) (st : Sto) (μ : List Addr) (ds : List D), RelS K μ H st ∧ RelE K μ σ H ρ ∧ Reps K μ H vs ds ∧ ∃ ρ' : DEnv, g ds ρ = some ρ' ∧
  ∀ σ' : L2.St, RelE K μ σ' H ρ' → (∀ j, j ∉ js → σ'[j]? = σ[j]?) → σ'.length = σ.length → Q σ' H
abbrev DP (X : Cx) (tg : Expr) (js : List Nat) (g : D → DEnv → Option DEnv) : Prop := PG X tg (tT X.K js g)
abbrev DPs (X : Cx) (tgs : List Expr) (js : List Nat) (g : List D → DEnv → Option DEnv) : Prop := PGs X tgs (tTs X.K js g)
theorem impG {tg : Expr} {t t' : TG} (h : PG X tg t) (k : ∀ v σ H Q, t' v σ H Q → t v σ H Q) : PG X tg t' := ⟨fun pins s σ H v u Q I r q => h.run pins s σ H v u Q I r (k v σ H Q q)⟩
theorem impGs {tg : List Expr} {t t' : TGs} (h : PGs X tg t) (k : ∀ v σ H Q, t' v σ H Q → t v σ H Q) : PGs X tg t' := ⟨fun pins s σ H v u Q I r q => h.run pins s σ H v u Q I r (k v σ H Q q)⟩
def nName (i : Nat) : D → DEnv → Option DEnv := fun d ρ => some (ρ.set i (some d))
def nNil : List D → DEnv → Option DEnv := fun ds ρ => match ds with
  | [] => some ρ
  | _ => none
def nCons (g : D → DEnv → Option DEnv) (gs : List D → DEnv → Option DEnv) : List D → DEnv → Option DEnv := fun ds ρ => match ds with
  | d :: r => (g d ρ).bind fun ρ' => gs r ρ'
  | [] => none
def nTup (n : Nat) (gs : List D → DEnv → Option DEnv) : D → DEnv → Option DEnv := fun d ρ => match d with
  | .tup ds => if ds.length = n then gs ds ρ else none
  | _ => none
theorem t_name (i : Nat) {x : Str} (hN : X.N.Nodup) (hi : X.N[i]? = some x) (hx : Loc X.env.scope x) (hf : X.fn x = true ∨ X.env.scope.names.lookup x = some .local := by first | exact .inl rfl | exact .inr rfl | assumption) : DP X (.Name x pos) [i] (nName i) :=
  impG (pg_name hN hi hx hf) fun v σ H Q h => by
    obtain ⟨ρ, st, μ, d, rs, re, r, ρ', e, q⟩ := h
    cases e
    exact q _ (re.set i r) (fun j hj => List.getElem?_set_ne fun z => hj (by rw [z]; exact List.mem_singleton.mpr rfl)) List.length_set
theorem ts_nil : DPs X [] [] nNil := impGs pgs_nil fun vs σ H Q h => by
  obtain ⟨ρ, st, μ, ds, rs, re, r, ρ', e, q⟩ := h
  cases r with
  | nil => cases e; exact ⟨rfl, q σ re (fun _ _ => rfl) rfl⟩
  | cons _ _ => cases e
theorem ts_cons {t : Expr} {ts : List Expr} {js ks : List Nat} {g : D → DEnv → Option DEnv} {gs : List D → DEnv → Option DEnv} (h1 : DP X t js g) (h2 : DPs X ts ks gs)
    (hs : (assignEach (t :: ts) X.env).map (·.2) = assign t X.env :: (assignEach ts X.env).map (·.2) := by rfl) : DPs X (t :: ts) (js ++ ks) (nCons g gs) := impGs (pgs_cons h1 h2 hs) fun vs σ H Q h => by
  obtain ⟨ρ, st, μ, ds, rs, re, r, ρ', e, q⟩ := h
  cases r with
  | nil => cases e
  | @cons v vr d dr r1 r2 =>
    obtain ⟨ρ1, e1, e2⟩ := Option.bind_eq_some_iff.mp e
    refine ⟨v, vr, rfl, ρ, st, μ, d, rs, re, r1, ρ1, e1, fun σ1 re1 k1 l1 => ⟨ρ1, st, μ, dr, rs, re1, r2, ρ', e2, fun σ2 re2 k2 l2 => q σ2 re2 (fun j hj => ?_) (l2.trans l1)⟩⟩
    rw [k2 j fun z => hj (List.mem_append_right _ z), k1 j fun z => hj (List.mem_append_left _ z)]
theorem t_tup {es : List Expr} {k n : Nat} {js : List Nat} {gs : List D → DEnv → Option DEnv} (hc : X.calm = true) (h : DPs X es js gs) (hn : (assignEach es X.env).length = n := by rfl) (hst : (assignEach es X.env).findIdx? (·.1) = none := by rfl) :
    DP X (.Tuple es k pos) js (nTup n gs) := impG (pg_tup hc h hn hst) fun v σ H Q h => by
  obtain ⟨ρ, st, μ, d, rs, re, r, ρ', e, q⟩ := h
  cases r with
  | @tup a vs ds h1 h2 =>
    have e' : (if ds.length = n then gs ds ρ else none) = some ρ' := e
    split at e'
    · rename_i hl
      exact ⟨a, vs, rfl, h1, by rw [h2.length, hl], ρ, st, μ, ds, rs, re, h2, ρ', e', q⟩
    · cases e'
  | _ => cases e
theorem g_asg {tg : Expr} {js : List Nat} {g : D → DEnv → Option DEnv} (he : DE X e f) (hg : DP X tg js g) (hs : swapsWithSole [tg] e pos.line X.env = pure false := by rfl) (hw : swappedStores [tg] e X.env = pure none := by rfl)
    (h1 : (assignEach [tg] X.env).map (·.2) = [assign tg X.env] := by rfl) : DS X (.Assign [tg] e pos) (gAsg f g) := impS (ps_asg he hg hs hw h1) fun Dn σ H h => by
  obtain ⟨ρ, st, μ, rs, re, fl, ρ', st', e, q⟩ := h
  obtain ⟨p, e1, e2⟩ := Option.bind_eq_some_iff.mp e
  obtain ⟨ρ1, e3, e4⟩ := Option.map_eq_some_iff.mp e2
  cases e4
  exact ⟨ρ, st, μ, rs, re, p.1, p.2, e1, fun v H1 μ1 rs1 s1 r1 => ⟨ρ, p.2, μ1, p.1, rs1, re.step s1, r1, ρ', e3, fun σ' re' _ _ => q σ' H1 μ1 rs1 re' s1⟩⟩
theorem g_par (i j : Nat) {x y : Str} {a b : Expr} {ga : DFs} {px py pt : Pos} {kt k2 : Nat} {pt2 : Pos} (hc : X.calm = true) (hN : X.N.Nodup) (hi : X.N[i]? = some x) (hj : X.N[j]? = some y) (hij : i ≠ j)
    (hx : X.env.scope.names.lookup x = some .local) (hy : X.env.scope.names.lookup y = some .local) (ha : DAs X [a, b] ga)
    (hw : swappedStores [.Tuple [.Name x px, .Name y py] kt pt] (.Tuple [a, b] k2 pt2) X.env = pure (some [x, y]))
    (hs : swapsWithSole [.Tuple [.Name x px, .Name y py] kt pt] (.Tuple [a, b] k2 pt2) pos.line X.env = pure false := by rfl) :
    DS X (.Assign [.Tuple [.Name x px, .Name y py] kt pt] (.Tuple [a, b] k2 pt2) pos) (gPar i j ga) := impS (ps_par hc hN hi hj hij hx hy ha hw hs) fun Dn σ H h => by
  obtain ⟨ρ, st, μ, rs, re, fl, ρ', st', e, q⟩ := h
  obtain ⟨p, e1, e2⟩ := Option.bind_eq_some_iff.mp e
  obtain ⟨ds, st1⟩ := p
  refine ⟨ρ, st, μ, rs, re, ds, st1, e1, fun vs H1 μ1 rs1 s1 r1 => ?_⟩
  match ds, r1, e2 with
  | [], _, e2 => cases e2
  | [_], _, e2 => cases e2
  | _ :: _ :: _ :: _, _, e2 => cases e2
  | [d1, d2], r1, e2 =>
    obtain ⟨v, w, rfl, ra, rb⟩ := reps2 r1
    cases e2
    exact ⟨v, w, rfl, q _ H1 μ1 rs1 (((re.step s1).set i ra).set j rb) s1⟩
theorem g_aug (i : Nat) {x : Str} {op : Operator} {r : R2} {o : D → D → Sto → Option (D × Sto)} {pos' : Pos} (hN : X.N.Nodup) (hi : X.N[i]? = some x) (hx : Loc X.env.scope x) (he : DE X e f) (ho : OpR X (inplaceOp op) r) (hd : OpD X.K r o)
    (hf : X.fn x = true ∨ X.env.scope.names.lookup x = some .local := by first | exact .inl rfl | exact .inr rfl | assumption) : DS X (.AugAssign (.Name x pos') op e pos) (gAug i o f) := impS (ps_aug (ti := fun a b H Q => r a b H Q) hN hi hx he ho hf) fun Dn σ H h => by
  obtain ⟨ρ, st, μ, rs, re, fl, ρ', st', e, q⟩ := h
  unfold gAug at e
  split at e
  · rename_i a ea
    obtain ⟨p, e1, e2⟩ := Option.bind_eq_some_iff.mp e
    obtain ⟨p2, e3, e4⟩ := Option.map_eq_some_iff.mp e2
    cases e4
    obtain ⟨x, ex, rx⟩ := re.at_ i a ea
    refine ⟨x, ex, ρ, st, μ, rs, re, p.1, p.2, e1, fun v H1 μ1 rs1 s1 r1 => ?_⟩
    exact hd μ1 H1 p.2 _ x v a p.1 p2.1 _ rs1 (s1.rep _ _ rx) r1 e3 fun z H2 μ2 rs2 s2 r2 => q _ H2 μ2 rs2 (((re.step s1).step s2).set i r2) (s1.trans s2)
  · cases e
end

/-! ### while -/
def whileG (c : DFb) (g : DG) : Nat → DG
  | 0, _, _ => none
  | n + 1, ρ, st => (c ρ st).bind fun p => if p.1 = true then (g ρ p.2).bind fun r => match r.1 with
    | .nx => whileG c g n r.2.1 r.2.2
    | .ct => whileG c g n r.2.1 r.2.2
    | .bk => some (.nx, r.2.1, r.2.2)
    | .rt d => some (.rt d, r.2.1, r.2.2) else some (.nx, ρ, p.2)
def gWhile (fuel : DEnv → Sto → Nat) (c : DFb) (g : DG) : DG := fun ρ st => whileG c g (fuel ρ st) ρ st
theorem g_while {X : Cx} {c : Expr} {body : List Stmt} {gc : DFb} {g : DG} {pos : Pos} (fuel : DEnv → Sto → Nat) (hp : PassesOwn (model X.prog X.w) X.A X.env X.xe) (hc : DT X c gc) (hb : DSs X body g) : DS X (.While c body [] pos) (gWhile fuel gc g) :=
  impS (ps_while hp hc hb) fun Dn σ H h => by
    obtain ⟨ρ, st, μ, rs, re, fl, ρ', st', e, q⟩ := h
    refine ⟨fun m σ1 H1 => ∃ (ρ1 : DEnv) (st1 : Sto) (μ1 : List Addr), RelS X.K μ1 H1 st1 ∧ RelE X.K μ1 σ1 H1 ρ1 ∧ Step μ H μ1 H1 ∧ whileG gc g m ρ1 st1 = some (fl, ρ', st'), ⟨fuel ρ st, ρ, st, μ, rs, re, .refl, e⟩, ?_⟩
    rintro m σ1 H1 ⟨ρ1, st1, μ1, rs1, re1, s1, e1⟩
    cases m with
    | zero => cases e1
    | succ m =>
      obtain ⟨p, e2, e3⟩ := Option.bind_eq_some_iff.mp e1
      obtain ⟨k, st2⟩ := p
      refine ⟨ρ1, st1, μ1, rs1, re1, k, st2, e2, fun H2 μ2 rs2 s2 => ?_⟩
      cases k with
      | false => cases e3; exact iteF (q _ H2 μ2 rs2 (re1.step s2) (s1.trans s2))
      | true =>
        obtain ⟨r, e4, e5⟩ := Option.bind_eq_some_iff.mp e3
        obtain ⟨fl3, ρ3, st3⟩ := r
        refine iteT ⟨fun σ4 H4 => ∃ (ρ4 : DEnv) (st4 : Sto) (μ4 : List Addr), RelS X.K μ4 H4 st4 ∧ RelE X.K μ4 σ4 H4 ρ4 ∧ Step μ H μ4 H4 ∧ whileG gc g m ρ4 st4 = some (fl, ρ', st'), fun σ4 H4 h4 => ⟨m, Nat.lt_succ_self m, h4⟩, ρ1, st2, μ2, rs2, re1.step s2, fl3, ρ3, st3, e4, ?_⟩
        cases fl3 with
        | nx => exact fun σ4 H4 μ4 rs4 re4 s4 => ⟨ρ3, st3, μ4, rs4, re4, (s1.trans s2).trans s4, e5⟩
        | ct => exact fun σ4 H4 μ4 rs4 re4 s4 => ⟨ρ3, st3, μ4, rs4, re4, (s1.trans s2).trans s4, e5⟩
        | bk => cases e5; exact fun σ4 H4 μ4 rs4 re4 s4 => q σ4 H4 μ4 rs4 re4 ((s1.trans s2).trans s4)
        | rt d => cases e5; exact fun v H4 μ4 rs4 s4 r4 => q v H4 μ4 rs4 ((s1.trans s2).trans s4) r4

/-! ### what is walked -/
inductive Src where
  | seq (ds : List D) | cell (n : Nat)
def Src.items (st : Sto) : Src → Option (List D)
  | .seq ds => some ds
  | .cell n => match st[n]? with
    | some (.lst xs) => some xs
    | none => none
def ItOk (K : PySem.W.Frag) (μ : List Addr) (H : Hp) (J : It) (src : Src) : Prop :=
  ∀ (μ' : List Addr) (H' : Hp) (st' : Sto), Step μ H μ' H' → RelS K μ' H' st' → ∀ ds, src.items st' = some ds → ∀ i : Nat,
    (∀ d, ds[i]? = some d → J.go i H' ∧ ∀ x H'', J.yld i H' x H'' → RelS K μ' H'' st' ∧ Step μ' H' μ' H'' ∧ Rep K μ' H'' x d) ∧ (ds.length ≤ i → J.stop i H')
abbrev DI := DEnv → Sto → Option (Src × Sto)
def tI (K : PySem.W.Frag) (f : DI) : TI := fun σ H R => ∃ (ρ : DEnv) (st : Sto) (μ : List Addr), RelS K μ H st ∧ RelE K μ σ H ρ ∧ ∃ (src : Src) (st' : Sto), f ρ st = some (src, st') ∧
  ∀ (J : It) (H' : Hp) (μ' : List Addr), RelS K μ' H' st' → Step μ H μ' H' → ItOk K μ' H' J src → R J H'
abbrev DIx (X : Cx) (tg e : Expr) (f : DI) : Prop := PI X tg e (tI X.K f)
theorem impI {X : Cx} {tg e : Expr} {t t' : TI} (h : PI X tg e t) (k : ∀ σ H R, t' σ H R → t σ H R) : PI X tg e t' := ⟨fun pins s σ H R I q => h.run pins s σ H R I (k σ H R q)⟩
section
variable {K : PySem.W.Frag} {μ : List Addr} {H : Hp} {st : Sto}
theorem items_sq (rs : RelS K μ H st) {n : Nat} {a : Addr} {ds : List D} (h : μ[n]? = some a) (e : (Src.cell n).items st = some ds) : ∃ vs, SqL K H a vs ∧ Reps K μ H vs ds := by
  obtain ⟨b, vs, e1, h1, h2⟩ := lstD_rep rs (.ref h) (d := .ref n) e
  cases e1
  exact ⟨vs, h1, h2⟩
theorem it_list {n : Nat} {a : Addr} (h : μ[n]? = some a) : ItOk K μ H (Itl K a) (.cell n) := by
  intro μ' H' st' s rs ds e i
  obtain ⟨vs, h1, h2⟩ := items_sq rs (s.at h) e
  refine ⟨fun d hd => ?_, fun hl => ⟨vs, h1, by rw [h2.length]; exact hl⟩⟩
  obtain ⟨v, e1, r⟩ := h2.get hd
  refine ⟨⟨vs, v, h1, e1⟩, fun x H'' y => ?_⟩
  obtain ⟨rfl, y⟩ := y
  have ex := y vs h1
  rw [e1] at ex
  cases ex
  exact ⟨rs, .refl, r⟩
theorem it_tup {a : Addr} {vs : List V} {ds : List D} (h : SqT K H a vs) (r : Reps K μ H vs ds) : ItOk K μ H (Itt K a) (.seq ds) := by
  intro μ' H' st' s rs ds' e i
  cases e
  have h1 := s.tup h
  have h2 := s.reps _ _ r
  refine ⟨fun d hd => ?_, fun hl => ⟨vs, h1, by rw [h2.length]; exact hl⟩⟩
  obtain ⟨v, e1, r⟩ := h2.get hd
  refine ⟨⟨vs, v, h1, e1⟩, fun x H'' y => ?_⟩
  obtain ⟨rfl, y⟩ := y
  have ex := y vs h1
  rw [e1] at ex
  cases ex
  exact ⟨rs, .refl, r⟩
theorem it_frz {a : Addr} {vs : List V} {ds : List D} (h : Frz K H a vs) (r : Reps K μ H vs ds) : ItOk K μ H (Itl K a) (.seq ds) := by
  intro μ' H' st' s rs ds' e i
  cases e
  have h1 := (s.frz h).sq
  have h2 := s.reps _ _ r
  refine ⟨fun d hd => ?_, fun hl => ⟨vs, h1, by rw [h2.length]; exact hl⟩⟩
  obtain ⟨v, e1, r⟩ := h2.get hd
  refine ⟨⟨vs, v, h1, e1⟩, fun x H'' y => ?_⟩
  obtain ⟨rfl, y⟩ := y
  have ex := y vs h1
  rw [e1] at ex
  cases ex
  exact ⟨rs, .refl, r⟩
def rngD (lo : Int) (n : Nat) : List D := (List.range n).map fun i => .int (lo + (i : Nat))
theorem it_rng {lo : Int} {n : Nat} : ItOk K μ H (Itr lo n) (.seq (rngD lo n)) := by
  intro μ' H' st' s rs ds' e i
  cases e
  refine ⟨fun d hd => ?_, fun hl => show n ≤ i by simpa [rngD] using hl⟩
  unfold rngD at hd
  rw [List.getElem?_map] at hd
  obtain ⟨j, e1, e2⟩ := Option.map_eq_some_iff.mp hd
  obtain ⟨hl, e3⟩ := List.getElem?_eq_some_iff.mp e1
  have hi : i < n := by simpa using hl
  have ej : j = i := by rw [← e3]; simp
  subst ej
  refine ⟨hi, fun x H'' y => ?_⟩
  obtain ⟨rfl, rfl⟩ := y
  rw [← e2]
  exact ⟨rs, .refl, .int _⟩
end
/-- a list or a tuple -/
def srcOf (f : DF) : DI := fun ρ st => (f ρ st).bind fun p => match p.1 with
  | .tup ds => some (.seq ds, p.2)
  | .ref n => if n < p.2.length then some (.cell n, p.2) else none
  | .fz ds => some (.seq ds, p.2)
  | _ => none
def RngOk (j : Int) : Prop := -(2 ^ 62) ≤ j ∧ j < 2 ^ 62
noncomputable instance (j : Int) : Decidable (RngOk j) := Classical.propDecidable _
theorem rngOk {j : Int} (h : decide (-(2 ^ 62) ≤ j ∧ j < 2 ^ 62) = true) : RngOk j := by
  have z := of_decide_eq_true h
  exact z
noncomputable def srcRng1 (f : DFs) : DI := fun ρ st => (f ρ st).bind fun p => match p.1 with
  | [.int j] => if RngOk j then some (.seq (rngD 0 j.toNat), p.2) else none
  | _ => none
noncomputable def srcRng2 (f : DFs) : DI := fun ρ st => (f ρ st).bind fun p => match p.1 with
  | [.int i, .int j] => if RngOk i ∧ RngOk j then some (.seq (rngD i (j - i).toNat), p.2) else none
  | _ => none
section
variable {X : Cx} {tg : Expr}
def iSeqA (K : PySem.W.Frag) (tl : TE) : TI := fun σ H R => tl σ H fun x H1 => ∃ a, x = .ref a ∧ (((∃ xs, SqL K H1 a xs) ∧ R (Itl K a) H1) ∨ ((∃ xs, SqT K H1 a xs) ∧ R (Itt K a) H1))
theorem pi_seqA {l : Expr} {tl : TE} (hl : PE X l tl) : PI X tg l (iSeqA X.K tl) := by
  constructor
  intro pins s σ H R I h
  refine thn (hl.run pins s σ H _ I h) fun v s1 q => ?_
  obtain ⟨x, H1, I1, r1, a, rfl, q⟩ := q
  cases r1
  have fresh : ∀ b ∈ [s1.heap.objs.size], FpOk X pins H1 b := fun b hb => by
    rw [List.mem_singleton.mp hb]
    exact I1.fpOk (Nat.le_refl _) (I1.hok.fresh (Nat.le_refl _))
  rcases q with ⟨⟨xs, hq⟩, q⟩ | ⟨⟨xs, hq⟩, q⟩
  · obtain ⟨its, _, p, _⟩ := I1.list hq
    refine wpAny_pyIter_list p.isList ⟨_, [s1.heap.objs.size], _, _, H1, rfl, ?_, turn_list a _, ⟨_, Heap.get?_push_size _ rfl, rfl, rfl⟩, fresh, q⟩
    exact I1.kept (t' := s1.toks) fun b o e => Heap.get?_push_of_some _ e
  · obtain ⟨its, _, p, _⟩ := I1.tuple hq
    refine wpAny_pyIter_tuple (show s1.heap.IsTuple a its.toArray from p) ⟨_, [s1.heap.objs.size], _, _, H1, rfl, ?_, turn_tuple a _, ⟨_, Heap.get?_push_size _ rfl, rfl, rfl⟩, fresh, q⟩
    exact I1.kept (t' := s1.toks) fun b o e => Heap.get?_push_of_some _ e
theorem i_seq {l : Expr} {f : DF} (hl : DE X l f) : DIx X tg l (srcOf f) := impI (pi_seqA hl) fun σ H R h => by
  obtain ⟨ρ, st, μ, rs, re, src, st', e, q⟩ := h
  obtain ⟨p, e1, e2⟩ := Option.bind_eq_some_iff.mp e
  obtain ⟨d, st1⟩ := p
  refine ⟨ρ, st, μ, rs, re, d, st1, e1, fun x H1 μ1 rs1 s1 r1 => ?_⟩
  cases r1 with
  | @tup a vs ds h1 h2 =>
    cases e2
    exact ⟨a, rfl, .inr ⟨⟨vs, h1⟩, q _ H1 μ1 rs1 s1 (it_tup h1 h2)⟩⟩
  | @ref a n h1 =>
    have e' : (if n < st1.length then some (Src.cell n, st1) else none) = some (src, st') := e2
    split at e'
    · rename_i hn
      cases e'
      obtain ⟨vs, h2, _⟩ := (rs1.ok n a _ h1 (List.getElem?_eq_getElem hn)).sq
      exact ⟨a, rfl, .inl ⟨⟨vs, h2⟩, q _ H1 μ1 rs1 s1 (it_list h1)⟩⟩
    · cases e'
  | @fz a vs ds h1 h2 =>
    cases e2
    exact ⟨a, rfl, .inl ⟨⟨vs, h1.sq⟩, q _ H1 μ1 rs1 s1 (it_frz h1 h2)⟩⟩
  | _ => cases e2
theorem i_rng1 {a : Expr} {f : DFs} {p pos : Pos} (hg : Gl X "range") (hm : X.mg "range" = none) (ha : DAs X [a] f) (hs : starEach [a] X.env = [(false, eval a X.env)] := by rfl) : DIx X tg (.Call (.Name "range" p) [a] [] pos) (srcRng1 f) :=
  impI (pi_range1 hg hm ha hs) fun σ H R h => by
    obtain ⟨ρ, st, μ, rs, re, src, st', e, q⟩ := h
    obtain ⟨p, e1, e2⟩ := Option.bind_eq_some_iff.mp e
    obtain ⟨ds, st1⟩ := p
    refine ⟨ρ, st, μ, rs, re, ds, st1, e1, fun vs H1 μ1 rs1 s1 r1 => ?_⟩
    dsimp only at e2
    split at e2
    · rename_i j
      split at e2
      · rename_i hj
        obtain ⟨x, rfl, rx⟩ := reps1 r1
        cases rx
        cases e2
        exact ⟨j, rfl, hj.1, hj.2, q _ H1 μ1 rs1 s1 it_rng⟩
      · cases e2
    · cases e2
theorem i_rng2 {a b : Expr} {f : DFs} {p pos : Pos} (hg : Gl X "range") (hm : X.mg "range" = none) (ha : DAs X [a, b] f) (hs : starEach [a, b] X.env = [(false, eval a X.env), (false, eval b X.env)] := by rfl) (hs2 : starEach [b] X.env = [(false, eval b X.env)] := by rfl) :
    DIx X tg (.Call (.Name "range" p) [a, b] [] pos) (srcRng2 f) :=
  impI (pi_range2 hg hm ha hs hs2) fun σ H R h => by
    obtain ⟨ρ, st, μ, rs, re, src, st', e, q⟩ := h
    obtain ⟨p, e1, e2⟩ := Option.bind_eq_some_iff.mp e
    obtain ⟨ds, st1⟩ := p
    refine ⟨ρ, st, μ, rs, re, ds, st1, e1, fun vs H1 μ1 rs1 s1 r1 => ?_⟩
    dsimp only at e2
    split at e2
    · rename_i i j
      split at e2
      · rename_i hj
        obtain ⟨x, y, rfl, rx, ry⟩ := reps2 r1
        cases rx
        cases ry
        cases e2
        exact ⟨i, j, rfl, ⟨hj.1.1, hj.1.2, hj.2.1, hj.2.2⟩, q _ H1 μ1 rs1 s1 it_rng⟩
      · cases e2
    · cases e2
end

/-! ### for -/
/-- the walked list stays as it is -/
noncomputable def sameSrc (src : Src) (st st2 : Sto) : Bool := match src with
  | .seq _ => true
  | .cell n => @decide (st2[n]? = st[n]?) (Classical.propDecidable _)
noncomputable def loopG (src : Src) (n : D → DEnv → Option DEnv) (g : DG) : List D → DG
  | [], ρ, st => some (.nx, ρ, st)
  | d :: r, ρ, st => (n d ρ).bind fun ρ1 => (g ρ1 st).bind fun q => match q.1 with
    | .nx => if sameSrc src st q.2.2 = true then loopG src n g r q.2.1 q.2.2 else none
    | .ct => if sameSrc src st q.2.2 = true then loopG src n g r q.2.1 q.2.2 else none
    | .bk => some (.nx, q.2.1, q.2.2)
    | .rt d => some (.rt d, q.2.1, q.2.2)
noncomputable def gFor (it : DI) (n : D → DEnv → Option DEnv) (g : DG) : DG := fun ρ st => (it ρ st).bind fun p => (p.1.items p.2).bind fun ds => loopG p.1 n g ds ρ p.2
theorem same_items {src : Src} {st st2 : Sto} (h : sameSrc src st st2 = true) : src.items st2 = src.items st := by
  cases src with
  | seq ds => rfl
  | cell n =>
    unfold sameSrc at h
    have h' := @of_decide_eq_true _ (Classical.propDecidable _) h
    unfold Src.items
    simp only
    rw [h']
theorem g_for {X : Cx} {tg iter : Expr} {body : List Stmt} {fi : DI} {js : List Nat} {n : D → DEnv → Option DEnv} {g : DG} {pos : Pos} (hp : PassesOwn (model X.prog X.w) X.A X.env X.xe) (hc : X.calm = true) (hi : DIx X tg iter fi) (hg : DP X tg js n) (hb : DSs X body g)
    (hs : ∀ x, foldedSetIterable iter X.env x = pure x := by intro _; rfl) : DS X (.For tg iter body [] pos) (gFor fi n g) :=
  impS (ps_for hp hc hi hg hb hs) fun Dn σ H h => by
    obtain ⟨ρ, st, μ, rs, re, fl, ρ', st', e, q⟩ := h
    obtain ⟨p, e1, e2⟩ := Option.bind_eq_some_iff.mp e
    obtain ⟨src, st1⟩ := p
    obtain ⟨ds, e3, e4⟩ := Option.bind_eq_some_iff.mp e2
    refine ⟨ρ, st, μ, rs, re, src, st1, e1, fun J H1 μ1 rs1 s1 ok => ?_⟩
    refine ⟨fun i m σ2 H2 => ∃ (ρ2 : DEnv) (st2 : Sto) (μ2 : List Addr), RelS X.K μ2 H2 st2 ∧ RelE X.K μ2 σ2 H2 ρ2 ∧ Step μ1 H1 μ2 H2 ∧ src.items st2 = some ds ∧ i ≤ ds.length ∧ m = ds.length - i ∧ loopG src n g (ds.drop i) ρ2 st2 = some (fl, ρ', st'),
      ⟨ds.length, ρ, st1, μ1, rs1, re.step s1, .refl, e3, Nat.zero_le _, rfl, by rw [List.drop_zero]; exact e4⟩, ?_⟩
    rintro i m σ2 H2 ⟨ρ2, st2, μ2, rs2, re2, s2, it2, hi2, rfl, e5⟩
    obtain ⟨k1, k2⟩ := ok μ2 H2 st2 s2 rs2 ds it2 i
    by_cases hlt : i < ds.length
    · have hd : ds[i]? = some ds[i] := List.getElem?_eq_getElem hlt
      obtain ⟨go, ky⟩ := k1 _ hd
      refine .inr ⟨go, fun σ4 H4 => ∃ (ρ4 : DEnv) (st4 : Sto) (μ4 : List Addr), RelS X.K μ4 H4 st4 ∧ RelE X.K μ4 σ4 H4 ρ4 ∧ Step μ1 H1 μ4 H4 ∧ src.items st4 = some ds ∧ loopG src n g (ds.drop (i + 1)) ρ4 st4 = some (fl, ρ', st'),
        fun σ4 H4 ⟨ρ4, st4, μ4, a1, a2, a3, a4, a5⟩ => ⟨ds.length - (i + 1), by omega, ρ4, st4, μ4, a1, a2, a3, a4, hlt, rfl, a5⟩, fun x H3 y => ?_⟩
      obtain ⟨rs3, s3, r3⟩ := ky x H3 y
      rw [List.drop_eq_getElem_cons hlt] at e5
      obtain ⟨ρ3, e6, e7⟩ := Option.bind_eq_some_iff.mp e5
      obtain ⟨r, e8, e9⟩ := Option.bind_eq_some_iff.mp e7
      obtain ⟨fl5, ρ5, st5⟩ := r
      refine ⟨ρ2, st2, μ2, ds[i], rs3, re2.step s3, r3, ρ3, e6, fun σ3 re3 _ _ => ⟨ρ3, st2, μ2, rs3, re3, fl5, ρ5, st5, e8, ?_⟩⟩
      have next : sameSrc src st2 st5 = true → loopG src n g (ds.drop (i + 1)) ρ5 st5 = some (fl, ρ', st') → ∀ (σ4 : L2.St) (H4 : Hp) (μ4 : List Addr), RelS X.K μ4 H4 st5 → RelE X.K μ4 σ4 H4 ρ5 → Step μ2 H3 μ4 H4 →
          ∃ (ρ4 : DEnv) (st4 : Sto) (μ4 : List Addr), RelS X.K μ4 H4 st4 ∧ RelE X.K μ4 σ4 H4 ρ4 ∧ Step μ1 H1 μ4 H4 ∧ src.items st4 = some ds ∧ loopG src n g (ds.drop (i + 1)) ρ4 st4 = some (fl, ρ', st') :=
        fun hsame hl σ4 H4 μ4 a1 a2 a3 => ⟨ρ5, st5, μ4, a1, a2, (s2.trans s3).trans a3, (same_items hsame).trans it2, hl⟩
      cases fl5 with
      | nx =>
        have e10 : (if sameSrc src st2 st5 = true then loopG src n g (ds.drop (i + 1)) ρ5 st5 else none) = some (fl, ρ', st') := e9
        split at e10
        · rename_i hsame
          exact next hsame e10
        · cases e10
      | ct =>
        have e10 : (if sameSrc src st2 st5 = true then loopG src n g (ds.drop (i + 1)) ρ5 st5 else none) = some (fl, ρ', st') := e9
        split at e10
        · rename_i hsame
          exact next hsame e10
        · cases e10
      | bk => cases e9; exact fun σ4 H4 μ4 a1 a2 a3 => q σ4 H4 μ4 a1 a2 (((s1.trans s2).trans s3).trans a3)
      | rt d => cases e9; exact fun v H4 μ4 a1 a2 a3 => q v H4 μ4 a1 (((s1.trans s2).trans s3).trans a2) a3
    · have hle : ds.length ≤ i := by omega
      rw [List.drop_of_length_le hle] at e5
      cases e5
      exact .inl ⟨k2 hle, q _ H2 μ2 rs2 re2 (s1.trans s2)⟩
end DL
end

section
set_option Elab.async false
set_option linter.all false
set_option maxRecDepth 100000
set_option maxHeartbeats 4000000
/-! The data layer, part E: new lists, comprehensions, methods of lists, stores, defs. -/
namespace DL
open PySem PySem.Spec PyProof.Rows L2

/-! ### a list that nobody else holds -/
abbrev DLi := DEnv → Sto → Option (List D × Sto)
def tL (K : PySem.W.Frag) (f : DLi) : TE := fun σ H Q => ∃ (ρ : DEnv) (st : Sto) (μ : List Addr), RelS K μ H st ∧ RelE K μ σ H ρ ∧ ∃ (ds : List D) (st' : Sto), f ρ st = some (ds, st') ∧
  ∀ (p : Addr) (H' : Hp) (μ' : List Addr) (vs : List V), RelS K μ' H' st' → Step μ H μ' H' → H' p = some (.lst vs) → H p = none → p ∉ μ' → Reps K μ' H' vs ds → Q (.ref p) H'
abbrev DL (X : Cx) (e : Expr) (f : DLi) : Prop := PE X e (tL X.K f)
section
variable {K : PySem.W.Frag} {μ μ' : List Addr} {H H' : Hp} {st : Sto} {p : Addr} {vs ws : List V} {ds : List D}
mutual
theorem rep_mono (hm : ∀ (n : Nat) (a : Addr), μ[n]? = some a → μ'[n]? = some a) (ht : ∀ a vs, SqT K H a vs → SqT K H' a vs) (hz : ∀ a vs, Frz K H a vs → Frz K H' a vs) : ∀ (d : D) (v : V), Rep K μ H v d → Rep K μ' H' v d
  | .non, _, h => by cases h; exact .non
  | .bl _, _, h => by cases h; exact .bl _
  | .int _, _, h => by cases h; exact .int _
  | .str _, _, h => by cases h; exact .str _
  | .tup ds, _, h => by
    cases h with
    | tup h1 h2 => exact .tup (ht _ _ h1) (reps_mono hm ht hz ds _ h2)
  | .ref n, _, h => by
    cases h with
    | ref h1 => exact .ref (hm _ _ h1)
  | .fz ds, _, h => by
    cases h with
    | fz h1 h2 => exact .fz (hz _ _ h1) (reps_mono hm ht hz ds _ h2)
theorem reps_mono (hm : ∀ (n : Nat) (a : Addr), μ[n]? = some a → μ'[n]? = some a) (ht : ∀ a vs, SqT K H a vs → SqT K H' a vs) (hz : ∀ a vs, Frz K H a vs → Frz K H' a vs) : ∀ (ds : List D) (vs : List V), Reps K μ H vs ds → Reps K μ' H' vs ds
  | [], _, h => by cases h; exact .nil
  | d :: ds, _, h => by
    cases h with
    | cons h1 h2 => exact .cons (rep_mono hm ht hz d _ h1) (reps_mono hm ht hz ds _ h2)
end
theorem tup_other (e : H p = some (.lst ws)) {o : HO} (a : Addr) (xs : List V) (h : SqT K H a xs) : SqT K (upd H p o) a xs := by
  rcases h with (h | ⟨u, h⟩) | h
  · exact .inl (.inl (by rw [upd_ne (ne_of h e (by intro z; cases z))]; exact h))
  · exact .inl (.inr ⟨u, by rw [upd_ne (ne_of h e (by intro z; cases z))]; exact h⟩)
  · exact .inr h
theorem frz_other (e : H p = some (.lst ws)) {o : HO} (a : Addr) (xs : List V) (h : Frz K H a xs) : Frz K (upd H p o) a xs := fun H2 k => h H2 fun u hu m => by
  have ha : a ≠ p := by
    rintro rfl
    rw [e] at hu
    cases hu
    cases m
  exact k u (by rw [upd_ne ha]; exact hu) m
theorem Reps.other (e : H p = some (.lst ws)) {o : HO} {xs : List V} {es : List D} (r : Reps K μ H xs es) : Reps K μ (upd H p o) xs es := reps_mono (fun _ _ h => h) (tup_other e) (frz_other e) _ _ r
/-- a list that is no cell is written -/
theorem RelS.other (rs : RelS K μ H st) (hp : p ∉ μ) (e : H p = some (.lst ws)) {o : HO} : RelS K μ (upd H p o) st := by
  refine ⟨rs.len, fun n a c e1 e2 => ?_, rs.inj⟩
  have ha : a ≠ p := fun z => hp (z ▸ List.mem_of_getElem? e1)
  have h := rs.ok n a c e1 e2
  cases c with
  | lst ds =>
    obtain ⟨vs, q, r⟩ := h
    exact ⟨vs, by rw [upd_ne ha]; exact q, r.other e⟩
/-- it becomes a cell -/
theorem RelS.adopt (rs : RelS K μ H st) (hp : p ∉ μ) (e : H p = some (.lst vs)) (r : Reps K μ H vs ds) : RelS K (μ ++ [p]) H (st ++ [.lst ds]) := by
  have up : ∀ (n : Nat) (a : Addr), μ[n]? = some a → (μ ++ [p])[n]? = some a := fun n a h => by
    rw [List.getElem?_append_left (List.getElem?_eq_some_iff.mp h).1]
    exact h
  have old : ∀ {n : Nat} {a : Addr} {c : Cell}, (μ ++ [p])[n]? = some a → (st ++ [Cell.lst ds])[n]? = some c → (μ[n]? = some a ∧ st[n]? = some c) ∨ (n = μ.length ∧ a = p ∧ c = .lst ds) := fun {n a c} e1 e2 => by
    by_cases hn : n < μ.length
    · rw [List.getElem?_append_left hn] at e1
      rw [List.getElem?_append_left (by rw [← rs.len]; exact hn)] at e2
      exact .inl ⟨e1, e2⟩
    · have hl : n < (μ ++ [p]).length := (List.getElem?_eq_some_iff.mp e1).1
      rw [List.length_append, List.length_singleton] at hl
      have hn' : n = μ.length := by omega
      subst hn'
      rw [List.getElem?_concat_length] at e1
      rw [rs.len, List.getElem?_concat_length] at e2
      cases e1
      cases e2
      exact .inr ⟨rfl, rfl, rfl⟩
  refine ⟨by rw [List.length_append, List.length_append, rs.len] <;> rfl, fun n a c e1 e2 => ?_, fun i j a xs ys e1 e2 e3 e4 => ?_⟩
  · rcases old e1 e2 with ⟨e1, e2⟩ | ⟨_, rfl, rfl⟩
    · have h := rs.ok n a c e1 e2
      cases c with
      | lst ds =>
        obtain ⟨vs, q, r⟩ := h
        exact ⟨vs, q, reps_mono up (fun _ _ h => h) (fun _ _ h => h) _ _ r⟩
    · exact ⟨vs, e, reps_mono up (fun _ _ h => h) (fun _ _ h => h) _ _ r⟩
  · rcases old e1 e3 with ⟨a1, a2⟩ | ⟨a1, a2, a3⟩
    · rcases old e2 e4 with ⟨b1, b2⟩ | ⟨b1, b2, b3⟩
      · exact rs.inj i j a xs ys a1 b1 a2 b2
      · subst b2
        exact absurd (List.mem_of_getElem? a1) hp
    · rcases old e2 e4 with ⟨b1, b2⟩ | ⟨b1, b2, b3⟩
      · subst a2
        exact absurd (List.mem_of_getElem? b1) hp
      · omega
theorem step_adopt {μ1 : List Addr} {H1 : Hp} (s : Step μ1 H1 μ H) (h : H1 p = none) : Step μ1 H1 (μ ++ [p]) H := by
  obtain ⟨x, rfl, hx⟩ := s.ext
  exact ⟨⟨x ++ [p], by rw [List.append_assoc], fun a ha => (List.mem_append.mp ha).elim (hx a) fun z => by rw [List.mem_singleton.mp z]; exact h⟩, s.keep, s.dom⟩
theorem step_other {μ1 : List Addr} {H1 : Hp} (s : Step μ1 H1 μ H) (h : H1 p = none) {o : HO} : Step μ1 H1 μ (upd H p o) :=
  ⟨s.ext, fun a u e k => by rw [upd_ne (ne_of_none e h)]; exact s.keep a u e k, fun a u e => by
    obtain ⟨w, hw⟩ := s.dom a u e
    exact ⟨w, by rw [upd_ne (ne_of_none e h)]; exact hw⟩⟩
end
theorem Step.back {μ μ' : List Addr} {H H' : Hp} (s : Step μ H μ' H') {p : Addr} (h : H' p = none) : H p = none := by
  cases hq : H p with
  | none => rfl
  | some o =>
    obtain ⟨o', h'⟩ := s.dom p o hq
    rw [h] at h'
    cases h'
def dNew (f : DLi) : DF := fun ρ st => (f ρ st).map fun p => (.ref p.2.length, p.2 ++ [.lst p.1])
theorem dNew_le {K : PySem.W.Frag} {f : DLi} {σ : L2.St} {H : Hp} {Q : VK} (h : tD K (dNew f) σ H Q) : tL K f σ H Q := by
  obtain ⟨ρ, st, μ, rs, re, d, st', e, q⟩ := h
  obtain ⟨p, e1, e2⟩ := Option.map_eq_some_iff.mp e
  cases e2
  exact ⟨ρ, st, μ, rs, re, p.1, p.2, e1, fun a H1 μ1 vs rs1 s1 h1 h2 h3 r1 => q _ H1 _ (rs1.adopt h3 h1 r1) (step_adopt s1 h2) (.ref (by rw [← rs1.len]; exact List.getElem?_concat_length))⟩
section
variable {X : Cx} {e : Expr} {es : List Expr} {f : DLi} {pos : Pos}
theorem d_new (h : DL X e f) : DE X e (dNew f) := imp h fun _ _ _ => dNew_le
/-- a display -/
theorem l_lst {g : DFs} (h : DAs X es g) : DL X (.List es pos) (fun ρ st => (g ρ st).bind fun p => if p.1.length ≤ 16777216 then some p else none) := imp (pe_lst h) fun σ H Q q => by
  obtain ⟨ρ, st, μ, rs, re, ds, st', e, q⟩ := q
  obtain ⟨p, e1, e2⟩ := Option.bind_eq_some_iff.mp e
  split at e2
  · rename_i hl
    cases e2
    refine ⟨ρ, st, μ, rs, re, ds, st', e1, fun vs H1 μ1 rs1 s1 r1 => ⟨by rw [r1.length, line_eq]; exact hl, fun a ha => ?_⟩⟩
    exact q a _ μ1 vs (rs1.new ha) (s1.trans (step_new ha)) upd_same (s1.back ha) (rs1.out ha) ((step_new ha).reps _ _ r1)
  · cases e2
end

/-! ### list comprehensions -/
def wipeD (ρ : DEnv) : List Nat → DEnv
  | [] => ρ
  | v :: vs => (wipeD ρ vs).set v none
theorem wipe_rel {K : PySem.W.Frag} {μ : List Addr} {σ : L2.St} {H : Hp} {ρ : DEnv} (re : RelE K μ σ H ρ) : ∀ vs : List Nat, RelE K μ (wipe σ vs) H (wipeD ρ vs)
  | [] => re
  | v :: vs => by
    have ih := wipe_rel re vs
    refine ⟨by unfold wipe wipeD; rw [List.length_set, List.length_set, ih.len], fun i d e => ?_⟩
    unfold wipeD at e
    unfold wipe
    by_cases hi : v = i
    · subst hi
      by_cases hl : v < (wipeD ρ vs).length
      · rw [List.getElem?_set_self hl] at e
        cases e
      · rw [List.getElem?_eq_none (by rw [List.length_set]; omega)] at e
        cases e
    · rw [List.getElem?_set_ne hi] at e ⊢
      exact ih.at_ i d e
theorem wipe_get {σ : L2.St} {i : Nat} : ∀ {vs : List Nat}, (wipe σ vs)[i]? = if i ∈ vs then (σ[i]?).map (fun _ => none) else σ[i]?
  | [] => by simp [wipe]
  | v :: vs => by
    unfold wipe
    by_cases hi : v = i
    · subst hi
      rw [if_pos List.mem_cons_self]
      by_cases hl : v < (wipe σ vs).length
      · rw [List.getElem?_set_self hl]
        rw [wipe_length] at hl
        rw [List.getElem?_eq_getElem hl]
        rfl
      · rw [List.getElem?_eq_none (by rw [List.length_set]; omega)]
        rw [wipe_length] at hl
        rw [List.getElem?_eq_none (by omega)]
        rfl
    · rw [List.getElem?_set_ne hi, wipe_get (vs := vs)]
      by_cases hm : i ∈ vs
      · rw [if_pos hm, if_pos (List.mem_cons_of_mem _ hm)]
      · rw [if_neg hm, if_neg fun z => (List.mem_cons.mp z).elim (fun e => hi e.symm) hm]
theorem wipe_same {σ σ2 : L2.St} {vs : List Nat} (h : ∀ j, j ∉ vs → σ2[j]? = (wipe σ vs)[j]?) (hl : σ2.length = (wipe σ vs).length) : wipe σ2 vs = wipe σ vs := by
  apply List.ext_getElem?
  intro i
  rw [wipe_get (σ := σ2)]
  by_cases hm : i ∈ vs
  · rw [if_pos hm, wipe_get, if_pos hm]
    rw [wipe_length] at hl
    by_cases hi : i < σ.length
    · rw [List.getElem?_eq_getElem hi, List.getElem?_eq_getElem (by omega)]
      rfl
    · rw [List.getElem?_eq_none (by omega), List.getElem?_eq_none (by omega)]
  · rw [if_neg hm]
    exact h i hm
noncomputable def lcItems (src : Src) (n : D → DEnv → Option DEnv) (tt : DFb) (el : DF) : List D → DEnv → Sto → Option (List D × Sto)
  | [], _, st => some ([], st)
  | d :: r, ρ, st => (n d ρ).bind fun ρ1 => (tt ρ1 st).bind fun b => if b.1 = true then (el ρ1 b.2).bind fun y => if sameSrc src st y.2 = true then (lcItems src n tt el r ρ y.2).map fun q => (y.1 :: q.1, q.2) else none
    else if sameSrc src st b.2 = true then lcItems src n tt el r ρ b.2 else none
noncomputable def lLc (it : DI) (n : D → DEnv → Option DEnv) (tt : DFb) (el : DF) (own : List Nat) : DLi := fun ρ st => (it ρ st).bind fun p => (p.1.items p.2).bind fun ds => (lcItems p.1 n tt el ds (wipeD ρ own) p.2).bind fun q =>
  if q.1.length ≤ 16777216 then some q else none
def tYesD : DFb := fun _ st => some (true, st)
theorem tYes_le {K : PySem.W.Frag} {σ : L2.St} {H : Hp} {Q : Bool → Hp → Prop} (h : tDb K tYesD σ H Q) : tYes σ H Q := by
  obtain ⟨ρ, st, μ, rs, re, b, st', e, q⟩ := h
  cases e
  exact q H μ rs .refl
theorem lc_len {src : Src} {n : D → DEnv → Option DEnv} {tt : DFb} {el : DF} : ∀ {ds : List D} {ρ : DEnv} {st : Sto} {q : List D × Sto}, lcItems src n tt el ds ρ st = some q → q.1.length ≤ ds.length
  | [], _, _, _, h => by cases h; exact Nat.zero_le _
  | d :: r, ρ, st, q, h => by
    obtain ⟨ρ1, e1, h⟩ := Option.bind_eq_some_iff.mp h
    obtain ⟨b, e2, h⟩ := Option.bind_eq_some_iff.mp h
    split at h
    · obtain ⟨y, e3, h⟩ := Option.bind_eq_some_iff.mp h
      split at h
      · obtain ⟨q1, e4, h⟩ := Option.map_eq_some_iff.mp h
        cases h
        have := lc_len e4
        simp only [List.length_cons]
        omega
      · cases h
    · split at h
      · have := lc_len h
        simp only [List.length_cons]
        omega
      · cases h
theorem lLc_le {K : PySem.W.Frag} {fi : DI} {js own : List Nat} {n : D → DEnv → Option DEnv} {tt : DFb} {el : DF} (hj : ∀ j ∈ js, j ∈ own) {σ : L2.St} {H : Hp} {Q : VK} (h : tL K (lLc fi n tt el own) σ H Q) :
    tLc (tI K fi) (tT K js n) (tDb K tt) (tD K el) own σ H Q := by
  obtain ⟨ρ, st, μ, rs, re, items, st', e, q⟩ := h
  obtain ⟨p, e1, e⟩ := Option.bind_eq_some_iff.mp e
  obtain ⟨src, st1⟩ := p
  obtain ⟨ds, e2, e⟩ := Option.bind_eq_some_iff.mp e
  obtain ⟨q1, e3, e⟩ := Option.bind_eq_some_iff.mp e
  split at e
  · rename_i hlen
    cases e
    refine ⟨ρ, st, μ, rs, re, src, st1, e1, fun J H1 μ1 rs1 s1 ok D hD => ?_⟩
    have outD : ∀ {μ2 : List Addr} {H2 : Hp}, Step μ1 H1 μ2 H2 → RelS K μ1 H1 st1 → True := fun _ _ => trivial
    refine ⟨fun i m H2 => ∃ (st2 : Sto) (μ2 : List Addr) (acc : List V) (da rest : List DL.D), RelS K μ2 H2 st2 ∧ D ∉ μ2 ∧ H2 D = some (.lst acc) ∧ Reps K μ2 H2 acc da ∧ Step μ1 H1 μ2 H2 ∧ src.items st2 = some ds ∧ i ≤ ds.length ∧ m = ds.length - i ∧
        lcItems src n tt el (ds.drop i) (wipeD ρ own) st2 = some (rest, st') ∧ da ++ rest = items,
      ⟨ds.length, st1, μ1, [], [], items, rs1.new hD, rs1.out hD, upd_same, .nil, step_new hD, e2, Nat.zero_le _, rfl, by rw [List.drop_zero]; exact e3, rfl⟩, ?_⟩
    rintro i m H2 ⟨st2, μ2, acc, da, rest, rs2, nD, eD, rD, s2, it2, hi2, rfl, el2, hit⟩
    obtain ⟨k1, k2⟩ := ok μ2 H2 st2 s2 rs2 ds it2 i
    by_cases hlt : i < ds.length
    · obtain ⟨go, ky⟩ := k1 _ (List.getElem?_eq_getElem hlt)
      refine .inr ⟨go, fun H4 => ∃ (st4 : Sto) (μ4 : List Addr) (acc : List V) (da rest : List DL.D), RelS K μ4 H4 st4 ∧ D ∉ μ4 ∧ H4 D = some (.lst acc) ∧ Reps K μ4 H4 acc da ∧ Step μ1 H1 μ4 H4 ∧ src.items st4 = some ds ∧
          lcItems src n tt el (ds.drop (i + 1)) (wipeD ρ own) st4 = some (rest, st') ∧ da ++ rest = items,
        fun H4 ⟨st4, μ4, acc, da, rest, a1, a2, a3, a4, a5, a6, a7, a8⟩ => ⟨ds.length - (i + 1), by omega, st4, μ4, acc, da, rest, a1, a2, a3, a4, a5, a6, hlt, rfl, a7, a8⟩, fun x H3 y => ?_⟩
      obtain ⟨rs3, s3, r3⟩ := ky x H3 y
      rw [List.drop_eq_getElem_cons hlt] at el2
      obtain ⟨ρ3, e6, el2⟩ := Option.bind_eq_some_iff.mp el2
      obtain ⟨b, e7, el2⟩ := Option.bind_eq_some_iff.mp el2
      obtain ⟨bb, st5⟩ := b
      have re2 : RelE K μ2 (wipe σ own) H3 (wipeD ρ own) := ((wipe_rel (re.step (s1.trans s2)) own).step s3)
      have out : ∀ {μ' : List Addr} {H' : Hp}, Step μ2 H3 μ' H' → H' D = some (.lst acc) ∧ D ∉ μ' := fun {μ' H'} s => by
        have d3 : H3 D = some (.lst acc) := s3.keep D _ eD (.inl nD)
        refine ⟨s.keep D _ d3 (.inl nD), fun z => ?_⟩
        obtain ⟨x, rfl, hx⟩ := s.ext
        rcases List.mem_append.mp z with z | z
        · exact nD z
        · rw [hx D z] at d3
          cases d3
      refine ⟨_, st2, μ2, ds[i], rs3, re2, r3, ρ3, e6, fun σ3 re3 hk hl => ⟨wipe_same (fun j hjn => hk j fun z => hjn (hj j z)) hl, ρ3, st2, μ2, rs3, re3, bb, st5, e7, fun H5 μ5 rs5 s5 => ?_⟩⟩
      cases bb with
      | true =>
        obtain ⟨y, e8, el2⟩ := Option.bind_eq_some_iff.mp (show ((el ρ3 st5).bind fun y => if sameSrc src st2 y.2 = true then (lcItems src n tt el (ds.drop (i + 1)) (wipeD ρ own) y.2).map fun q => (y.1 :: q.1, q.2) else none) = some (rest, st') from el2)
        obtain ⟨dy, st6⟩ := y
        refine iteT ⟨ρ3, st5, μ5, rs5, re3.step s5, dy, st6, e8, fun vy H6 μ6 rs6 s6 r6 => ?_⟩
        obtain ⟨d6, n6⟩ := out (s5.trans s6)
        dsimp only at el2
        split at el2
        · rename_i hsame
          obtain ⟨q2, e9, el2⟩ := Option.map_eq_some_iff.mp el2
          obtain ⟨rest2, stE⟩ := q2
          cases el2
          have hacc : acc.length = da.length := rD.length
          have hbound := lc_len e9
          refine ⟨acc, d6, by rw [line_eq, hacc]; rw [← hit, List.length_append, List.length_cons] at hlen; omega, st6, μ6, acc ++ [vy], da ++ [dy], rest2, rs6.other n6 d6, n6, upd_same, ?_, step_other (((s2.trans s3).trans s5).trans s6) hD, ?_, e9, by rw [← hit, List.append_assoc]; rfl⟩
          · exact ((((s3.trans s5).trans s6).reps _ _ rD).append (.cons r6 .nil)).other d6
          · exact (same_items hsame).trans it2
        · cases el2
      | false =>
        refine iteF ?_
        have el3 : (if sameSrc src st2 st5 = true then lcItems src n tt el (ds.drop (i + 1)) (wipeD ρ own) st5 else none) = some (rest, st') := el2
        obtain ⟨d5, n5⟩ := out s5
        split at el3
        · rename_i hsame
          exact ⟨st5, μ5, acc, da, rest, rs5, n5, d5, (s3.trans s5).reps _ _ rD, (s2.trans s3).trans s5, (same_items hsame).trans it2, el3, hit⟩
        · cases el3
    · have hle : ds.length ≤ i := by omega
      rw [List.drop_of_length_le hle] at el2
      cases el2
      rw [List.append_nil] at hit
      subst hit
      exact .inl ⟨k2 hle, q D H2 μ2 acc rs2 (s1.trans s2) eD (s1.back hD) nD rD⟩
  · cases e
section
variable {X : Cx} {elt tg iter : Expr} {ifs : List Expr} {scope : Scope} {own : List (Str × Nat)} {pos spos : Pos} {fi : DI} {js : List Nat} {n : D → DEnv → Option DEnv} {tt : DFb} {el : DF}
/-- what a comprehension's block is shown for -/
abbrev Blk (X : Cx) (scope : Scope) (p : Cx → Prop) : Prop := ∀ (s : Shared) (H : Hp) (C : Addr) (cl : List (Str × Addr)) (fp : List Addr), p (X.blk s H scope (compEnvC scope cl C X.env) fp)
theorem impTs {X : Cx} {t t' : TT} {ifs : List Expr} (h : PTs X ifs t) (k : ∀ σ H Q, t' σ H Q → t σ H Q) : PTs X ifs t' := ⟨fun pins s σ H Q I q => h.run pins s σ H Q I (k σ H Q q)⟩
theorem dts_nil {X : Cx} : PTs X [] (tDb X.K tYesD) := impTs pts_nil fun _ _ _ h => tYes_le h
theorem l_lc (hc : X.calm = true) (hN : X.N.Nodup) (hi : DIx X tg iter fi) (ok : BlkOk X.N X.env.scope scope own) (hj : ∀ j ∈ js, j ∈ own.map (·.2))
    (hg : Blk X scope fun Y => DP Y tg js n) (ht : Blk X scope fun Y => PTs Y ifs (tDb X.K tt)) (he : Blk X scope fun Y => DE Y elt el) (hs : ∀ x, foldedSetIterable iter X.env x = pure x := by intro _; rfl) :
    DL X (.ListComp elt [⟨tg, iter, ifs, 0⟩] scope pos) (lLc fi n tt el (own.map (·.2))) := imp (pe_lc hc hN hi ok hg ht he hs) fun _ _ _ h => lLc_le hj h
theorem g_setLc (i : Nat) {y : Str} {py : Pos} (hc : X.calm = true) (hN : X.N.Nodup) (hy : X.N[i]? = some y) (hyl : X.env.scope.names.lookup y = some .local)
    (hsw : swapsWith (.ListComp elt [⟨tg, iter, ifs, 0⟩] scope pos) (some (.Name y py)) spos.line X.env = pure true) (hi : DIx X tg iter fi) (ok : BlkOk X.N X.env.scope scope own) (hj : ∀ j ∈ js, j ∈ own.map (·.2))
    (hg : Blk X scope fun Y => DP Y tg js n) (ht : Blk X scope fun Y => PTs Y ifs (tDb X.K tt)) (he : Blk X scope fun Y => DE Y elt el) (hs : ∀ x, foldedSetIterable iter X.env x = pure x := by intro _; rfl) :
    DS X (.Assign [.Name y py] (.ListComp elt [⟨tg, iter, ifs, 0⟩] scope pos) spos) (gSet i (dNew (lLc fi n tt el (own.map (·.2))))) :=
  impS (ps_setLc hc hN hy hyl hsw hi ok hg ht he hs) fun Dn σ H h => lLc_le hj (dNew_le (Q := fun x H1 => gName i x σ H1 Dn.nx) (by
    obtain ⟨ρ, st, μ, rs, re, fl, ρ', st', e, q⟩ := h
    obtain ⟨p, e1, e2⟩ := Option.map_eq_some_iff.mp e
    cases e2
    exact ⟨ρ, st, μ, rs, re, p.1, p.2, e1, fun v H1 μ1 rs1 s1 r1 => q _ H1 μ1 rs1 ((re.step s1).set i r1) s1⟩))

/-! ### tuple(..), len(..), sum(..), all(..), any(..) of a new list -/
def dOf (o : List D → Sto → Option (D × Sto)) (f : DLi) : DF := fun ρ st => (f ρ st).bind fun p => o p.1 p.2
def NewD (K : PySem.W.Frag) (r : List V → Hp → VK → Prop) (o : List D → Sto → Option (D × Sto)) : Prop :=
  ∀ (μ : List Addr) (H : Hp) (st st' : Sto) (p : Addr) (vs : List V) (ds : List D) (d : D) (Q : VK), RelS K μ H st → H p = some (.lst vs) → p ∉ μ → Reps K μ H vs ds → o ds st = some (d, st') → Post K μ H st' d Q → r [.ref p] H Q
theorem dOf_le {K : PySem.W.Frag} {f : DLi} {r : List V → Hp → VK → Prop} {o : List D → Sto → Option (D × Sto)} (hd : NewD K r o) {σ : L2.St} {H : Hp} {Q : VK} (h : tD K (dOf o f) σ H Q) : tCB r (tCons (tL K f) tNil) σ H Q := by
  obtain ⟨ρ, st, μ, rs, re, d, st', e, q⟩ := h
  obtain ⟨p, e1, e2⟩ := Option.bind_eq_some_iff.mp e
  exact ⟨ρ, st, μ, rs, re, p.1, p.2, e1, fun a H1 μ1 vs rs1 s1 h1 h2 h3 r1 => hd μ1 H1 p.2 st' a vs p.1 d Q rs1 h1 h3 r1 e2 (q.after s1)⟩
def oTupN : List D → Sto → Option (D × Sto) := fun ds st => some (.tup ds, st)
def oLenN : List D → Sto → Option (D × Sto) := fun ds st => some (.int ds.length, st)
def oSumN : List D → Sto → Option (D × Sto) := fun ds st => (intsD ds).map fun ns => (.int ns.sum, st)
def oAllN : List D → Sto → Option (D × Sto) := fun ds st => (blsD ds).map fun ns => (.bl (ns.all id), st)
def oAnyN : List D → Sto → Option (D × Sto) := fun ds st => (blsD ds).map fun ns => (.bl (ns.any id), st)
theorem nd_tup {K : PySem.W.Frag} : NewD K (fun xs H Q => ∃ p ys, xs = [.ref p] ∧ ((SqL K H p ys ∧ ∀ l, H l = none → Q (.ref l) (upd H l (.tup ys))) ∨ (SqT K H p ys ∧ Q (.ref p) H))) oTupN := by
  intro μ H st st' p vs ds d Q rs h1 h2 r e q
  cases e
  exact ⟨p, vs, rfl, .inl ⟨SqL.of h1, fun l hl => q _ _ μ (rs.new hl) (step_new hl) (.tup (SqT.of upd_same) ((step_new hl).reps _ _ r))⟩⟩
theorem nd_len {K : PySem.W.Frag} : NewD K (fun xs H Q => ∃ x n, xs = [x] ∧ LenV K x H n ∧ Q (.int n) H) oLenN := by
  intro μ H st st' p vs ds d Q rs h1 h2 r e q
  cases e
  exact ⟨_, ds.length, rfl, .inl ⟨vs, SqL.of h1, r.length.symm⟩, q _ H μ rs .refl (.int _)⟩
theorem nd_sum {K : PySem.W.Frag} : NewD K (rSum K) oSumN := by
  intro μ H st st' p vs ds d Q rs h1 h2 r e q
  obtain ⟨ns, e3, e4⟩ := Option.map_eq_some_iff.mp e
  cases e4
  exact ⟨p, ns, rfl, by rw [← ints_rep r e3]; exact SqL.of h1, q _ H μ rs .refl (.int _)⟩
theorem nd_all {K : PySem.W.Frag} : NewD K (rAll K) oAllN := by
  intro μ H st st' p vs ds d Q rs h1 h2 r e q
  obtain ⟨ns, e3, e4⟩ := Option.map_eq_some_iff.mp e
  cases e4
  exact ⟨p, ns, rfl, by rw [← bls_rep r e3]; exact SqL.of h1, q _ H μ rs .refl (.bl _)⟩
theorem nd_any {K : PySem.W.Frag} : NewD K (rAny K) oAnyN := by
  intro μ H st st' p vs ds d Q rs h1 h2 r e q
  obtain ⟨ns, e3, e4⟩ := Option.map_eq_some_iff.mp e
  cases e4
  exact ⟨p, ns, rfl, by rw [← bls_rep r e3]; exact SqL.of h1, q _ H μ rs .refl (.bl _)⟩
theorem d_ofTy {e : Expr} {f : DLi} {x : Str} {p : Pos} {T : String} {r : List V → Hp → VK → Prop} {o : List D → Sto → Option (D × Sto)} (hc : CallR X (.type T) r) (hd : NewD X.K r o) (hg : Gl X x) (hm : X.mg x = none) (hv : bootBuiltins x = some (.type T)) (ha : DL X e f)
    (hn : x ≠ "__name__" := by decide) (hdb : (x == ("__debug__" : Str)) = false := by decide)
    (he : starEach [e] X.env = (false, eval e X.env) :: starEach [] X.env := by rfl) (hpl : (backTo pos (starEach [] X.env)).any (·.1) = false := by rfl) : DE X (.Call (.Name x p) [e] [] pos) (dOf o f) :=
  imp (pe_callTy hc hg hm hv (pa_cons ha pa_nil he) hn hdb he hpl) fun _ _ _ h => dOf_le hd h
theorem d_ofB {e : Expr} {f : DLi} {x : Str} {p : Pos} {id : String} {r : List V → Hp → VK → Prop} {o : List D → Sto → Option (D × Sto)} (hc : CallR X (.builtin id) r) (hd : NewD X.K r o) (hg : Gl X x) (hm : X.mg x = none) (hv : bootBuiltins x = some (.builtin id)) (ha : DL X e f)
    (hn : x ≠ "__name__" := by decide) (hdb : (x == ("__debug__" : Str)) = false := by decide)
    (he : starEach [e] X.env = (false, eval e X.env) :: starEach [] X.env := by rfl) (hpl : (backTo pos (starEach [] X.env)).any (·.1) = false := by rfl) : DE X (.Call (.Name x p) [e] [] pos) (dOf o f) :=
  imp (pe_callB hc hg hm hv (pa_cons ha pa_nil he) hn hdb he hpl) fun _ _ _ h => dOf_le hd h
/-- for x in a new list -/
def srcNew (f : DLi) : DI := fun ρ st => (f ρ st).map fun p => (.seq p.1, p.2)
theorem i_new {l : Expr} {f : DLi} (hl : DL X l f) : DIx X tg l (srcNew f) := impI (pi_list hl) fun σ H R h => by
  obtain ⟨ρ, st, μ, rs, re, src, st', e, q⟩ := h
  obtain ⟨p, e1, e2⟩ := Option.map_eq_some_iff.mp e
  cases e2
  refine ⟨ρ, st, μ, rs, re, p.1, p.2, e1, fun a H1 μ1 vs rs1 s1 h1 h2 h3 r1 => ⟨a, rfl, ⟨vs, SqL.of h1⟩, q _ H1 μ1 rs1 s1 ?_⟩⟩
  intro μ' H' st2 s rs2 ds' e i
  cases e
  have g1 : SqL X.K H' a vs := SqL.of (s.keep a _ h1 (.inl h3))
  have g2 := s.reps _ _ r1
  refine ⟨fun d hd => ?_, fun hl => ⟨vs, g1, by rw [g2.length]; exact hl⟩⟩
  obtain ⟨v, e5, r⟩ := g2.get hd
  refine ⟨⟨vs, v, g1, e5⟩, fun x H'' y => ?_⟩
  obtain ⟨rfl, y⟩ := y
  have ex := y vs g1
  rw [e5] at ex
  cases ex
  exact ⟨rs2, .refl, r⟩

/-! ### isinstance -/
theorem d_isi {e t : Expr} {f : DF} {T : String} {p tp : Pos} {tn : Str} (hT : isT T) (hg : Gl X "isinstance") (hm : X.mg "isinstance" = none) (ha : DE X e f) (ht : t = .Name tn tp) (hg2 : Gl X tn) (hm2 : X.mg tn = none) (hv2 : bootBuiltins tn = some (.type T)) (hn2 : tn ≠ "__name__" := by decide) (hd2 : (tn == ("__debug__" : Str)) = false := by decide)
    (he : starEach [e, t] X.env = (false, eval e X.env) :: starEach [t] X.env := by rfl) (he2 : starEach [t] X.env = (false, eval t X.env) :: starEach [] X.env := by rfl) (hpl : (backTo pos (starEach [t] X.env)).any (·.1) = false := by rfl) :
    DE X (.Call (.Name "isinstance" p) [e, t] [] pos) (dIsi T f) := by
  subst ht
  exact imp (pe_callB call_isi hg hm (by decide +kernel) (pa_cons ha (pa_cons (pe_bltn (v := .ty T) hg2 hm2 hv2 rfl hn2 hd2) pa_nil he2) he) (by decide) (by decide) he hpl) fun _ _ _ h => dIsi_le hT h
end
end DL
end

section
set_option Elab.async false
set_option linter.all false
set_option maxRecDepth 100000
set_option maxHeartbeats 4000000
/-! The data layer, part F: methods of lists, stores into lists, defs. -/
namespace DL
open PySem PySem.Spec PyProof.Rows L2

/-! ### methods of a list -/
def isLstD (st : Sto) : D → Bool
  | .ref n => decide (n < st.length)
  | .fz _ => true
  | _ => false
def dMeth (o : D → List D → Sto → Option (D × Sto)) (f : DF) (g : DFs) : DF := fun ρ st => (f ρ st).bind fun p => if isLstD p.2 p.1 = true then (g ρ p.2).bind fun q => o p.1 q.1 q.2 else none
def MethD (K : PySem.W.Frag) (r : V → List V → Hp → VK → Prop) (o : D → List D → Sto → Option (D × Sto)) : Prop :=
  ∀ (μ : List Addr) (H : Hp) (st st' : Sto) (x : V) (xs : List V) (a : D) (ds : List D) (d : D) (Q : VK), RelS K μ H st → Rep K μ H x a → Reps K μ H xs ds → o a ds st = some (d, st') → Post K μ H st' d Q → r x xs H Q
def oApp : D → List D → Sto → Option (D × Sto)
  | .ref n, [y], st => match st[n]? with
    | some (.lst xs) => if xs.length < 16777216 then some (.non, st.set n (.lst (xs ++ [y]))) else none
    | none => none
  | _, _, _ => none
def oPopAt : D → List D → Sto → Option (D × Sto)
  | .ref n, [.int i], st => match st[n]? with
    | some (.lst xs) => if -(2 ^ 63) ≤ i ∧ i < 2 ^ 63 then (seqIndex? i xs.length).bind fun k => (xs[k]?).map fun y => (y, st.set n (.lst (xs.eraseIdx k))) else none
    | none => none
  | _, _, _ => none
def oPop : D → List D → Sto → Option (D × Sto)
  | .ref n, [], st => match st[n]? with
    | some (.lst xs) => (xs[xs.length - 1]?).map fun y => (y, st.set n (.lst xs.dropLast))
    | none => none
  | _, _, _ => none
section
variable {K : PySem.W.Frag}
theorem tyV_lst {μ : List Addr} {H : Hp} {st : Sto} (rs : RelS K μ H st) {x : V} {d : D} (r : Rep K μ H x d) (h : isLstD st d = true) : tyV K "list" x H := by
  cases r with
  | @ref a n h1 =>
    have hn : n < st.length := of_decide_eq_true h
    obtain ⟨vs, h2, _⟩ := (rs.ok n a _ h1 (List.getElem?_eq_getElem hn)).sq
    exact .inl ⟨rfl, vs, h2⟩
  | fz h1 h2 => exact .inl ⟨rfl, _, h1.sq⟩
  | _ => cases h
theorem md_app : MethD K rAppend oApp := by
  intro μ H st st' x xs a ds d Q rs rx rr e q
  unfold oApp at e
  split at e
  · rename_i n y
    split at e
    · rename_i ws e1
      split at e
      · rename_i hl
        cases e
        obtain ⟨l, vs, rfl, h1, h2, h3⟩ := lst_rep rs rx e1
        obtain ⟨vy, rfl, ry⟩ := reps1 rr
        refine ⟨l, vs, vy, rfl, rfl, h2, by rw [line_eq, h3.length]; exact hl, ?_⟩
        exact q _ _ μ (rs.write h1 e1 (h3.append (.cons ry .nil))) (step_write h1 h2) .non
      · cases e
    · cases e
  · cases e
theorem md_popAt : MethD K rPopAt oPopAt := by
  intro μ H st st' x xs a ds d Q rs rx rr e q
  unfold oPopAt at e
  split at e
  · rename_i n i
    split at e
    · rename_i ws e1
      split at e
      · rename_i hl
        obtain ⟨k, e2, e⟩ := Option.bind_eq_some_iff.mp e
        obtain ⟨y, e3, e⟩ := Option.map_eq_some_iff.mp e
        cases e
        obtain ⟨l, vs, rfl, h1, h2, h3⟩ := lst_rep rs rx e1
        obtain ⟨vy, rfl, ry⟩ := reps1 rr
        cases ry
        obtain ⟨vv, e4, rv⟩ := h3.get e3
        refine ⟨l, vs, i, k, vv, rfl, rfl, h2, hl.1, hl.2, by rw [h3.length]; exact e2, e4, ?_⟩
        exact q _ _ μ (rs.write h1 e1 (h3.erase k)) (step_write h1 h2) ((step_write h1 h2).rep _ _ rv)
      · cases e
    · cases e
  · cases e
theorem md_pop : MethD K rPop oPop := by
  intro μ H st st' x xs a ds d Q rs rx rr e q
  unfold oPop at e
  split at e
  · rename_i n
    split at e
    · rename_i ws e1
      obtain ⟨y, e3, e⟩ := Option.map_eq_some_iff.mp e
      cases e
      obtain ⟨l, vs, rfl, h1, h2, h3⟩ := lst_rep rs rx e1
      cases rr
      obtain ⟨vv, e4, rv⟩ := h3.get e3
      refine ⟨l, vs, vv, rfl, rfl, h2, by rw [h3.length]; exact e4, ?_⟩
      exact q _ _ μ (rs.write h1 e1 h3.dropLast) (step_write h1 h2) ((step_write h1 h2).rep _ _ rv)
    · cases e
  · cases e
theorem dMeth_le {f : DF} {g : DFs} {r : V → List V → Hp → VK → Prop} {o : D → List D → Sto → Option (D × Sto)} (hd : MethD K r o) {σ : L2.St} {H : Hp} {Q : VK} (h : tD K (dMeth o f g) σ H Q) : tBM K "list" r (tD K f) (tDs K g) σ H Q := by
  obtain ⟨ρ, st, μ, rs, re, d, st', e, q⟩ := h
  obtain ⟨p, e1, e⟩ := Option.bind_eq_some_iff.mp e
  split at e
  · rename_i hl
    obtain ⟨p2, e2, e⟩ := Option.bind_eq_some_iff.mp e
    exact ⟨ρ, st, μ, rs, re, p.1, p.2, e1, fun x H1 μ1 rs1 s1 r1 => ⟨tyV_lst rs1 r1 hl, ρ, p.2, μ1, rs1, re.step s1, p2.1, p2.2, e2, fun xs H2 μ2 rs2 s2 r2 => hd μ2 H2 p2.2 st' x xs p.1 p2.1 d Q rs2 (s2.rep _ _ r1) r2 e (q.after (s1.trans s2))⟩⟩
  · cases e
end
section
variable {X : Cx} {o e i : Expr} {f fo fi fe : DF} {apos cpos pos pos2 : Pos}
theorem d_app {g : DFs} (ho : DE X o f) (ha : DAs X [e] g) (hbase : attributeBase o "append" X.env (eval o X.env) = eval o X.env := by rfl)
    (hline : (apos.endLine == cpos.line) = true := by rfl) (hs : starEach [e] X.env = (false, eval e X.env) :: starEach [] X.env := by rfl) : DE X (.Call (.Attribute o "append" apos) [e] [] cpos) (dMeth oApp f g) :=
  imp (pe_bm PySem.F.plainAttrs_list PySem.F.slot_list_append PySem.F.type_list_append mt_append ho ha hbase (by rw [hs]; rfl) hline hs (by rfl)) fun _ _ _ h => dMeth_le md_app h
theorem d_popAt {g : DFs} (ho : DE X o f) (ha : DAs X [e] g) (hbase : attributeBase o "pop" X.env (eval o X.env) = eval o X.env := by rfl)
    (hline : (apos.endLine == cpos.line) = true := by rfl) (hs : starEach [e] X.env = (false, eval e X.env) :: starEach [] X.env := by rfl) : DE X (.Call (.Attribute o "pop" apos) [e] [] cpos) (dMeth oPopAt f g) :=
  imp (pe_bm PySem.F.plainAttrs_list PySem.F.slot_list_pop PySem.F.type_list_pop mt_popAt ho ha hbase (by rw [hs]; rfl) hline hs (by rfl)) fun _ _ _ h => dMeth_le md_popAt h
theorem d_pop (ho : DE X o f) (hbase : attributeBase o "pop" X.env (eval o X.env) = eval o X.env := by rfl) (hline : (apos.endLine == cpos.line) = true := by rfl) : DE X (.Call (.Attribute o "pop" apos) [] [] cpos) (dMeth oPop f dNil) :=
  imp (pe_bm0 PySem.F.plainAttrs_list PySem.F.slot_list_pop PySem.F.type_list_pop mt_pop ho hbase hline) fun σ H Q h => by
    obtain ⟨ρ, st, μ, rs, re, d, st', e1, q⟩ := dMeth_le md_pop h
    refine ⟨ρ, st, μ, rs, re, d, st', e1, fun x H1 μ1 rs1 s1 r1 => ?_⟩
    obtain ⟨h1, ρ2, st2, μ2, rs2, re2, ds, st3, e2, q2⟩ := q x H1 μ1 rs1 s1 r1
    cases e2
    exact ⟨h1, q2 [] H1 μ2 rs2 .refl .nil⟩

/-! ### xs[i] = e -/
def gSetIx (fe fo fi : DF) : DG := fun ρ st => (fe ρ st).bind fun p => (fo ρ p.2).bind fun q => (fi ρ q.2).bind fun r => match q.1, r.1 with
  | .ref n, .int k => match r.2[n]? with
    | some (.lst xs) => (ixN xs.length k).map fun j => (.nx, ρ, r.2.set n (.lst (xs.set j p.1)))
    | none => none
  | _, _ => none
theorem g_setIx (he : DE X e fe) (ho : DE X o fo) (hi : DE X i fi) (hs : swapsWithSole [.Subscript o i pos2] e pos.line X.env = pure false := by rfl) (hw : swappedStores [.Subscript o i pos2] e X.env = pure none := by rfl)
    (h1 : (assignEach [.Subscript o i pos2] X.env).map (·.2) = [assign (.Subscript o i pos2) X.env] := by rfl)
    (ha : ∀ v, assign (.Subscript o i pos2) X.env v = (do
      let ov ← holding [v] (eval o X.env)
      let iv ← holding [v, ov] (eval i X.env)
      standAt pos2
      holding [v, ov, iv] (setItem ov iv v)
      release [v, ov, iv] []) := by intro _; rfl) : DS X (.Assign [.Subscript o i pos2] e pos) (gSetIx fe fo fi) :=
  impS (ps_asg he (pg_sub ho hi set_list ha) hs hw h1) fun Dn σ H h => by
    obtain ⟨ρ, st, μ, rs, re, fl, ρ', st', e, q⟩ := h
    obtain ⟨p, e1, e⟩ := Option.bind_eq_some_iff.mp e
    obtain ⟨p2, e2, e⟩ := Option.bind_eq_some_iff.mp e
    obtain ⟨p3, e3, e⟩ := Option.bind_eq_some_iff.mp e
    refine ⟨ρ, st, μ, rs, re, p.1, p.2, e1, fun v H1 μ1 rs1 s1 r1 => ⟨ρ, p.2, μ1, rs1, re.step s1, p2.1, p2.2, e2, fun y H2 μ2 rs2 s2 r2 => ⟨ρ, p2.2, μ2, rs2, (re.step s1).step s2, p3.1, p3.2, e3, fun z H3 μ3 rs3 s3 r3 => ?_⟩⟩⟩
    have ry := s3.rep _ _ r2
    split at e
    · rename_i n k ea eb
      split at e
      · rename_i xs ec
        obtain ⟨j, e4, e⟩ := Option.map_eq_some_iff.mp e
        cases e
        rw [ea] at ry
        rw [eb] at r3
        cases r3
        obtain ⟨l, vs, rfl, g1, g2, g3⟩ := lst_rep rs3 ry ec
        refine ⟨l, vs, k, j, rfl, rfl, g2, by rw [g3.length]; exact e4, ?_⟩
        have st3 := step_write (o := .lst (vs.set j v)) g1 g2
        exact q σ _ μ3 (rs3.write g1 ec (Reps.set ((s2.trans s3).rep _ _ r1) j g3)) ((((re.step s1).step s2).step s3).step st3) (((s1.trans s2).trans s3).trans st3)
      · cases e
    · cases e
end

/-! ### what a call leaves behind is forgotten where nothing names it -/
mutual
def belowD (L : Nat) : D → Bool
  | .ref n => decide (n < L)
  | .tup xs => belowDs L xs
  | .fz xs => belowDs L xs
  | _ => true
def belowDs (L : Nat) : List D → Bool
  | [] => true
  | d :: ds => belowD L d && belowDs L ds
end
def belowC (L : Nat) : Cell → Bool
  | .lst xs => belowDs L xs
def dropOk (L : Nat) (st : Sto) (d : D) (st' : Sto) : Prop := L ≤ st'.length ∧ belowD L d = true ∧ ∀ i, i < L → st'[i]? = st[i]? ∨ ∃ c, st'[i]? = some c ∧ belowC L c = true
noncomputable def gcFn (F : Fn) : Fn := fun ds st => (F ds st).map fun r => @ite _ (dropOk st.length st r.1 r.2) (Classical.propDecidable _) (r.1, r.2.take st.length) r
section
variable {K : PySem.W.Frag} {μ μ' : List Addr} {H H' : Hp} {L : Nat}
mutual
theorem below_of : ∀ (d : D) (v : V), Rep K μ H v d → belowD μ.length d = true
  | .non, _, _ => by simp [belowD]
  | .bl _, _, _ => by simp [belowD]
  | .int _, _, _ => by simp [belowD]
  | .str _, _, _ => by simp [belowD]
  | .tup ds, _, h => by
    cases h with
    | tup _ h2 => simp only [belowD]; exact belows_of ds _ h2
  | .fz ds, _, h => by
    cases h with
    | fz _ h2 => simp only [belowD]; exact belows_of ds _ h2
  | .ref n, _, h => by
    cases h with
    | ref h1 => simp only [belowD]; exact decide_eq_true (List.getElem?_eq_some_iff.mp h1).1
theorem belows_of : ∀ (ds : List D) (vs : List V), Reps K μ H vs ds → belowDs μ.length ds = true
  | [], _, _ => by simp [belowDs]
  | d :: ds, _, h => by
    cases h with
    | cons h1 h2 => simp only [belowDs, below_of d _ h1, belows_of ds _ h2]; rfl
end
mutual
theorem rep_cut (hm : ∀ (n : Nat) (a : Addr), n < L → μ'[n]? = some a → μ[n]? = some a) : ∀ (d : D) (v : V), Rep K μ' H v d → belowD L d = true → Rep K μ H v d
  | .non, _, h, _ => by cases h; exact .non
  | .bl _, _, h, _ => by cases h; exact .bl _
  | .int _, _, h, _ => by cases h; exact .int _
  | .str _, _, h, _ => by cases h; exact .str _
  | .tup ds, _, h, b => by
    cases h with
    | tup h1 h2 => simp only [belowD] at b; exact .tup h1 (reps_cut hm ds _ h2 b)
  | .fz ds, _, h, b => by
    cases h with
    | fz h1 h2 => simp only [belowD] at b; exact .fz h1 (reps_cut hm ds _ h2 b)
  | .ref n, _, h, b => by
    cases h with
    | ref h1 => simp only [belowD] at b; exact .ref (hm _ _ (of_decide_eq_true b) h1)
theorem reps_cut (hm : ∀ (n : Nat) (a : Addr), n < L → μ'[n]? = some a → μ[n]? = some a) : ∀ (ds : List D) (vs : List V), Reps K μ' H vs ds → belowDs L ds = true → Reps K μ H vs ds
  | [], _, h, _ => by cases h; exact .nil
  | d :: ds, _, h, b => by
    cases h with
    | cons h1 h2 =>
      simp only [belowDs, Bool.and_eq_true] at b
      exact .cons (rep_cut hm d _ h1 b.1) (reps_cut hm ds _ h2 b.2)
end
theorem gc_post {st st' : Sto} {d : D} {Q : VK} (rs : RelS K μ H st) (ok : dropOk st.length st d st') (q : Post K μ H (st'.take st.length) d Q) : Post K μ H st' d Q := by
  intro v H' μ' rs' s' r'
  obtain ⟨x, rfl, hx⟩ := s'.ext
  have hm : ∀ (n : Nat) (a : Addr), n < st.length → (μ ++ x)[n]? = some a → μ[n]? = some a := fun n a hn h => by
    rw [List.getElem?_append_left (by rw [rs.len]; exact hn)] at h
    exact h
  have tk : ∀ {n : Nat} {c : Cell}, (st'.take st.length)[n]? = some c → n < st.length ∧ st'[n]? = some c := fun {n c} h => by
    rw [List.getElem?_take] at h
    split at h
    · exact ⟨by assumption, h⟩
    · cases h
  refine q v H' μ ⟨?_, fun n a c e1 e2 => ?_, fun i j a xs ys e1 e2 e3 e4 => ?_⟩ ⟨⟨[], by simp, by simp⟩, s'.keep, s'.dom⟩ (rep_cut hm _ _ r' ok.2.1)
  · rw [List.length_take, rs.len]
    have := ok.1
    omega
  · obtain ⟨hn, e2⟩ := tk e2
    have e1' : (μ ++ x)[n]? = some a := by
      rw [List.getElem?_append_left (by rw [rs.len]; exact hn)]
      exact e1
    have h := rs'.ok n a c e1' e2
    have hb : belowC st.length c = true := by
      rcases ok.2.2 n hn with z | ⟨c', z, hb⟩
      · rw [e2] at z
        have h0 := rs.ok n a c e1 z.symm
        cases c with
        | lst ds =>
          obtain ⟨vs, _, r⟩ := h0
          have := belows_of ds vs r
          rw [rs.len] at this
          exact this
      · rw [e2] at z
        cases z
        exact hb
    cases c with
    | lst ds =>
      obtain ⟨vs, h1, r⟩ := h
      exact ⟨vs, h1, reps_cut hm _ _ r hb⟩
  · obtain ⟨h1, e3⟩ := tk e3
    obtain ⟨h2, e4⟩ := tk e4
    refine rs'.inj i j a xs ys ?_ ?_ e3 e4
    · rw [List.getElem?_append_left (by rw [rs.len]; exact h1)]; exact e1
    · rw [List.getElem?_append_left (by rw [rs.len]; exact h2)]; exact e2
theorem spD_gc {n : Nat} {F : Fn} (vs : List V) (Q : VK) (E : XK) (h : spD K n (gcFn F) vs H Q E) : spD K n F vs H Q E := by
  obtain ⟨ds, st, μ, rs, r, hl, d, st', e, q⟩ := h
  obtain ⟨p, e1, e2⟩ := Option.map_eq_some_iff.mp e
  refine ⟨ds, st, μ, rs, r, hl, p.1, p.2, e1, ?_⟩
  split at e2
  · rename_i ok
    cases e2
    exact gc_post rs ok q
  · cases e2
    exact q
end

/-! ### a def -/
def startD (N : Nat) (ds : List D) : DEnv := ds.map some ++ List.replicate (N - ds.length) none
/-- what a body gives -/
def fnBody (N : Nat) (g : DG) : Fn := fun ds st => (g (startD N ds) st).bind fun r => match r.1 with
  | .rt d => some (d, r.2.2)
  | .nx => some (.non, r.2.2)
  | _ => none
noncomputable def fnG (N : Nat) (g : DG) : Fn := gcFn (fnBody N g)
/-- the module's name x is a def that gives F: of n values, the last ones dv by default -/
def DCall (P : Program) (w : World) (K : PySem.W.Frag) (mg : Str → Option Value) (base : Heap) (k : Nat) (x : Str) (n : Nat) (F : Fn) (dv : List D) : Prop :=
  ∃ (f : Addr) (fd : FuncData) (ps : List Str) (ds : List Value) (dvs : List V), FnOk P w K mg base CX0 k f fd ps (spD K n F) ∧ mg x = some (.ref f) ∧ PySem.W.keepIn K (.ref f) = true ∧ Binds K fd ps ds ∧ Vals dvs ds ∧ ∀ μ H, Reps K μ H dvs dv
theorem DCall.mono {P : Program} {w : World} {K : PySem.W.Frag} {mg : Str → Option Value} {base : Heap} {j k : Nat} {x : Str} {n : Nat} {F : Fn} {dv : List D} (h : DCall P w K mg base j x n F dv) (hjk : j ≤ k) : DCall P w K mg base k x n F dv := by
  obtain ⟨f, fd, ps, ds, dvs, h1, h2⟩ := h
  exact ⟨f, fd, ps, ds, dvs, h1.mono hjk, h2⟩
section
variable {X : Cx} {e : Expr} {es : List Expr} {g : DFs} {F : Fn} {n k m : Nat} {dv : List D} {x : Str} {p pos : Pos}
theorem c_call (C : DCall X.prog X.w X.K X.mg X.base k x n F dv) (hr : Room k X.A) (hg : Gl X x) (hnn : NArg g m) (hlen : m + dv.length = n) (ha : DAs X (e :: es) g) (hdb : (x == ("__debug__" : Str)) = false := by decide)
    (he : starEach (e :: es) X.env = (false, eval e X.env) :: starEach es X.env := by rfl) (hpl : (backTo pos (starEach es X.env)).any (·.1) = false := by rfl) : DE X (.Call (.Name x p) (e :: es) [] pos) (dCall F dv g) := by
  obtain ⟨f, fd, ps, ds, dvs, h1, h2, h3, h4, h5, h6⟩ := C
  exact d_call h1 hr hg h2 h3 h4 h5 h6 hnn hlen ha hdb he hpl
theorem c_call0 (C : DCall X.prog X.w X.K X.mg X.base k x n F dv) (hr : Room k X.A) (hg : Gl X x) (hlen : dv.length = n) (hdb : (x == ("__debug__" : Str)) = false := by decide) : DE X (.Call (.Name x p) [] [] pos) (dCall F dv dNil) := by
  obtain ⟨f, fd, ps, ds, dvs, h1, h2, h3, h4, h5, h6⟩ := C
  exact d_call0 h1 hr hg h2 h3 h4 h5 h6 hlen hdb
end
theorem startD_rel {K : PySem.W.Frag} {μ : List Addr} {H : Hp} {N : List Str} {vs : List V} {ds : List D} (r : Reps K μ H vs ds) : RelE K μ (L2.start N vs) H (startD N.length ds) := by
  have hl := r.length
  refine ⟨by unfold L2.start startD; simp [hl], fun i d e => ?_⟩
  unfold startD at e
  unfold L2.start
  by_cases hi : i < ds.length
  · rw [List.getElem?_append_left (by simpa using hi), List.getElem?_map] at e
    obtain ⟨d', e1, e2⟩ := Option.map_eq_some_iff.mp e
    cases e2
    obtain ⟨v, e3, rv⟩ := r.get e1
    exact ⟨v, by rw [List.getElem?_append_left (by simpa [hl] using hi), List.getElem?_map, e3]; rfl, rv⟩
  · rw [List.getElem?_append_right (by simpa using hi), List.getElem?_replicate] at e
    split at e <;> cases e
section
variable {P : Program} {w : World} {K : PySem.W.Frag} {mg : Str → Option Value} {base : Heap} {x qual : Str} {params : Arguments} {body : List Stmt} {scope : Scope} {dvs : List V} {f : Addr} {fd : FuncData} {N ps : List Str} {k : Nat} {g : DG}
/-- THE RULE for a def -/
theorem fn_ok (F : FunD K x qual params body scope dvs [] f fd) (S : FnScope N ps scope)
    (hb : ∀ (cdv : Value) (A : Around) (outer : List Env) (s : Shared) (H : Hp) (E : XK), Room k (A.deeper (envOfC qual scope s.heap.objs.size f cdv)) → DSs (cxOf CX0 P w K mg base N qual scope f cdv A outer s H E).nox body g) :
    FnOk P w K mg base CX0 (k + 1) f fd ps (spD K ps.length (fnG N.length g)) := by
  refine FnOk.imp (F.ok (sp := spD K ps.length (fnBody N.length g)) S (fun vs H Q E h => spD_len vs H Q E h) fun cdv A outer s H vs Q E hr h => ⟨_, PSs.nox (hb cdv A outer s H E hr), ?_⟩) fun vs H Q E h => spD_gc vs Q E h
  obtain ⟨ds, st, μ, rs, r, hl, d, st', e, q⟩ := h
  obtain ⟨r1, e1, e2⟩ := Option.bind_eq_some_iff.mp e
  obtain ⟨fl, ρ', st1⟩ := r1
  refine ⟨startD N.length ds, st, μ, rs, startD_rel r, fl, ρ', st1, e1, ?_⟩
  cases fl with
  | rt d' => cases e2; exact fun v H' μ' rs' s' r' => q v H' μ' rs' s' r'
  | nx => cases e2; exact fun σ' H' μ' rs' re' s' => q .non H' μ' rs' s' .non
  | bk => cases e2
  | ct => cases e2
end
end DL
end

section
set_option Elab.async false
set_option linter.all false
set_option maxRecDepth 100000
set_option maxHeartbeats 4000000
/-! The data layer, part G: the head's facts, the law's end. -/
namespace DL
open PySem PySem.Spec PyProof.Rows L2

/-! ### constants of the module -/
mutual
def conB (K : PySem.W.Frag) : D → Value → Bool
  | .non, .none => true
  | .bl b, .bool c => b == c
  | .int i, .int j _ => decide (i = j)
  | .str x, .str y _ => decide (x = y)
  | .tup ds, .ref a => (match K.lookup a with
    | some ⟨.type c, _, .seq its _, _⟩ => decide (c = "tuple") && (decide (its.size ≤ sizeLine) && conBs K ds its.toList)
    | _ => false)
  | _, _ => false
def conBs (K : PySem.W.Frag) : List D → List Value → Bool
  | [], [] => true
  | d :: ds, u :: us => conB K d u && conBs K ds us
  | _, _ => false
end
mutual
theorem con_ok {K : PySem.W.Frag} : ∀ (d : D) (u : Value), conB K d u = true → ∃ v, RelV v u ∧ ∀ μ H, Rep K μ H v d
  | .non, u, h => by
    cases u <;> simp [conB] at h
    exact ⟨.non, rfl, fun _ _ => .non⟩
  | .bl b, u, h => by
    cases u <;> simp [conB] at h
    exact ⟨.bl b, congrArg Value.bool h.symm, fun _ _ => .bl b⟩
  | .int i, u, h => by
    cases u <;> simp [conB] at h
    subst h
    exact ⟨.int i, ⟨_, rfl⟩, fun _ _ => .int i⟩
  | .str x, u, h => by
    cases u <;> simp [conB] at h
    subst h
    exact ⟨.str x, ⟨_, rfl⟩, fun _ _ => .str x⟩
  | .tup ds, u, h => by
    cases u with
    | ref a =>
      have h' : (match K.lookup a with
        | some ⟨.type c, _, .seq its _, _⟩ => decide (c = "tuple") && (decide (its.size ≤ sizeLine) && conBs K ds its.toList)
        | _ => false) = true := by simpa only [conB] using h
      cases q : K.lookup a with
      | none => rw [q] at h'; cases h'
      | some o =>
        obtain ⟨oc, od, dt, osl⟩ := o
        rw [q] at h'
        cases oc with
        | type c =>
          cases dt with
          | seq its n =>
            obtain ⟨h1, h2⟩ := Bool.and_eq_true_iff.mp h'
            obtain ⟨h3, h4⟩ := Bool.and_eq_true_iff.mp h2
            obtain ⟨vs, r1, r2⟩ := cons_ok ds _ h4
            refine ⟨.ref a, rfl, fun μ H => .tup (.inr ⟨_, its, n, q, congrArg Value.type (of_decide_eq_true h1), rfl, of_decide_eq_true h3, r1⟩) (r2 μ H)⟩
          | _ => cases h'
        | _ => cases dt <;> cases h'
    | _ => simp [conB] at h
  | .ref n, u, h => by cases u <;> simp [conB] at h
  | .fz n, u, h => by cases u <;> simp [conB] at h
theorem cons_ok {K : PySem.W.Frag} : ∀ (ds : List D) (us : List Value), conBs K ds us = true → ∃ vs, Vals vs us ∧ ∀ μ H, Reps K μ H vs ds
  | [], [], _ => ⟨[], .nil, fun _ _ => .nil⟩
  | [], _ :: _, h => by simp [conBs] at h
  | _ :: _, [], h => by simp [conBs] at h
  | d :: ds, u :: us, h => by
    simp only [conBs, Bool.and_eq_true] at h
    obtain ⟨v, r1, r2⟩ := con_ok d u h.1
    obtain ⟨vs, r3, r4⟩ := cons_ok ds us h.2
    exact ⟨v :: vs, .cons r1 r3, fun μ H => .cons (r2 μ H) (r4 μ H)⟩
end
/-- the module's name x stands for the constant d -/
def conAt (K : PySem.W.Frag) (x : Str) (d : D) : Bool := match PySem.W.nsIn K mainGlobals x with
  | some (some u) => conB K d u
  | _ => false
def ConstD (K : PySem.W.Frag) (mg : Str → Option Value) (x : Str) (d : D) : Prop := ∃ (u : Value) (v : V), mg x = some u ∧ RelV v u ∧ ∀ μ H, Rep K μ H v d
theorem conAt_ok {K : PySem.W.Frag} {h : Heap} {mg : Str → Option Value} (X : K.In h) (G : h.Ns mainGlobals mg) {x : Str} {d : D} (c : conAt K x d = true) : ConstD K mg x d := by
  unfold conAt at c
  split at c
  · rename_i u e
    obtain ⟨v, r1, r2⟩ := con_ok d u c
    exact ⟨u, v, PySem.W.mg_of X G e, r1, r2⟩
  · cases c
theorem c_glob {X : Cx} {x : Str} {d : D} {pos : Pos} (h : ConstD X.K X.mg x d) (hg : Gl X x) (hd : (x == ("__debug__" : Str)) = false := by decide) : DE X (.Name x pos) (dC d) := by
  obtain ⟨u, v, h1, h2, h3⟩ := h
  exact d_glob hg h1 h2 h3 hd

/-! ### the head -/
open He
abbrev AlE : Type := AlD × Bool
def obsE (n : Nat) (fa : List Fa) (fn : List DefD) (ex : PySem.W.Frag → Bool) (g : Addr → Option Obj) : AlE := (obsD fa fn (frG g (asD g n)), ex (frG g (asD g n)))
def hookE (n : Nat) (fa : List Fa) (fn : List DefD) (ex : PySem.W.Frag → Bool) : PySem.W.Hook where
  α := AlE
  obs := fun s => obsE n fa fn ex s.heap.get?
  val := fun _ => (valD fn, true)
  says := fun _ h => ∃ K : PySem.W.Frag, K.In h ∧ SaysD fa fn K ∧ ex K = true
  of := fun _ _ e => ⟨_, frG_in, congrArg (fun z : AlE => z.1) e, congrArg (fun z : AlE => z.2) e⟩
  keeps := fun _ _ _ ⟨K, hK, c⟩ k => ⟨K, PySem.W.Frag.In.keeps hK k, c⟩
theorem obsE_eq {n : Nat} {fa : List Fa} {fn : List DefD} {ex : PySem.W.Frag → Bool} {g : Addr → Option Obj} {s : Shared} (h : ∀ a, g a = s.heap.get? a) : obsE n fa fn ex g = (hookE n fa fn ex).obs s := by
  have e : g = s.heap.get? := funext h
  rw [e] <;> rfl
/-- one def of the text without defaults; with them -/
def defD (x : Str) (s : Stmt) (dfl : List Dv := []) : DefD := ⟨(x, none), x, x, defArgs s, defBody s, defScope s, dfl, []⟩

/-! ### the script -/
theorem frz_of {K : PySem.W.Frag} {H : Hp} {a : Addr} {vs : List V} (hO : Only H) (h : SqL K H a vs) : Frz K H a vs := fun H' k => by
  rcases h with (h | ⟨o, h⟩) | h
  · rcases hO a with z | ⟨o, xs, z⟩
    · rw [h] at z; cases z
    · rw [h] at z; cases z
  · exact .inl (.inr ⟨o, k _ h rfl⟩)
  · exact .inr h
theorem ints_reps {K : PySem.W.Frag} {μ : List Addr} {H : Hp} : ∀ ns : List Int, Reps K μ H (ns.map V.int) (ns.map D.int)
  | [] => .nil
  | n :: ns => .cons (.int n) (ints_reps ns)
/-- the law's promise from what its def gives -/
theorem law_sp {K : PySem.W.Frag} {F : Fn} {ns : List Int} (h : ∃ st', F [.fz (ns.map D.int)] [] = some (.bl true, st')) {H : Hp} {a : Addr} (hO : Only H) (hS : SqL K H a (ns.map V.int)) {E : XK} :
    spD K 1 F [.ref a] H (fun v _ => v = .bl true) E := by
  obtain ⟨st', e⟩ := h
  refine ⟨[.fz (ns.map D.int)], [], [], ⟨rfl, fun n a c e1 _ => by simp at e1, fun i j a xs ys e1 _ _ _ => by simp at e1⟩, .cons (.fz (frz_of hO hS) (ints_reps ns)) .nil, rfl, _, st', e, ?_⟩
  intro v H' μ' _ _ r
  cases r
  rfl
/-- how a def stands: called with all its values -/
theorem dcall {P : Program} {w : World} {K : PySem.W.Frag} {mg : Str → Option Value} {base : Heap} {k n : Nat} {F : Fn} {x : Str} {f : Addr} {fd : FuncData} {ps : List Str} (h : FnOk P w K mg base CX0 k f fd ps (spD K n F)) (hm : mg x = some (.ref f)) (kp : PySem.W.keepIn K (.ref f) = true)
    (b : Binds K fd ps []) : DCall P w K mg base k x n F [] := ⟨f, fd, ps, [], [], h, hm, kp, b, .nil, fun _ _ => .nil⟩
theorem dcallD {P : Program} {w : World} {K : PySem.W.Frag} {mg : Str → Option Value} {base : Heap} {k n : Nat} {F : Fn} {x : Str} {f : Addr} {fd : FuncData} {ps : List Str} {dvs : List V} {dv : List D} (h : FnOk P w K mg base CX0 k f fd ps (spD K n F)) (hm : mg x = some (.ref f)) (kp : PySem.W.keepIn K (.ref f) = true)
    (b : ∃ ds, Vals dvs ds ∧ Binds K fd ps ds) (hv : ∀ μ H, Reps K μ H dvs dv) : DCall P w K mg base k x n F dv := by
  obtain ⟨ds, r, b⟩ := b
  exact ⟨f, fd, ps, ds, dvs, h, hm, kp, b, r, hv⟩
theorem fn_none {P : Program} {w : World} {K : PySem.W.Frag} {mg : Str → Option Value} {base : Heap} {k n : Nat} {f : Addr} {fd : FuncData} {ps : List Str} : FnOk P w K mg base CX0 k f fd ps (spD K n fun _ _ => none) where
  len := fun vs H Q E h => by
    obtain ⟨_, _, _, _, _, _, _, _, e, _⟩ := h
    cases e
  run := fun A outer s H args us vs Q E _ _ _ _ h => by
    obtain ⟨_, _, _, _, _, _, _, _, e, _⟩ := h
    cases e
theorem hu65 {A : Around} {k : Nat} (hr : Room k A) : A.units + 65 < cLine := by have := hr.un; omega
/-! ### op= -/
def oAddI : D → D → Sto → Option (D × Sto)
  | .int i, .int j, st => some (.int (i + j), st)
  | _, _, _ => none
theorem od_addI {K : PySem.W.Frag} : OpD K (rI0 fun i j => .int (i + j)) oAddI := by
  intro μ H st st' x y a b d Q rs rx ry e q
  cases rx with
  | int i =>
    cases ry with
    | int j => cases e; exact ⟨i, j, rfl, rfl, q _ H μ rs .refl (.int _)⟩
    | _ => cases e
  | _ => cases e
end DL
end

section
set_option Elab.async false
set_option linter.all false
set_option maxRecDepth 100000
set_option maxHeartbeats 1000000
/-! The data layer: slices with a step. -/
namespace DL
open PySem PySem.Spec PyProof.Rows L2 HT

section
variable {prog : Program} {w : World} {A : Around} {E : Value → Shared → Prop} {s : Shared}
theorem applied_back {sl : Addr} {vl vu vs : Value} {n : Nat} {Q : Int × Int × Nat → Shared → Prop} (hs : s.heap.IsSliceOf sl vl vu vs) (pl : IsPart vl none) (pu : IsPart vu none) (ps : IsPart vs (some (-1)))
    (h : Q (((n : Int) - 1), -1, n) s) : wpAny (model prog w) A (Builtin.Slice.sliceApplied (.ref sl) (pure (n : Int))) Q E s := by
  obtain ⟨os, hos, hcs, hds⟩ := id hs
  unfold Builtin.Slice.sliceApplied Builtin.Slice.sliceFields
  refine wpAny_bind (wpAny_bind (wpAny_field hos hds (x := vl) rfl (wpAny_bind (wpAny_field hos hds (x := vu) rfl (wpAny_bind (wpAny_field hos hds (x := vs) rfl (wpAny_pure ?_)))))))
  refine wpAny_bind (slicePart_ ps ?_)
  show wpAny _ _ (if ((-1 : Int) == 0) = true then _ else _) _ _ s
  rw [if_neg (by decide)]
  refine wpAny_bind (slicePart_ pl (wpAny_bind (slicePart_ pu (wpAny_bind (wpAny_pure ?_)))))
  show wpAny _ _ (pure ((n : Int) - 1, (-1 : Int), Builtin.Slice.slicePlaces ((n : Int) - 1) (-1) (-1))) _ _ s
  have e : Builtin.Slice.slicePlaces ((n : Int) - 1) (-1) (-1) = n := by
    unfold Builtin.Slice.slicePlaces
    have h1 : ¬ ((-1 : Int) > 0) := by decide
    simp only [h1, if_false]
    by_cases hn : (n : Int) - 1 > -1
    · simp only [hn, if_true, show (-(-1) : Int) = 1 by decide, Int.ediv_one]
      omega
    · simp only [hn, if_false]
      omega
  rw [e]
  exact wpAny_pure h
theorem fm_congr {α β : Type} {f g : α → Option β} : ∀ l : List α, (∀ x ∈ l, f x = g x) → l.filterMap f = l.filterMap g
  | [], _ => rfl
  | x :: l, h => by rw [List.filterMap_cons, List.filterMap_cons, h x List.mem_cons_self, fm_congr l fun y hy => h y (List.mem_cons_of_mem _ hy)]
theorem pick_back (xs : Array Value) : ((List.range xs.size).filterMap fun (m : Nat) => xs[((xs.size : Int) - 1 + (m : Int) * -1).toNat]?).toArray = xs.toList.reverse.toArray := by
  have e : (List.range xs.size).filterMap (fun (m : Nat) => xs[((xs.size : Int) - 1 + (m : Int) * -1).toNat]?) = ((List.range xs.size).map fun k => xs.size - 1 - k).filterMap (xs[·]?) := by
    rw [List.filterMap_map]
    refine fm_congr _ fun m hm => ?_
    have := List.mem_range.mp hm
    show _ = xs[xs.size - 1 - m]?
    rw [show ((xs.size : Int) - 1 + (m : Int) * -1).toNat = xs.size - 1 - m by omega]
  rw [e, PySem.W.krv_range, List.filterMap_reverse, PySem.W.krv_all]
theorem getItem_tuple_back {t sl : Addr} {items : Array Value} {vl vu vs : Value} {Q : Value → Shared → Prop} (ht : IsTup s.heap t items) (hs : s.heap.IsSliceOf sl vl vu vs) (pl : IsPart vl none) (pu : IsPart vu none) (ps : IsPart vs (some (-1)))
    (h : Q (.ref s.heap.objs.size) { s with heap := s.heap.push { cls := .type "tuple", data := .seq items.toList.reverse.toArray } })
    (hsz : items.size ≤ sizeLine) : wpAny (model prog w) A (getItem (.ref t) (.ref sl)) Q E s := by
  have hfit : sizeOk (.seq items.toList.reverse.toArray) := by
    show items.toList.reverse.toArray.size ≤ sizeLine
    rw [List.size_toArray, List.length_reverse, Array.length_toList]
    omega
  obtain ⟨os, hos, hcs, hds⟩ := id hs
  have hTs : s.TypeIs (.ref sl) "slice" := ⟨os, hos, hcs⟩
  unfold getItem
  try with_reducible refine wpAny_holding ?_
  first | refine wpAny_bind (wpAny_pure ?_) | skip
  refine wpAny_bind (wpAny_sequenceKey ht.typeIs (by decide) ?_)
  refine wpAny_bind (wpAny_callSpecial?_slot (name := Str.ofString "__getitem__") ht.typeIs PyProof.Rows.slot_tuple_getitem
    (wpAny_call_entry PyProof.Rows.slot_tuple_getitem ht.typeIs entry_tuple_getitem ?_ (args_tuple_getitem _ _)))
  show wpAny _ _ (Builtin.Tuple.tupleItemsOf (.ref t) >>= _) _ _ s
  refine wpAny_bind (tupleItemsOf_ ht ?_)
  refine wpAny_bind (wpAny_typeOf hTs ?_)
  rw [if_pos (by decide)]
  refine wpAny_bind (applied_back hs pl pu ps ?_)
  have hno : ¬ ((((items.size : Int) - 1) == 0 && (-1 : Int) == 1 && items.size == items.size) = true) := by
    intro q
    rw [Bool.and_eq_true, Bool.and_eq_true] at q
    exact absurd q.1.2 (by decide)
  show wpAny _ _ (if (((items.size : Int) - 1) == 0 && (-1 : Int) == 1 && items.size == items.size) = true then _ else _) _ _ s
  rw [if_neg hno, pick_back]
  first
    | exact wpAny_bind (m := Builtin.Tuple.tupleExact _) (wpAny_newObj_type (wpAny_pure ⟨_, rfl, wpAny_pure h⟩) hfit)
    | exact wpAny_bind (m := Builtin.Tuple.tupleExact _) (wpAny_newObj_type (wpAny_bind (wpAny_pure (wpAny_pure ⟨_, rfl, wpAny_pure h⟩))) hfit)
    | exact wpAny_bind (wpAny_bind (m := Builtin.Tuple.tupleExact _) (wpAny_newObj_type (wpAny_pure (wpAny_pure ⟨_, rfl, wpAny_pure h⟩)) hfit))
    | exact wpAny_bind (wpAny_bind (m := Builtin.Tuple.tupleExact _) (wpAny_newObj_type (wpAny_pure ⟨_, rfl, wpAny_pure h⟩) hfit))
end
/-- the places of a slice with a step -/
def stepIx (n : Nat) (lo hi : Option Int) (k : Int) : List Nat := sliceRange (sliceBounds lo hi (some k) n).1 (sliceBounds lo hi (some k) n).2.1 k
def pickL {α : Type} (xs : List α) (lo hi : Option Int) (k : Int) : List α := (stepIx xs.length lo hi k).filterMap (xs[·]?)
section
variable {K : PySem.W.Frag} {μ : List Addr} {H : Hp} {st : Sto}
theorem reps_pickI {vs : List V} {ds : List D} (r : Reps K μ H vs ds) : ∀ is : List Nat, Reps K μ H (is.filterMap (vs[·]?)) (is.filterMap (ds[·]?))
  | [] => .nil
  | i :: is => by
    rw [List.filterMap_cons, List.filterMap_cons]
    cases h : ds[i]? with
    | none =>
      have : vs[i]? = none := by
        rw [List.getElem?_eq_none_iff] at h ⊢
        rw [r.length]; exact h
      rw [this]
      exact reps_pickI r is
    | some d =>
      obtain ⟨v, h1, h2⟩ := r.get h
      rw [h1]
      exact .cons h2 (reps_pickI r is)
theorem reps_pick {vs : List V} {ds : List D} (lo hi : Option Int) (k : Int) (r : Reps K μ H vs ds) : Reps K μ H (pickL vs lo hi k) (pickL ds lo hi k) := by
  unfold pickL
  rw [r.length]
  exact reps_pickI r _
theorem pick_len {α : Type} (xs : List α) (lo hi : Option Int) (k : Int) : (pickL xs lo hi k).length ≤ xs.length := by
  unfold pickL stepIx
  refine Nat.le_trans (List.length_filterMap_le _ _) (sliceRange_length_le _ _ _ _ (fun hc => ?_) fun hc => ?_)
  · simp only [sliceBounds, Option.getD_some] at hc ⊢
    simp only [hc, if_true]
    constructor
    · cases lo with
      | none => simp
      | some i => dsimp only; omega
    · cases hi with
      | none => simp
      | some i => dsimp only; omega
  · simp only [sliceBounds, Option.getD_some] at hc ⊢
    simp only [hc, if_false]
    constructor
    · cases lo with
      | none => simp
      | some i => dsimp only; omega
    · cases hi with
      | none => simp
      | some i => dsimp only; omega
end
def rSt (K : PySem.W.Frag) : V → Option Int → Option Int → Int → Hp → VK → Prop := fun x lo hi k H Q => ∃ a xs, x = .ref a ∧
  ((k ≠ 0 ∧ SqL K H a xs ∧ ∀ p, H p = none → Q (.ref p) (upd H p (.lst (pickL xs lo hi k)))) ∨ (k = -1 ∧ lo = none ∧ hi = none ∧ SqT K H a xs ∧ ∀ p, H p = none → Q (.ref p) (upd H p (.tup xs.reverse))))
def tSt (K : PySem.W.Frag) (te : TE) (tl th : TO) (ts : TO) : TE := fun σ H Q => te σ H fun x H1 => tl σ H1 fun l H2 => th σ H2 fun u H3 => ts σ H3 fun k H4 => ∃ i, k = some i ∧ rSt K x l u i H4 Q
theorem vals_pick {m : W.Frag} : True := trivial
theorem pe_step {X : Cx} {e : Expr} {lo hi : Option Expr} {es : Expr} {p2 pos : Pos} {te : TE} {tl th ts : TO} (he : PE X e te) (hl : PO X lo tl) (hu : PO X hi th) (hst : PO X (some es) ts) :
    PE X (.Subscript e (.Slice lo hi (some es) p2) pos) (tSt X.K te tl th ts) := by
  refine ⟨fun pins s σ H Q I h => ?_⟩
  refine Subscript_ (thn (he.run pins s σ H _ I h) fun v s1 ⟨x, H1, I1, r1, q1⟩ => ?_)
  refine wpAny_Slice (thn (hl.run pins s1 σ H1 _ I1 q1) fun vl s2 ⟨l, H2, I2, pl, q2⟩ => thn (hu.run pins s2 σ H2 _ I2 q2) fun vu s3 ⟨u, H3, I3, pu, q3⟩ => ?_)
  refine thn (hst.run pins s3 σ H3 _ I3 q3) fun vs s4 ⟨k, H4, I4, ps, i, ek, q4⟩ => ?_
  subst ek
  obtain ⟨a, xs, ex, q5⟩ := q4
  subst ex
  cases r1
  have I5 : Inv X pins σ H4 { s4 with heap := s4.heap.push { cls := .type "slice", data := .fields #[vl, vu, vs] } } := I4.kept (t' := s4.toks) fun b ob q => Heap.get?_push_of_some _ q
  show wpAny (model X.prog X.w) X.A (subscriptTail e (.Slice lo hi (some es) p2) (.ref a) (.ref s4.heap.objs.size)) (EP X pins σ Q) X.xe { s4 with heap := s4.heap.push { cls := .type "slice", data := .fields #[vl, vu, vs] } }
  rcases q5 with ⟨h0, hx, q⟩ | ⟨rfl, rfl, rfl, hx, q⟩
  · obtain ⟨its, r, ht, hz⟩ := I5.list hx
    have hlen := r.length
    refine tail_any (ops := [.ref a, .ref s4.heap.objs.size]) ht.isList.typeIs (PySem.slot_list_getitem.lookup) ?_ (by with_unfolding_all rfl)
    refine wpAny_getItem_list_slice ht.isList (Heap.IsSliceOf.new _ vl vu vs) pl pu ps (by simpa using h0) ?_ (by rw [List.size_toArray]; omega)
    have es : slicePick its.toArray l u (some i) = (pickL its l u i).toArray := by
      unfold slicePick pickL stepIx
      rw [List.size_toArray]
      congr 1
      refine congrArg (List.filterMap · _) (funext fun j => ?_)
      simp
    rw [es]
    have rr : Vals (pickL xs l u i) (pickL its l u i) := by
      have e1 : xs.length = its.length := hlen
      unfold pickL
      rw [e1]
      have go : ∀ is : List Nat, Vals (is.filterMap (xs[·]?)) (is.filterMap (its[·]?)) := by
        intro is
        induction is with
        | nil => exact .nil
        | cons j is ih =>
          rw [List.filterMap_cons, List.filterMap_cons]
          by_cases hj : j < xs.length
          · have hj2 : j < its.length := by omega
            obtain ⟨u, hu, ru⟩ := r.get (List.getElem?_eq_getElem hj)
            rw [List.getElem?_eq_getElem hj, hu]
            exact .cons ru ih
          · rw [List.getElem?_eq_none (by omega), List.getElem?_eq_none (by omega)]
            exact ih
      exact go _
    refine ⟨.ref _, _, I5.laid (t' := s4.toks) (o := .lst (pickL xs l u i)) (fun b ob q => Heap.get?_push_of_some _ q) (Nat.le_refl _) ?_, rfl, q _ (I5.hok.fresh (Nat.le_refl _))⟩
    exact ⟨Nat.le_trans (pick_len xs l u i) hz, _, 0, rr, Heap.get?_push_size _ rfl⟩
  · obtain ⟨its, r, ht, hz⟩ := I5.tuple hx
    have hlen : its.toArray.size = xs.length := by rw [List.size_toArray]; exact r.length.symm
    refine tail_any (ops := [.ref a, .ref s4.heap.objs.size]) ht.typeIs (PyProof.Rows.slot_tuple_getitem.lookup) ?_ (by with_unfolding_all rfl)
    refine getItem_tuple_back ht (Heap.IsSliceOf.new _ vl vu vs) pl pu ps ?_ (by rw [hlen]; exact hz)
    refine ⟨.ref _, _, I5.laid (t' := s4.toks) (o := .tup xs.reverse) (fun b ob q => Heap.get?_push_of_some _ q) (Nat.le_refl _) ?_, rfl, q _ (I5.hok.fresh (Nat.le_refl _))⟩
    exact ⟨by rw [List.length_reverse]; exact hz, _, r.reverse, IsTup.new _ _⟩
def oSt (lo hi : Option Int) (k : Int) : D → Sto → Option (D × Sto)
  | .tup xs, st => if k = -1 ∧ lo = none ∧ hi = none then some (.tup xs.reverse, st) else none
  | .ref n, st => match st[n]? with
    | some (.lst xs) => if k = 0 then none else some (.ref st.length, st ++ [.lst (pickL xs lo hi k)])
    | none => none
  | .fz xs, st => if k = 0 then none else some (.ref st.length, st ++ [.lst (pickL xs lo hi k)])
  | _, _ => none
def dSt (f : DF) (l h k : DO) : DF := fun ρ st => (f ρ st).bind fun p => (l ρ p.2).bind fun a => (h ρ a.2).bind fun b => (k ρ b.2).bind fun c => match c.1 with
  | some i => oSt a.1 b.1 i p.1 c.2
  | none => none
section
variable {K : PySem.W.Frag} {μ : List Addr} {H : Hp} {st : Sto}
theorem st_core (rs : RelS K μ H st) {x : V} {a d : D} {st' : Sto} {lo hi : Option Int} {k : Int} {Q : VK} (r : Rep K μ H x a) (e : oSt lo hi k a st = some (d, st')) (q : Post K μ H st' d Q) : rSt K x lo hi k H Q := by
  cases r with
  | @tup p vs ds h1 h2 =>
    have e' : (if k = -1 ∧ lo = none ∧ hi = none then some (D.tup ds.reverse, st) else none) = some (d, st') := e
    split at e'
    · rename_i hk
      cases e'
      exact ⟨p, vs, rfl, .inr ⟨hk.1, hk.2.1, hk.2.2, h1, fun t ht => q _ _ μ (rs.new ht) (step_new ht) (.tup (SqT.of upd_same) ((step_new ht).reps _ _ h2.reverse))⟩⟩
    · cases e'
  | @ref p n h =>
    have e' : (match st[n]? with
      | some (.lst xs) => if k = 0 then none else some (D.ref st.length, st ++ [Cell.lst (pickL xs lo hi k)])
      | none => none) = some (d, st') := e
    cases qn : st[n]? with
    | none => rw [qn] at e'; cases e'
    | some cc =>
      rw [qn] at e'
      obtain ⟨ws, h1, h2⟩ := (rs.ok n p cc h qn).sq
      cases cc with
      | lst xs =>
        have e' : (if k = 0 then none else some (D.ref st.length, st ++ [Cell.lst (pickL xs lo hi k)])) = some (d, st') := e'
        split at e'
        · cases e'
        · rename_i hk
          cases e'
          exact ⟨p, ws, rfl, .inl ⟨hk, h1, fun l hl => q _ _ _ (rs.alloc hl (reps_pick lo hi k h2)) (step_alloc hl) (.ref (by rw [← rs.len]; exact List.getElem?_concat_length))⟩⟩
  | @fz p ws xs h1 h2 =>
    have e' : (if k = 0 then none else some (D.ref st.length, st ++ [Cell.lst (pickL xs lo hi k)])) = some (d, st') := e
    split at e'
    · cases e'
    · rename_i hk
      cases e'
      exact ⟨p, ws, rfl, .inl ⟨hk, h1.sq, fun l hl => q _ _ _ (rs.alloc hl (reps_pick lo hi k h2)) (step_alloc hl) (.ref (by rw [← rs.len]; exact List.getElem?_concat_length))⟩⟩
  | _ => cases e
end
theorem d_step {X : Cx} {e es : Expr} {f : DF} {lo hi : Option Expr} {fl fh fk : DO} {pos p2 : Pos} (he : DE X e f) (hl : DOx X lo fl) (hu : DOx X hi fh) (hk : DOx X (some es) fk) : DE X (.Subscript e (.Slice lo hi (some es) p2) pos) (dSt f fl fh fk) :=
  imp (pe_step he hl hu hk) fun σ H Q h => by
    obtain ⟨ρ, st, μ, rs, re, d, st', e, q⟩ := h
    obtain ⟨p, e1, e2⟩ := Option.bind_eq_some_iff.mp e
    obtain ⟨a, e3, e4⟩ := Option.bind_eq_some_iff.mp e2
    obtain ⟨b, e5, e6⟩ := Option.bind_eq_some_iff.mp e4
    obtain ⟨c, e7, e8⟩ := Option.bind_eq_some_iff.mp e6
    refine ⟨ρ, st, μ, rs, re, p.1, p.2, e1, fun x H1 μ1 rs1 s1 r1 => ⟨ρ, p.2, μ1, rs1, re.step s1, a.1, a.2, e3, fun H2 μ2 rs2 s2 => ⟨ρ, a.2, μ2, rs2, (re.step s1).step s2, b.1, b.2, e5, fun H3 μ3 rs3 s3 =>
      ⟨ρ, b.2, μ3, rs3, ((re.step s1).step s2).step s3, c.1, c.2, e7, fun H4 μ4 rs4 s4 => ?_⟩⟩⟩⟩
    obtain ⟨o, st4⟩ := c
    cases o with
    | none => cases e8
    | some i => exact ⟨i, rfl, st_core rs4 (((s2.trans s3).trans s4).rep _ _ r1) e8 (q.after (((s1.trans s2).trans s3).trans s4))⟩
end DL
end

section
set_option Elab.async false
set_option linter.all false
set_option maxRecDepth 100000
set_option maxHeartbeats 4000000
/-! The walk of law_k64_pair_papers: printed by gen.py. -/
namespace W
open PySem PySem.Spec PyProof.Rows L2 DL
def topS (i : Nat) : Stmt := PySem.Challenge.pw_camhouse_k64_pair_papers.main.body.getD i (.Pass ⟨0, 0, 0, 0⟩)
def C_TURN_MOST : D := (.int 9999)
variable {P : Program} {w : World} {K : PySem.W.Frag} {mg : Str → Option Value} {base : Heap}
/-! ### is_whole -/
abbrev s_is_whole : Stmt := topS 1
theorem sc_is_whole : FnScope ["value", "low", "high"] ["value", "low", "high"] (defScope s_is_whole) := ⟨rfl, rfl, rfl, by decide +kernel, rfl, by decide +kernel, by decide +kernel⟩
noncomputable def G_is_whole : DG := (gSeq (gIf (dOrT (dNotT (dTr (dIsi "int" (dVar 0)))) (dTr (dIsi "bool" (dVar 0)))) (gRet (dC (.bl false))) gNext)
    (gRet (dChain oLe oLe (dVar 1) (dVar 0) (dVar 2))))
noncomputable def F_is_whole : Fn := fnG 3 G_is_whole
theorem ok_is_whole {f : Addr} {fd : FuncData} (F : FunD K "is_whole" "is_whole" (defArgs s_is_whole) (defBody s_is_whole) (defScope s_is_whole) [] [] f fd) (m_bool : mg "bool" = none) (m_int : mg "int" = none) (m_isinstance : mg "isinstance" = none) :
    FnOk P w K mg base CX0 1 f fd ["value", "low", "high"] (spD K 3 F_is_whole) := by
  have nd := sc_is_whole.nd
  exact fn_ok F sc_is_whole fun cdv A outer s H E hr => (gs_cons (g_if (PW.pt (dw_or (dt_not (dt_tr (d_isi (T := "int") (by unfold isT; decide) (by rfl) m_isinstance (d_var 0 rfl (.inl rfl)) rfl (by rfl) m_int (by decide +kernel)) (by intro _; rfl))) (dw_or1 (dt_tr (d_isi (T := "bool") (by unfold isT; decide) (by rfl) m_isinstance (d_var 0 rfl (.inl rfl)) rfl (by rfl) m_bool (by decide +kernel)) (by intro _; rfl))))) (gs_one (g_ret d_bl)) gs_nil)
    (gs_one (g_ret (d_chain op_leA od_ord op_leA od_ord (d_var 1 rfl (.inl rfl)) (d_var 0 rfl (.inl rfl)) (d_var 2 rfl (.inl rfl))))))
/-! ### is_row -/
abbrev s_is_row : Stmt := topS 2
theorem sc_is_row : FnScope ["value", "least", "most"] ["value", "least", "most"] (defScope s_is_row) := ⟨rfl, rfl, rfl, by decide +kernel, rfl, by decide +kernel, by decide +kernel⟩
noncomputable def G_is_row : DG := (gRet (dAnd (dIsi "tuple" (dVar 0)) (dChain oLe oLe (dVar 1) (dCB bLen (dCons (dVar 0) dNil)) (dVar 2))))
noncomputable def F_is_row : Fn := fnG 3 G_is_row
theorem ok_is_row {f : Addr} {fd : FuncData} (F : FunD K "is_row" "is_row" (defArgs s_is_row) (defBody s_is_row) (defScope s_is_row) [] [] f fd) (m_isinstance : mg "isinstance" = none) (m_len : mg "len" = none) (m_tuple : mg "tuple" = none) :
    FnOk P w K mg base CX0 1 f fd ["value", "least", "most"] (spD K 3 F_is_row) := by
  have nd := sc_is_row.nd
  exact fn_ok F sc_is_row fun cdv A outer s H E hr => (gs_one (g_ret (d_and (d_isi (T := "tuple") (by unfold isT; decide) (by rfl) m_isinstance (d_var 0 rfl (.inl rfl)) rfl (by rfl) m_tuple (by decide +kernel)) (d_one (d_chain op_leA od_ord op_leA od_ord (d_var 1 rfl (.inl rfl)) (d_callB call_len cd_len (by rfl) m_len (by decide +kernel) (da_cons (d_var 0 rfl (.inl rfl)) da_nil)) (d_var 2 rfl (.inl rfl)))))))
/-! ### alike_members -/
abbrev s_alike_members : Stmt := topS 3
theorem sc_alike_members : FnScope ["one", "other"] ["one", "other"] (defScope s_alike_members) := ⟨rfl, rfl, rfl, by decide +kernel, rfl, by decide +kernel, by decide +kernel⟩
noncomputable def G_alike_members : DG := (gSeq (gIf (dOrT (dB (dBin oIsN (dVar 0) (dC .non))) (dB (dBin oIsN (dVar 1) (dC .non)))) (gRet (dAnd (dBin oIsN (dVar 0) (dC .non)) (dBin oIsN (dVar 1) (dC .non)))) gNext)
    (gSeq (gIf (dOrT (dTr (dIsi "bool" (dVar 0))) (dTr (dIsi "bool" (dVar 1)))) (gRet (dAnd (dIsi "bool" (dVar 0)) (dAnd (dIsi "bool" (dVar 1)) (dBin oEq (dVar 0) (dVar 1))))) gNext)
    (gSeq (gIf (dAndT (dTr (dIsi "int" (dVar 0))) (dTr (dIsi "int" (dVar 1)))) (gRet (dBin oEq (dVar 0) (dVar 1))) gNext)
    (gSeq (gIf (dAndT (dTr (dIsi "str" (dVar 0))) (dTr (dIsi "str" (dVar 1)))) (gRet (dBin oEq (dVar 0) (dVar 1))) gNext)
    (gRet (dC (.bl false)))))))
noncomputable def F_alike_members : Fn := fnG 2 G_alike_members
theorem ok_alike_members {f : Addr} {fd : FuncData} (F : FunD K "alike_members" "alike_members" (defArgs s_alike_members) (defBody s_alike_members) (defScope s_alike_members) [] [] f fd) (m_bool : mg "bool" = none) (m_int : mg "int" = none) (m_isinstance : mg "isinstance" = none) (m_str : mg "str" = none) :
    FnOk P w K mg base CX0 1 f fd ["one", "other"] (spD K 2 F_alike_members) := by
  have nd := sc_alike_members.nd
  exact fn_ok F sc_alike_members fun cdv A outer s H E hr => (gs_cons (g_if (PW.pt (dw_or (dt_cmp op_isN od_isN (d_var 0 rfl (.inl rfl)) d_non (nomark _)) (dw_or1 (dt_cmp op_isN od_isN (d_var 1 rfl (.inl rfl)) d_non (nomark _))))) (gs_one (g_ret (d_and (d_cmp op_isN od_isN (d_var 0 rfl (.inl rfl)) d_non (nomark _)) (d_one (d_cmp op_isN od_isN (d_var 1 rfl (.inl rfl)) d_non (nomark _)))))) gs_nil)
    (gs_cons (g_if (PW.pt (dw_or (dt_tr (d_isi (T := "bool") (by unfold isT; decide) (by rfl) m_isinstance (d_var 0 rfl (.inl rfl)) rfl (by rfl) m_bool (by decide +kernel)) (by intro _; rfl)) (dw_or1 (dt_tr (d_isi (T := "bool") (by unfold isT; decide) (by rfl) m_isinstance (d_var 1 rfl (.inl rfl)) rfl (by rfl) m_bool (by decide +kernel)) (by intro _; rfl))))) (gs_one (g_ret (d_and (d_isi (T := "bool") (by unfold isT; decide) (by rfl) m_isinstance (d_var 0 rfl (.inl rfl)) rfl (by rfl) m_bool (by decide +kernel)) (d_and (d_isi (T := "bool") (by unfold isT; decide) (by rfl) m_isinstance (d_var 1 rfl (.inl rfl)) rfl (by rfl) m_bool (by decide +kernel)) (d_one (d_cmp (op_eqA hr.units) od_eq (d_var 0 rfl (.inl rfl)) (d_var 1 rfl (.inl rfl)) (nomark _))))))) gs_nil)
    (gs_cons (g_if (PW.pt (dw_and (dt_tr (d_isi (T := "int") (by unfold isT; decide) (by rfl) m_isinstance (d_var 0 rfl (.inl rfl)) rfl (by rfl) m_int (by decide +kernel)) (by intro _; rfl)) (dw_and1 (dt_tr (d_isi (T := "int") (by unfold isT; decide) (by rfl) m_isinstance (d_var 1 rfl (.inl rfl)) rfl (by rfl) m_int (by decide +kernel)) (by intro _; rfl))))) (gs_one (g_ret (d_cmp (op_eqA hr.units) od_eq (d_var 0 rfl (.inl rfl)) (d_var 1 rfl (.inl rfl)) (nomark _)))) gs_nil)
    (gs_cons (g_if (PW.pt (dw_and (dt_tr (d_isi (T := "str") (by unfold isT; decide) (by rfl) m_isinstance (d_var 0 rfl (.inl rfl)) rfl (by rfl) m_str (by decide +kernel)) (by intro _; rfl)) (dw_and1 (dt_tr (d_isi (T := "str") (by unfold isT; decide) (by rfl) m_isinstance (d_var 1 rfl (.inl rfl)) rfl (by rfl) m_str (by decide +kernel)) (by intro _; rfl))))) (gs_one (g_ret (d_cmp (op_eqA hr.units) od_eq (d_var 0 rfl (.inl rfl)) (d_var 1 rfl (.inl rfl)) (nomark _)))) gs_nil)
    (gs_one (g_ret d_bl))))))
/-! ### same -/
abbrev s_same : Stmt := topS 4
theorem sc_same : FnScope ["one", "other", "waiting", "left", "right", "k"] ["one", "other"] (defScope s_same) := ⟨rfl, rfl, rfl, by decide +kernel, rfl, by decide +kernel, by decide +kernel⟩
def fuel_same : DEnv → Sto → Nat := fun _ _ => 1000
noncomputable def G_same : DG := (gSeq (gSet 2 (dLst (dCons (dTup (dCons (dVar 0) (dCons (dVar 1) dNil))) dNil)))
    (gSeq (gWhile fuel_same (dTr (dVar 2)) (gSeq (gAsg (dMeth oPop (dVar 2) dNil) (nTup 2 (nCons (nName 3) (nCons (nName 4) nNil))))
    (gIf (dAndT (dTr (dIsi "tuple" (dVar 3))) (dTr (dIsi "tuple" (dVar 4)))) (gSeq (gIf (dB (dBin oNe (dCB bLen (dCons (dVar 3) dNil)) (dCB bLen (dCons (dVar 4) dNil)))) (gRet (dC (.bl false))) gNext)
    (gFor (srcRng1 (dCons (dCB bLen (dCons (dVar 3) dNil)) dNil)) (nName 5) (gDrop (dMeth oApp (dVar 2) (dCons (dTup (dCons (dBin oIx (dVar 3) (dVar 5)) (dCons (dBin oIx (dVar 4) (dVar 5)) dNil))) dNil))))) (gIf (dNotT (dTr (dCall F_alike_members [] (dCons (dVar 3) (dCons (dVar 4) dNil))))) (gRet (dC (.bl false))) gNext))))
    (gRet (dC (.bl true)))))
noncomputable def F_same : Fn := fnG 6 G_same
theorem ok_same {f : Addr} {fd : FuncData} (F : FunD K "same" "same" (defArgs s_same) (defBody s_same) (defScope s_same) [] [] f fd) (c_alike_members : DCall P w K mg base 1 "alike_members" 2 F_alike_members []) (m_isinstance : mg "isinstance" = none) (m_len : mg "len" = none) (m_range : mg "range" = none) (m_tuple : mg "tuple" = none) :
    FnOk P w K mg base CX0 2 f fd ["one", "other"] (spD K 2 F_same) := by
  have nd := sc_same.nd
  exact fn_ok F sc_same fun cdv A outer s H E hr => (gs_cons (g_set 2 nd rfl (.inl rfl) (d_lst (da_cons (d_tup (da_cons (d_var 0 rfl (.inl rfl)) (da_cons (d_var 1 rfl (.inl rfl)) da_nil))) da_nil)))
    (gs_cons (g_while fuel_same PassesOwn.never (dt_tr (d_var 2 rfl (.inl rfl)) (by intro _; rfl)) (gs_cons (g_asg (d_pop (d_var 2 rfl (.inl rfl))) (t_tup rfl (ts_cons (t_name 3 nd rfl (.inl rfl)) (ts_cons (t_name 4 nd rfl (.inl rfl)) ts_nil))))
    (gs_one (g_if (PW.pt (dw_and (dt_tr (d_isi (T := "tuple") (by unfold isT; decide) (by rfl) m_isinstance (d_var 3 rfl (.inl rfl)) rfl (by rfl) m_tuple (by decide +kernel)) (by intro _; rfl)) (dw_and1 (dt_tr (d_isi (T := "tuple") (by unfold isT; decide) (by rfl) m_isinstance (d_var 4 rfl (.inl rfl)) rfl (by rfl) m_tuple (by decide +kernel)) (by intro _; rfl))))) (gs_cons (g_if (dt_cmp (op_neA hr.units) od_ne (d_callB call_len cd_len (by rfl) m_len (by decide +kernel) (da_cons (d_var 3 rfl (.inl rfl)) da_nil)) (d_callB call_len cd_len (by rfl) m_len (by decide +kernel) (da_cons (d_var 4 rfl (.inl rfl)) da_nil)) (nomark _)) (gs_one (g_ret d_bl)) gs_nil)
    (gs_one (g_for PassesOwn.never rfl (i_rng1 (by rfl) m_range (da_cons (d_callB call_len cd_len (by rfl) m_len (by decide +kernel) (da_cons (d_var 3 rfl (.inl rfl)) da_nil)) da_nil)) (t_name 5 nd rfl (.inl rfl)) (gs_one (g_expr (d_app (d_var 2 rfl (.inl rfl)) (da_cons (d_tup (da_cons (d_ix ix_seq od_ix (d_var 3 rfl (.inl rfl)) (d_var 5 rfl (.inl rfl)) (fun _ _ => rfl)) (da_cons (d_ix ix_seq od_ix (d_var 4 rfl (.inl rfl)) (d_var 5 rfl (.inl rfl)) (fun _ _ => rfl)) da_nil))) da_nil))))))) (gs_one (g_if (dt_not (dt_tr (c_call c_alike_members (hr.mono (by omega)) (by rfl) (narg_cons (narg_cons narg_nil)) rfl (da_cons (d_var 3 rfl (.inl rfl)) (da_cons (d_var 4 rfl (.inl rfl)) da_nil))) (by intro _; rfl))) (gs_one (g_ret d_bl)) gs_nil))))))
    (gs_one (g_ret d_bl))))
/-! ### gcd_of -/
abbrev s_gcd_of : Stmt := topS 6
theorem sc_gcd_of : FnScope ["one", "other", "left", "right"] ["one", "other"] (defScope s_gcd_of) := ⟨rfl, rfl, rfl, by decide +kernel, rfl, by decide +kernel, by decide +kernel⟩
def fuel_gcd_of : DEnv → Sto → Nat := fun ρ _ => match ρ[3]? with | some (some (D.int i)) => i.natAbs + 1 | _ => 0
noncomputable def G_gcd_of : DG := (gSeq (gSet 2 (dCB bAbs (dCons (dVar 0) dNil)))
    (gSeq (gSet 3 (dCB bAbs (dCons (dVar 1) dNil)))
    (gSeq (gWhile fuel_gcd_of (dTr (dVar 3)) (gPar 2 3 (dCons (dVar 3) (dCons (dBin oMod (dVar 2) (dVar 3)) dNil))))
    (gRet (dVar 2)))))
noncomputable def F_gcd_of : Fn := fnG 4 G_gcd_of
theorem ok_gcd_of {f : Addr} {fd : FuncData} (F : FunD K "gcd_of" "gcd_of" (defArgs s_gcd_of) (defBody s_gcd_of) (defScope s_gcd_of) [] [] f fd) (m_abs : mg "abs" = none) :
    FnOk P w K mg base CX0 1 f fd ["one", "other"] (spD K 2 F_gcd_of) := by
  have nd := sc_gcd_of.nd
  exact fn_ok F sc_gcd_of fun cdv A outer s H E hr => (gs_cons (g_set 2 nd rfl (.inl rfl) (d_callB call_abs cd_abs (by rfl) m_abs (by decide +kernel) (da_cons (d_var 0 rfl (.inl rfl)) da_nil)))
    (gs_cons (g_set 3 nd rfl (.inl rfl) (d_callB call_abs cd_abs (by rfl) m_abs (by decide +kernel) (da_cons (d_var 1 rfl (.inl rfl)) da_nil)))
    (gs_cons (g_while fuel_gcd_of PassesOwn.never (dt_tr (d_var 3 rfl (.inl rfl)) (by intro _; rfl)) (gs_one (g_par 2 3 rfl nd rfl rfl (by decide) rfl rfl (da_cons (d_var 3 rfl (.inl rfl)) (da_cons (d_bin op_modN od_mod (d_var 2 rfl (.inl rfl)) (d_var 3 rfl (.inl rfl))) da_nil)) (by rfl))))
    (gs_one (g_ret (d_var 2 rfl (.inl rfl)))))))
/-! ### lcm_of -/
abbrev s_lcm_of : Stmt := topS 7
theorem sc_lcm_of : FnScope ["one", "other"] ["one", "other"] (defScope s_lcm_of) := ⟨rfl, rfl, rfl, by decide +kernel, rfl, by decide +kernel, by decide +kernel⟩
noncomputable def G_lcm_of : DG := (gRet (dBin oMul (dBin oFdiv (dVar 0) (dCall F_gcd_of [] (dCons (dVar 0) (dCons (dVar 1) dNil)))) (dVar 1)))
noncomputable def F_lcm_of : Fn := fnG 2 G_lcm_of
theorem ok_lcm_of {f : Addr} {fd : FuncData} (F : FunD K "lcm_of" "lcm_of" (defArgs s_lcm_of) (defBody s_lcm_of) (defScope s_lcm_of) [] [] f fd) (c_gcd_of : DCall P w K mg base 1 "gcd_of" 2 F_gcd_of []) :
    FnOk P w K mg base CX0 2 f fd ["one", "other"] (spD K 2 F_lcm_of) := by
  have nd := sc_lcm_of.nd
  exact fn_ok F sc_lcm_of fun cdv A outer s H E hr => (gs_one (g_ret (d_bin op_mulB od_mul (d_bin op_fdivA od_fdiv (d_var 0 rfl (.inl rfl)) (c_call c_gcd_of (hr.mono (by omega)) (by rfl) (narg_cons (narg_cons narg_nil)) rfl (da_cons (d_var 0 rfl (.inl rfl)) (da_cons (d_var 1 rfl (.inl rfl)) da_nil)))) (d_var 1 rfl (.inl rfl)))))
/-! ### plays -/
abbrev s_plays : Stmt := topS 9
theorem sc_plays : FnScope ["slot", "turn", "start", "every", "long"] ["slot", "turn"] (defScope s_plays) := ⟨rfl, rfl, rfl, by decide +kernel, rfl, by decide +kernel, by decide +kernel⟩
noncomputable def G_plays : DG := (gSeq (gAsg (dVar 0) (nTup 3 (nCons (nName 2) (nCons (nName 3) (nCons (nName 4) nNil)))))
    (gRet (dAnd (dBin oGe (dVar 1) (dVar 2)) (dBin oLt (dBin oMod (dBin oSub (dVar 1) (dVar 2)) (dVar 3)) (dVar 4)))))
noncomputable def F_plays : Fn := fnG 5 G_plays
theorem ok_plays {f : Addr} {fd : FuncData} (F : FunD K "plays" "plays" (defArgs s_plays) (defBody s_plays) (defScope s_plays) [] [] f fd)  :
    FnOk P w K mg base CX0 1 f fd ["slot", "turn"] (spD K 2 F_plays) := by
  have nd := sc_plays.nd
  exact fn_ok F sc_plays fun cdv A outer s H E hr => (gs_cons (g_asg (d_var 0 rfl (.inl rfl)) (t_tup rfl (ts_cons (t_name 2 nd rfl (.inl rfl)) (ts_cons (t_name 3 nd rfl (.inl rfl)) (ts_cons (t_name 4 nd rfl (.inl rfl)) ts_nil)))))
    (gs_one (g_ret (d_and (d_cmp op_geA od_ord (d_var 1 rfl (.inl rfl)) (d_var 2 rfl (.inl rfl)) (nomark _)) (d_one (d_cmp op_ltA od_ord (d_bin op_modN od_mod (d_bin op_sub od_sub (d_var 1 rfl (.inl rfl)) (d_var 2 rfl (.inl rfl))) (d_var 3 rfl (.inl rfl))) (d_var 4 rfl (.inl rfl)) (nomark _)))))))
/-! ### gap_of -/
abbrev s_gap_of : Stmt := topS 12
theorem sc_gap_of : FnScope ["one", "other", "common"] ["one", "other"] (defScope s_gap_of) := ⟨rfl, rfl, rfl, by decide +kernel, rfl, by decide +kernel, by decide +kernel⟩
noncomputable def G_gap_of : DG := (gSeq (gSet 2 (dCall F_gcd_of [] (dCons (dBin oIx (dVar 0) (dC (.int 1))) (dCons (dBin oIx (dVar 1) (dC (.int 1))) dNil))))
    (gRet (dTup (dCons (dVar 2) (dCons (dBin oMod (dBin oSub (dBin oIx (dVar 1) (dC (.int 0))) (dBin oIx (dVar 0) (dC (.int 0)))) (dVar 2)) dNil)))))
noncomputable def F_gap_of : Fn := fnG 3 G_gap_of
theorem ok_gap_of {f : Addr} {fd : FuncData} (F : FunD K "gap_of" "gap_of" (defArgs s_gap_of) (defBody s_gap_of) (defScope s_gap_of) [] [] f fd) (c_gcd_of : DCall P w K mg base 1 "gcd_of" 2 F_gcd_of []) :
    FnOk P w K mg base CX0 2 f fd ["one", "other"] (spD K 2 F_gap_of) := by
  have nd := sc_gap_of.nd
  exact fn_ok F sc_gap_of fun cdv A outer s H E hr => (gs_cons (g_set 2 nd rfl (.inl rfl) (c_call c_gcd_of (hr.mono (by omega)) (by rfl) (narg_cons (narg_cons narg_nil)) rfl (da_cons (d_ix ix_seq od_ix (d_var 0 rfl (.inl rfl)) d_int (fun _ _ => rfl)) (da_cons (d_ix ix_seq od_ix (d_var 1 rfl (.inl rfl)) d_int (fun _ _ => rfl)) da_nil))))
    (gs_one (g_ret (d_tup (da_cons (d_var 2 rfl (.inl rfl)) (da_cons (d_bin op_modN od_mod (d_bin op_sub od_sub (d_ix ix_seq od_ix (d_var 1 rfl (.inl rfl)) d_int (fun _ _ => rfl)) (d_ix ix_seq od_ix (d_var 0 rfl (.inl rfl)) d_int (fun _ _ => rfl))) (d_var 2 rfl (.inl rfl))) da_nil))))))
/-! ### stand_apart -/
abbrev s_stand_apart : Stmt := topS 13
theorem sc_stand_apart : FnScope ["one", "other", "common", "gap"] ["one", "other"] (defScope s_stand_apart) := ⟨rfl, rfl, rfl, by decide +kernel, rfl, by decide +kernel, by decide +kernel⟩
noncomputable def G_stand_apart : DG := (gSeq (gAsg (dCall F_gap_of [] (dCons (dVar 0) (dCons (dVar 1) dNil))) (nTup 2 (nCons (nName 2) (nCons (nName 3) nNil))))
    (gRet (dAnd (dBin oLe (dBin oIx (dVar 0) (dC (.int 2))) (dVar 3)) (dBin oLe (dBin oAdd (dVar 3) (dBin oIx (dVar 1) (dC (.int 2)))) (dVar 2)))))
noncomputable def F_stand_apart : Fn := fnG 4 G_stand_apart
theorem ok_stand_apart {f : Addr} {fd : FuncData} (F : FunD K "stand_apart" "stand_apart" (defArgs s_stand_apart) (defBody s_stand_apart) (defScope s_stand_apart) [] [] f fd) (c_gap_of : DCall P w K mg base 2 "gap_of" 2 F_gap_of []) :
    FnOk P w K mg base CX0 3 f fd ["one", "other"] (spD K 2 F_stand_apart) := by
  have nd := sc_stand_apart.nd
  exact fn_ok F sc_stand_apart fun cdv A outer s H E hr => (gs_cons (g_asg (c_call c_gap_of (hr.mono (by omega)) (by rfl) (narg_cons (narg_cons narg_nil)) rfl (da_cons (d_var 0 rfl (.inl rfl)) (da_cons (d_var 1 rfl (.inl rfl)) da_nil))) (t_tup rfl (ts_cons (t_name 2 nd rfl (.inl rfl)) (ts_cons (t_name 3 nd rfl (.inl rfl)) ts_nil))))
    (gs_one (g_ret (d_and (d_cmp op_leA od_ord (d_ix ix_seq od_ix (d_var 0 rfl (.inl rfl)) d_int (fun _ _ => rfl)) (d_var 3 rfl (.inl rfl)) (nomark _)) (d_one (d_cmp op_leA od_ord (d_bin op_addA od_add (d_var 3 rfl (.inl rfl)) (d_ix ix_seq od_ix (d_var 1 rfl (.inl rfl)) d_int (fun _ _ => rfl))) (d_var 2 rfl (.inl rfl)) (nomark _)))))))
/-! ### least_meeting -/
abbrev s_least_meeting : Stmt := topS 14
theorem sc_least_meeting : FnScope ["one", "other", "first", "turn"] ["one", "other"] (defScope s_least_meeting) := ⟨rfl, rfl, rfl, by decide +kernel, rfl, by decide +kernel, by decide +kernel⟩
noncomputable def G_least_meeting : DG := (gSeq (gSet 2 (dCB bMax2 (dCons (dBin oIx (dVar 0) (dC (.int 0))) (dCons (dBin oIx (dVar 1) (dC (.int 0))) dNil))))
    (gSeq (gFor (srcRng2 (dCons (dVar 2) (dCons (dBin oAdd (dVar 2) (dCall F_lcm_of [] (dCons (dBin oIx (dVar 0) (dC (.int 1))) (dCons (dBin oIx (dVar 1) (dC (.int 1))) dNil)))) dNil))) (nName 3) (gIf (dAndT (dTr (dCall F_plays [] (dCons (dVar 0) (dCons (dVar 3) dNil)))) (dTr (dCall F_plays [] (dCons (dVar 1) (dCons (dVar 3) dNil))))) (gRet (dVar 3)) gNext))
    (gRet (dC .non))))
noncomputable def F_least_meeting : Fn := fnG 4 G_least_meeting
theorem ok_least_meeting {f : Addr} {fd : FuncData} (F : FunD K "least_meeting" "least_meeting" (defArgs s_least_meeting) (defBody s_least_meeting) (defScope s_least_meeting) [] [] f fd) (c_lcm_of : DCall P w K mg base 2 "lcm_of" 2 F_lcm_of []) (c_plays : DCall P w K mg base 1 "plays" 2 F_plays []) (m_max : mg "max" = none) (m_range : mg "range" = none) :
    FnOk P w K mg base CX0 3 f fd ["one", "other"] (spD K 2 F_least_meeting) := by
  have nd := sc_least_meeting.nd
  exact fn_ok F sc_least_meeting fun cdv A outer s H E hr => (gs_cons (g_set 2 nd rfl (.inl rfl) (d_callB (call_max2 rfl) cd_max2 (by rfl) m_max (by decide +kernel) (da_cons (d_ix ix_seq od_ix (d_var 0 rfl (.inl rfl)) d_int (fun _ _ => rfl)) (da_cons (d_ix ix_seq od_ix (d_var 1 rfl (.inl rfl)) d_int (fun _ _ => rfl)) da_nil))))
    (gs_cons (g_for PassesOwn.never rfl (i_rng2 (by rfl) m_range (da_cons (d_var 2 rfl (.inl rfl)) (da_cons (d_bin op_addA od_add (d_var 2 rfl (.inl rfl)) (c_call c_lcm_of (hr.mono (by omega)) (by rfl) (narg_cons (narg_cons narg_nil)) rfl (da_cons (d_ix ix_seq od_ix (d_var 0 rfl (.inl rfl)) d_int (fun _ _ => rfl)) (da_cons (d_ix ix_seq od_ix (d_var 1 rfl (.inl rfl)) d_int (fun _ _ => rfl)) da_nil)))) da_nil))) (t_name 3 nd rfl (.inl rfl)) (gs_one (g_if (PW.pt (dw_and (dt_tr (c_call c_plays (hr.mono (by omega)) (by rfl) (narg_cons (narg_cons narg_nil)) rfl (da_cons (d_var 0 rfl (.inl rfl)) (da_cons (d_var 3 rfl (.inl rfl)) da_nil))) (by intro _; rfl)) (dw_and1 (dt_tr (c_call c_plays (hr.mono (by omega)) (by rfl) (narg_cons (narg_cons narg_nil)) rfl (da_cons (d_var 1 rfl (.inl rfl)) (da_cons (d_var 3 rfl (.inl rfl)) da_nil))) (by intro _; rfl))))) (gs_one (g_ret (d_var 3 rfl (.inl rfl)))) gs_nil)))
    (gs_one (g_ret d_non))))
/-! ### pair_report -/
abbrev s_pair_report : Stmt := topS 15
theorem sc_pair_report : FnScope ["one", "other"] ["one", "other"] (defScope s_pair_report) := ⟨rfl, rfl, rfl, by decide +kernel, rfl, by decide +kernel, by decide +kernel⟩
noncomputable def G_pair_report : DG := (gSeq (gIf (dTr (dCall F_stand_apart [] (dCons (dVar 0) (dCons (dVar 1) dNil)))) (gRet (dBin oAdd (dTup (dCons (dC (.str "apart")) dNil)) (dCall F_gap_of [] (dCons (dVar 0) (dCons (dVar 1) dNil))))) gNext)
    (gRet (dTup (dCons (dC (.str "meets")) (dCons (dCall F_least_meeting [] (dCons (dVar 0) (dCons (dVar 1) dNil))) dNil)))))
noncomputable def F_pair_report : Fn := fnG 2 G_pair_report
theorem ok_pair_report {f : Addr} {fd : FuncData} (F : FunD K "pair_report" "pair_report" (defArgs s_pair_report) (defBody s_pair_report) (defScope s_pair_report) [] [] f fd) (c_stand_apart : DCall P w K mg base 3 "stand_apart" 2 F_stand_apart []) (c_gap_of : DCall P w K mg base 2 "gap_of" 2 F_gap_of []) (c_least_meeting : DCall P w K mg base 3 "least_meeting" 2 F_least_meeting []) :
    FnOk P w K mg base CX0 4 f fd ["one", "other"] (spD K 2 F_pair_report) := by
  have nd := sc_pair_report.nd
  exact fn_ok F sc_pair_report fun cdv A outer s H E hr => (gs_cons (g_if (dt_tr (c_call c_stand_apart (hr.mono (by omega)) (by rfl) (narg_cons (narg_cons narg_nil)) rfl (da_cons (d_var 0 rfl (.inl rfl)) (da_cons (d_var 1 rfl (.inl rfl)) da_nil))) (by intro _; rfl)) (gs_one (g_ret (d_bin op_addA od_add (d_tup (da_cons d_str da_nil)) (c_call c_gap_of (hr.mono (by omega)) (by rfl) (narg_cons (narg_cons narg_nil)) rfl (da_cons (d_var 0 rfl (.inl rfl)) (da_cons (d_var 1 rfl (.inl rfl)) da_nil)))))) gs_nil)
    (gs_one (g_ret (d_tup (da_cons d_str (da_cons (c_call c_least_meeting (hr.mono (by omega)) (by rfl) (narg_cons (narg_cons narg_nil)) rfl (da_cons (d_var 0 rfl (.inl rfl)) (da_cons (d_var 1 rfl (.inl rfl)) da_nil))) da_nil))))))
/-! ### shows_pair_of_slots -/
abbrev s_shows_pair_of_slots : Stmt := topS 16
theorem sc_shows_pair_of_slots : FnScope ["one", "other", "paper", "turn"] ["one", "other", "paper"] (defScope s_shows_pair_of_slots) := ⟨rfl, rfl, rfl, by decide +kernel, rfl, by decide +kernel, by decide +kernel⟩
noncomputable def G_shows_pair_of_slots : DG := (gSeq (gIf (dAndT (dTr (dCall F_is_row [] (dCons (dVar 2) (dCons (dC (.int 2)) (dCons (dC (.int 2)) dNil))))) (dB (dBin oEq (dBin oIx (dVar 2) (dC (.int 0))) (dC (.str "meets"))))) (gSeq (gSet 3 (dBin oIx (dVar 2) (dC (.int 1))))
    (gRet (dAnd (dCall F_is_whole [] (dCons (dVar 3) (dCons (dC (.int 0)) (dCons (dC C_TURN_MOST) dNil)))) (dAnd (dCall F_plays [] (dCons (dVar 0) (dCons (dVar 3) dNil))) (dCall F_plays [] (dCons (dVar 1) (dCons (dVar 3) dNil))))))) gNext)
    (gSeq (gIf (dAndT (dTr (dCall F_is_row [] (dCons (dVar 2) (dCons (dC (.int 3)) (dCons (dC (.int 3)) dNil))))) (dB (dBin oEq (dBin oIx (dVar 2) (dC (.int 0))) (dC (.str "apart"))))) (gRet (dAnd (dCall F_same [] (dCons (dSl (dVar 2) (oPart (dC (.int 1))) oNo) (dCons (dCall F_gap_of [] (dCons (dVar 0) (dCons (dVar 1) dNil))) dNil))) (dCall F_stand_apart [] (dCons (dVar 0) (dCons (dVar 1) dNil))))) gNext)
    (gRet (dC (.bl false)))))
noncomputable def F_shows_pair_of_slots : Fn := fnG 4 G_shows_pair_of_slots
theorem ok_shows_pair_of_slots {f : Addr} {fd : FuncData} (F : FunD K "shows_pair_of_slots" "shows_pair_of_slots" (defArgs s_shows_pair_of_slots) (defBody s_shows_pair_of_slots) (defScope s_shows_pair_of_slots) [] [] f fd) (c_is_row : DCall P w K mg base 1 "is_row" 3 F_is_row []) (c_is_whole : DCall P w K mg base 1 "is_whole" 3 F_is_whole []) (c_plays : DCall P w K mg base 1 "plays" 2 F_plays []) (c_same : DCall P w K mg base 2 "same" 2 F_same []) (c_gap_of : DCall P w K mg base 2 "gap_of" 2 F_gap_of []) (c_stand_apart : DCall P w K mg base 3 "stand_apart" 2 F_stand_apart []) (k_TURN_MOST : ConstD K mg "TURN_MOST" C_TURN_MOST) :
    FnOk P w K mg base CX0 4 f fd ["one", "other", "paper"] (spD K 3 F_shows_pair_of_slots) := by
  have nd := sc_shows_pair_of_slots.nd
  exact fn_ok F sc_shows_pair_of_slots fun cdv A outer s H E hr => (gs_cons (g_if (PW.pt (dw_and (dt_tr (c_call c_is_row (hr.mono (by omega)) (by rfl) (narg_cons (narg_cons (narg_cons narg_nil))) rfl (da_cons (d_var 2 rfl (.inl rfl)) (da_cons d_int (da_cons d_int da_nil)))) (by intro _; rfl)) (dw_and1 (dt_cmp (op_eqA hr.units) od_eq (d_ix ix_seq od_ix (d_var 2 rfl (.inl rfl)) d_int (fun _ _ => rfl)) d_str (nomark _))))) (gs_cons (g_set 3 nd rfl (.inl rfl) (d_ix ix_seq od_ix (d_var 2 rfl (.inl rfl)) d_int (fun _ _ => rfl)))
    (gs_one (g_ret (d_and (c_call c_is_whole (hr.mono (by omega)) (by rfl) (narg_cons (narg_cons (narg_cons narg_nil))) rfl (da_cons (d_var 3 rfl (.inl rfl)) (da_cons d_int (da_cons (c_glob k_TURN_MOST (by rfl)) da_nil)))) (d_and (c_call c_plays (hr.mono (by omega)) (by rfl) (narg_cons (narg_cons narg_nil)) rfl (da_cons (d_var 0 rfl (.inl rfl)) (da_cons (d_var 3 rfl (.inl rfl)) da_nil))) (d_one (c_call c_plays (hr.mono (by omega)) (by rfl) (narg_cons (narg_cons narg_nil)) rfl (da_cons (d_var 1 rfl (.inl rfl)) (da_cons (d_var 3 rfl (.inl rfl)) da_nil))))))))) gs_nil)
    (gs_cons (g_if (PW.pt (dw_and (dt_tr (c_call c_is_row (hr.mono (by omega)) (by rfl) (narg_cons (narg_cons (narg_cons narg_nil))) rfl (da_cons (d_var 2 rfl (.inl rfl)) (da_cons d_int (da_cons d_int da_nil)))) (by intro _; rfl)) (dw_and1 (dt_cmp (op_eqA hr.units) od_eq (d_ix ix_seq od_ix (d_var 2 rfl (.inl rfl)) d_int (fun _ _ => rfl)) d_str (nomark _))))) (gs_one (g_ret (d_and (c_call c_same (hr.mono (by omega)) (by rfl) (narg_cons (narg_cons narg_nil)) rfl (da_cons (d_slice (d_var 2 rfl (.inl rfl)) (do_some d_int) do_none) (da_cons (c_call c_gap_of (hr.mono (by omega)) (by rfl) (narg_cons (narg_cons narg_nil)) rfl (da_cons (d_var 0 rfl (.inl rfl)) (da_cons (d_var 1 rfl (.inl rfl)) da_nil))) da_nil))) (d_one (c_call c_stand_apart (hr.mono (by omega)) (by rfl) (narg_cons (narg_cons narg_nil)) rfl (da_cons (d_var 0 rfl (.inl rfl)) (da_cons (d_var 1 rfl (.inl rfl)) da_nil))))))) gs_nil)
    (gs_one (g_ret d_bl))))
/-! ### _law_cell -/
abbrev s_n_law_cell : Stmt := topS 18
theorem sc_n_law_cell : FnScope ["script", "place", "cell"] ["script", "place"] (defScope s_n_law_cell) := ⟨rfl, rfl, rfl, by decide +kernel, rfl, by decide +kernel, by decide +kernel⟩
noncomputable def G_n_law_cell : DG := (gSeq (gSet 2 (dC (.int 0)))
    (gSeq (gIf (dB (dBin oLt (dVar 1) (dCB bLen (dCons (dVar 0) dNil)))) (gSet 2 (dBin oIx (dVar 0) (dVar 1))) gNext)
    (gSeq (gIf (dB (dChain oLe oLt (dC (.int 0)) (dVar 2) (dC (.int 1000000000000)))) (gRet (dBin oFdiv (dBin oPow (dBin oAdd (dBin oAdd (dVar 2) (dC (.int 11))) (dBin oMul (dC (.int 37)) (dVar 1))) (dC (.int 17))) (dC (.int 1009)))) gNext)
    (gRet (dVar 2)))))
noncomputable def F_n_law_cell : Fn := fnG 3 G_n_law_cell
theorem ok_n_law_cell {f : Addr} {fd : FuncData} (F : FunD K "_law_cell" "_law_cell" (defArgs s_n_law_cell) (defBody s_n_law_cell) (defScope s_n_law_cell) [] [] f fd) (m_len : mg "len" = none) :
    FnOk P w K mg base CX0 1 f fd ["script", "place"] (spD K 2 F_n_law_cell) := by
  have nd := sc_n_law_cell.nd
  exact fn_ok F sc_n_law_cell fun cdv A outer s H E hr => (gs_cons (g_set 2 nd rfl (.inl rfl) d_int)
    (gs_cons (g_if (dt_cmp op_ltA od_ord (d_var 1 rfl (.inl rfl)) (d_callB call_len cd_len (by rfl) m_len (by decide +kernel) (da_cons (d_var 0 rfl (.inl rfl)) da_nil)) (nomark _)) (gs_one (g_set 2 nd rfl (.inl rfl) (d_ix ix_seq od_ix (d_var 0 rfl (.inl rfl)) (d_var 1 rfl (.inl rfl)) (fun _ _ => rfl)))) gs_nil)
    (gs_cons (g_if (dt_chain op_leA od_ord op_ltA od_ord d_int (d_var 2 rfl (.inl rfl)) d_int) (gs_one (g_ret (d_bin op_fdivA od_fdiv (d_bin op_pow od_pow (d_bin op_addA od_add (d_bin op_addA od_add (d_var 2 rfl (.inl rfl)) d_int) (d_bin op_mulB od_mul d_int (d_var 1 rfl (.inl rfl)))) d_int) d_int))) gs_nil)
    (gs_one (g_ret (d_var 2 rfl (.inl rfl)))))))
/-! ### _law_digits -/
abbrev s_n_law_digits : Stmt := topS 19
theorem sc_n_law_digits : FnScope ["cell", "bases", "found", "rest", "base"] ["cell", "bases"] (defScope s_n_law_digits) := ⟨rfl, rfl, rfl, by decide +kernel, rfl, by decide +kernel, by decide +kernel⟩
noncomputable def G_n_law_digits : DG := (gSeq (gSet 2 (dLst dNil))
    (gSeq (gSet 3 (dVar 0))
    (gSeq (gFor (srcOf (dVar 1)) (nName 4) (gSeq (gDrop (dMeth oApp (dVar 2) (dCons (dBin oMod (dCB bInt (dCons (dVar 3) dNil)) (dVar 4)) dNil)))
    (gSet 3 (dBin oFdiv (dVar 3) (dVar 4)))))
    (gRet (dVar 2)))))
noncomputable def F_n_law_digits : Fn := fnG 5 G_n_law_digits
theorem ok_n_law_digits {f : Addr} {fd : FuncData} (F : FunD K "_law_digits" "_law_digits" (defArgs s_n_law_digits) (defBody s_n_law_digits) (defScope s_n_law_digits) [] [] f fd) (m_int : mg "int" = none) :
    FnOk P w K mg base CX0 1 f fd ["cell", "bases"] (spD K 2 F_n_law_digits) := by
  have nd := sc_n_law_digits.nd
  exact fn_ok F sc_n_law_digits fun cdv A outer s H E hr => (gs_cons (g_set 2 nd rfl (.inl rfl) (d_lst da_nil))
    (gs_cons (g_set 3 nd rfl (.inl rfl) (d_var 0 rfl (.inl rfl)))
    (gs_cons (g_for PassesOwn.never rfl (i_seq (d_var 1 rfl (.inl rfl))) (t_name 4 nd rfl (.inl rfl)) (gs_cons (g_expr (d_app (d_var 2 rfl (.inl rfl)) (da_cons (d_bin op_modN od_mod (d_callTy call_int1 cd_int (by rfl) m_int (by decide +kernel) (da_cons (d_var 3 rfl (.inl rfl)) da_nil)) (d_var 4 rfl (.inl rfl))) da_nil)))
    (gs_one (g_set 3 nd rfl (.inl rfl) (d_bin op_fdivA od_fdiv (d_var 3 rfl (.inl rfl)) (d_var 4 rfl (.inl rfl)))))))
    (gs_one (g_ret (d_var 2 rfl (.inl rfl)))))))
/-! ### _law_same -/
abbrev s_n_law_same : Stmt := topS 20
theorem sc_n_law_same : FnScope ["one", "other", "k"] ["one", "other"] (defScope s_n_law_same) := ⟨rfl, rfl, rfl, by decide +kernel, rfl, by decide +kernel, by decide +kernel⟩
noncomputable def G_n_law_same (self : Fn) : DG := (gSeq (gIf (dAndT (dTr (dIsi "tuple" (dVar 0))) (dTr (dIsi "tuple" (dVar 1)))) (gRet (dAnd (dBin oEq (dCB bLen (dCons (dVar 0) dNil)) (dCB bLen (dCons (dVar 1) dNil))) (dOf oAllN (lLc (srcRng1 (dCons (dCB bLen (dCons (dVar 0) dNil)) dNil)) (nName 2) tYesD (dCall self [] (dCons (dBin oIx (dVar 0) (dVar 2)) (dCons (dBin oIx (dVar 1) (dVar 2)) dNil))) [2])))) gNext)
    (gSeq (gIf (dAndT (dTr (dIsi "str" (dVar 0))) (dTr (dIsi "str" (dVar 1)))) (gRet (dBin oEq (dVar 0) (dVar 1))) gNext)
    (gSeq (gIf (dOrT (dB (dBin oIsN (dVar 0) (dC .non))) (dB (dBin oIsN (dVar 1) (dC .non)))) (gRet (dAnd (dBin oIsN (dVar 0) (dC .non)) (dBin oIsN (dVar 1) (dC .non)))) gNext)
    (gSeq (gIf (dOrT (dTr (dIsi "bool" (dVar 0))) (dTr (dIsi "bool" (dVar 1)))) (gRet (dAnd (dIsi "bool" (dVar 0)) (dAnd (dIsi "bool" (dVar 1)) (dBin oEq (dVar 0) (dVar 1))))) gNext)
    (gRet (dAnd (dIsi "int" (dVar 0)) (dAnd (dIsi "int" (dVar 1)) (dBin oEq (dVar 0) (dVar 1)))))))))
noncomputable def F_n_law_same : Nat → Fn
  | 0 => fun _ _ => none
  | l + 1 => fnG 3 (G_n_law_same (F_n_law_same l))
theorem ok_n_law_same {l : Nat} {self : Fn} {f : Addr} {fd : FuncData} (F : FunD K "_law_same" "_law_same" (defArgs s_n_law_same) (defBody s_n_law_same) (defScope s_n_law_same) [] [] f fd) (m_all : mg "all" = none) (m_bool : mg "bool" = none) (m_int : mg "int" = none) (m_isinstance : mg "isinstance" = none) (m_len : mg "len" = none) (m_range : mg "range" = none) (m_str : mg "str" = none) (m_tuple : mg "tuple" = none) (c_self : DCall P w K mg base (0 + l) "_law_same" 2 self []) :
    FnOk P w K mg base CX0 (0 + l + 1) f fd ["one", "other"] (spD K 2 (fnG 3 (G_n_law_same self))) := by
  have nd := sc_n_law_same.nd
  exact fn_ok F sc_n_law_same fun cdv A outer s H E hr => (gs_cons (g_if (PW.pt (dw_and (dt_tr (d_isi (T := "tuple") (by unfold isT; decide) (by rfl) m_isinstance (d_var 0 rfl (.inr (.inl rfl))) rfl (by rfl) m_tuple (by decide +kernel)) (by intro _; rfl)) (dw_and1 (dt_tr (d_isi (T := "tuple") (by unfold isT; decide) (by rfl) m_isinstance (d_var 1 rfl (.inr (.inl rfl))) rfl (by rfl) m_tuple (by decide +kernel)) (by intro _; rfl))))) (gs_one (g_ret (d_and (d_cmp (op_eqA hr.units) od_eq (d_callB call_len cd_len (by rfl) m_len (by decide +kernel) (da_cons (d_var 0 rfl (.inr (.inl rfl))) da_nil)) (d_callB call_len cd_len (by rfl) m_len (by decide +kernel) (da_cons (d_var 1 rfl (.inr (.inl rfl))) da_nil)) (nomark _)) (d_one (d_ofB (cr_all rfl) nd_all (by rfl) m_all (by decide +kernel) (l_lc rfl nd (own := [("k", 2)]) (js := [2]) (i_rng1 (by rfl) m_range (da_cons (d_callB call_len cd_len (by rfl) m_len (by decide +kernel) (da_cons (d_var 0 rfl (.inr (.inl rfl))) da_nil)) da_nil)) (by exact blkOk_by (N := ["one", "other", "k"]) (sc := defScope s_n_law_same) (by decide +kernel)) (by decide) (fun _ _ _ _ _ => by exact (t_name 2 nd rfl (.inl rfl))) (fun _ _ _ _ _ => by exact dts_nil) (fun _ _ _ _ _ => by exact (c_call c_self (hr.mono (by omega)) (by rfl) (narg_cons (narg_cons narg_nil)) rfl (da_cons (d_ix ix_seq od_ix (d_var 0 rfl (.inr (.inl rfl))) (d_var 2 rfl (.inl rfl)) (fun _ _ => rfl)) (da_cons (d_ix ix_seq od_ix (d_var 1 rfl (.inr (.inl rfl))) (d_var 2 rfl (.inl rfl)) (fun _ _ => rfl)) da_nil)))))))))) gs_nil)
    (gs_cons (g_if (PW.pt (dw_and (dt_tr (d_isi (T := "str") (by unfold isT; decide) (by rfl) m_isinstance (d_var 0 rfl (.inr (.inl rfl))) rfl (by rfl) m_str (by decide +kernel)) (by intro _; rfl)) (dw_and1 (dt_tr (d_isi (T := "str") (by unfold isT; decide) (by rfl) m_isinstance (d_var 1 rfl (.inr (.inl rfl))) rfl (by rfl) m_str (by decide +kernel)) (by intro _; rfl))))) (gs_one (g_ret (d_cmp (op_eqA hr.units) od_eq (d_var 0 rfl (.inr (.inl rfl))) (d_var 1 rfl (.inr (.inl rfl))) (nomark _)))) gs_nil)
    (gs_cons (g_if (PW.pt (dw_or (dt_cmp op_isN od_isN (d_var 0 rfl (.inr (.inl rfl))) d_non (nomark _)) (dw_or1 (dt_cmp op_isN od_isN (d_var 1 rfl (.inr (.inl rfl))) d_non (nomark _))))) (gs_one (g_ret (d_and (d_cmp op_isN od_isN (d_var 0 rfl (.inr (.inl rfl))) d_non (nomark _)) (d_one (d_cmp op_isN od_isN (d_var 1 rfl (.inr (.inl rfl))) d_non (nomark _)))))) gs_nil)
    (gs_cons (g_if (PW.pt (dw_or (dt_tr (d_isi (T := "bool") (by unfold isT; decide) (by rfl) m_isinstance (d_var 0 rfl (.inr (.inl rfl))) rfl (by rfl) m_bool (by decide +kernel)) (by intro _; rfl)) (dw_or1 (dt_tr (d_isi (T := "bool") (by unfold isT; decide) (by rfl) m_isinstance (d_var 1 rfl (.inr (.inl rfl))) rfl (by rfl) m_bool (by decide +kernel)) (by intro _; rfl))))) (gs_one (g_ret (d_and (d_isi (T := "bool") (by unfold isT; decide) (by rfl) m_isinstance (d_var 0 rfl (.inr (.inl rfl))) rfl (by rfl) m_bool (by decide +kernel)) (d_and (d_isi (T := "bool") (by unfold isT; decide) (by rfl) m_isinstance (d_var 1 rfl (.inr (.inl rfl))) rfl (by rfl) m_bool (by decide +kernel)) (d_one (d_cmp (op_eqA hr.units) od_eq (d_var 0 rfl (.inr (.inl rfl))) (d_var 1 rfl (.inr (.inl rfl))) (nomark _))))))) gs_nil)
    (gs_one (g_ret (d_and (d_isi (T := "int") (by unfold isT; decide) (by rfl) m_isinstance (d_var 0 rfl (.inr (.inl rfl))) rfl (by rfl) m_int (by decide +kernel)) (d_and (d_isi (T := "int") (by unfold isT; decide) (by rfl) m_isinstance (d_var 1 rfl (.inr (.inl rfl))) rfl (by rfl) m_int (by decide +kernel)) (d_one (d_cmp (op_eqA hr.units) od_eq (d_var 0 rfl (.inr (.inl rfl))) (d_var 1 rfl (.inr (.inl rfl))) (nomark _)))))))))))
/-! ### _law_whole -/
abbrev s_n_law_whole : Stmt := topS 21
theorem sc_n_law_whole : FnScope ["value", "low", "high"] ["value", "low", "high"] (defScope s_n_law_whole) := ⟨rfl, rfl, rfl, by decide +kernel, rfl, by decide +kernel, by decide +kernel⟩
noncomputable def G_n_law_whole : DG := (gRet (dAnd (dIsi "int" (dVar 0)) (dAnd (dNot (dIsi "bool" (dVar 0))) (dChain oLe oLe (dVar 1) (dVar 0) (dVar 2)))))
noncomputable def F_n_law_whole : Fn := fnG 3 G_n_law_whole
theorem ok_n_law_whole {f : Addr} {fd : FuncData} (F : FunD K "_law_whole" "_law_whole" (defArgs s_n_law_whole) (defBody s_n_law_whole) (defScope s_n_law_whole) [] [] f fd) (m_bool : mg "bool" = none) (m_int : mg "int" = none) (m_isinstance : mg "isinstance" = none) :
    FnOk P w K mg base CX0 1 f fd ["value", "low", "high"] (spD K 3 F_n_law_whole) := by
  have nd := sc_n_law_whole.nd
  exact fn_ok F sc_n_law_whole fun cdv A outer s H E hr => (gs_one (g_ret (d_and (d_isi (T := "int") (by unfold isT; decide) (by rfl) m_isinstance (d_var 0 rfl (.inl rfl)) rfl (by rfl) m_int (by decide +kernel)) (d_and (d_not (d_isi (T := "bool") (by unfold isT; decide) (by rfl) m_isinstance (d_var 0 rfl (.inl rfl)) rfl (by rfl) m_bool (by decide +kernel))) (d_one (d_chain op_leA od_ord op_leA od_ord (d_var 1 rfl (.inl rfl)) (d_var 0 rfl (.inl rfl)) (d_var 2 rfl (.inl rfl))))))))
/-! ### _law_word -/
abbrev s_n_law_word : Stmt := topS 22
theorem sc_n_law_word : FnScope ["value", "word"] ["value", "word"] (defScope s_n_law_word) := ⟨rfl, rfl, rfl, by decide +kernel, rfl, by decide +kernel, by decide +kernel⟩
noncomputable def G_n_law_word : DG := (gRet (dAnd (dIsi "str" (dVar 0)) (dBin oEq (dVar 0) (dVar 1))))
noncomputable def F_n_law_word : Fn := fnG 2 G_n_law_word
theorem ok_n_law_word {f : Addr} {fd : FuncData} (F : FunD K "_law_word" "_law_word" (defArgs s_n_law_word) (defBody s_n_law_word) (defScope s_n_law_word) [] [] f fd) (m_isinstance : mg "isinstance" = none) (m_str : mg "str" = none) :
    FnOk P w K mg base CX0 1 f fd ["value", "word"] (spD K 2 F_n_law_word) := by
  have nd := sc_n_law_word.nd
  exact fn_ok F sc_n_law_word fun cdv A outer s H E hr => (gs_one (g_ret (d_and (d_isi (T := "str") (by unfold isT; decide) (by rfl) m_isinstance (d_var 0 rfl (.inl rfl)) rfl (by rfl) m_str (by decide +kernel)) (d_one (d_cmp (op_eqA hr.units) od_eq (d_var 0 rfl (.inl rfl)) (d_var 1 rfl (.inl rfl)) (nomark _))))))
/-! ### _law_bends -/
abbrev s_n_law_bends : Stmt := topS 23
theorem sc_n_law_bends : FnScope ["value", "found", "k", "other"] ["value"] (defScope s_n_law_bends) := ⟨rfl, rfl, rfl, by decide +kernel, rfl, by decide +kernel, by decide +kernel⟩
noncomputable def G_n_law_bends (self : Fn) : DG := (gSeq (gIf (dTr (dIsi "tuple" (dVar 0))) (gSeq (gSet 1 (dLst (dCons (dSl (dVar 0) oNo (oPart (dUn oNeg (dC (.int 1))))) (dCons (dBin oAdd (dVar 0) (dTup (dCons (dC (.int 0)) dNil))) (dCons (dSt (dVar 0) oNo oNo (oPart (dUn oNeg (dC (.int 1))))) (dCons (dBin oAdd (dVar 0) (dSl (dVar 0) (oPart (dUn oNeg (dC (.int 1)))) oNo)) (dCons (dC .non) dNil)))))))
    (gSeq (gFor (srcRng1 (dCons (dCB bLen (dCons (dVar 0) dNil)) dNil)) (nName 2) (gSeq (gDrop (dMeth oApp (dVar 1) (dCons (dBin oAdd (dSl (dVar 0) oNo (oPart (dVar 2))) (dSl (dVar 0) (oPart (dBin oAdd (dVar 2) (dC (.int 1)))) oNo)) dNil)))
    (gFor (srcOf (dCall self [] (dCons (dBin oIx (dVar 0) (dVar 2)) dNil))) (nName 3) (gDrop (dMeth oApp (dVar 1) (dCons (dBin oAdd (dBin oAdd (dSl (dVar 0) oNo (oPart (dVar 2))) (dTup (dCons (dVar 3) dNil))) (dSl (dVar 0) (oPart (dBin oAdd (dVar 2) (dC (.int 1)))) oNo)) dNil))))))
    (gRet (dVar 1)))) gNext)
    (gSeq (gIf (dTr (dIsi "str" (dVar 0))) (gRet (dLst (dCons (dBin oAdd (dVar 0) (dC (.str "a"))) (dCons (dSl (dVar 0) oNo (oPart (dUn oNeg (dC (.int 1))))) (dCons (dC (.str "")) (dCons (dC .non) (dCons (dC (.int 0)) (dCons (dTup (dCons (dVar 0) dNil)) dNil)))))))) gNext)
    (gSeq (gIf (dTr (dIsi "int" (dVar 0))) (gRet (dLst (dCons (dBin oAdd (dVar 0) (dC (.int 1))) (dCons (dBin oSub (dVar 0) (dC (.int 1))) (dCons (dC .non) (dCons (dBin oEq (dVar 0) (dC (.int 1))) (dCons (dC (.str "1")) dNil))))))) gNext)
    (gRet (dLst (dCons (dC (.int 0)) (dCons (dTup dNil) dNil)))))))
noncomputable def F_n_law_bends : Nat → Fn
  | 0 => fun _ _ => none
  | l + 1 => fnG 4 (G_n_law_bends (F_n_law_bends l))
theorem ok_n_law_bends {l : Nat} {self : Fn} {f : Addr} {fd : FuncData} (F : FunD K "_law_bends" "_law_bends" (defArgs s_n_law_bends) (defBody s_n_law_bends) (defScope s_n_law_bends) [] [] f fd) (m_int : mg "int" = none) (m_isinstance : mg "isinstance" = none) (m_len : mg "len" = none) (m_range : mg "range" = none) (m_str : mg "str" = none) (m_tuple : mg "tuple" = none) (c_self : DCall P w K mg base (0 + l) "_law_bends" 1 self []) :
    FnOk P w K mg base CX0 (0 + l + 1) f fd ["value"] (spD K 1 (fnG 4 (G_n_law_bends self))) := by
  have nd := sc_n_law_bends.nd
  exact fn_ok F sc_n_law_bends fun cdv A outer s H E hr => (gs_cons (g_if (dt_tr (d_isi (T := "tuple") (by unfold isT; decide) (by rfl) m_isinstance (d_var 0 rfl (.inl rfl)) rfl (by rfl) m_tuple (by decide +kernel)) (by intro _; rfl)) (gs_cons (g_set 1 nd rfl (.inl rfl) (d_lst (da_cons (d_slice (d_var 0 rfl (.inl rfl)) do_none (do_some (d_un un_neg ud_neg d_int))) (da_cons (d_bin op_addA od_add (d_var 0 rfl (.inl rfl)) (d_tup (da_cons d_int da_nil))) (da_cons (d_step (d_var 0 rfl (.inl rfl)) do_none do_none (do_some (d_un un_neg ud_neg d_int))) (da_cons (d_bin op_addA od_add (d_var 0 rfl (.inl rfl)) (d_slice (d_var 0 rfl (.inl rfl)) (do_some (d_un un_neg ud_neg d_int)) do_none)) (da_cons d_non da_nil)))))))
    (gs_cons (g_for PassesOwn.never rfl (i_rng1 (by rfl) m_range (da_cons (d_callB call_len cd_len (by rfl) m_len (by decide +kernel) (da_cons (d_var 0 rfl (.inl rfl)) da_nil)) da_nil)) (t_name 2 nd rfl (.inl rfl)) (gs_cons (g_expr (d_app (d_var 1 rfl (.inl rfl)) (da_cons (d_bin op_addA od_add (d_slice (d_var 0 rfl (.inl rfl)) do_none (do_some (d_var 2 rfl (.inl rfl)))) (d_slice (d_var 0 rfl (.inl rfl)) (do_some (d_bin op_addA od_add (d_var 2 rfl (.inl rfl)) d_int)) do_none)) da_nil)))
    (gs_one (g_for PassesOwn.never rfl (i_seq (c_call c_self (hr.mono (by omega)) (by rfl) (narg_cons narg_nil) rfl (da_cons (d_ix ix_seq od_ix (d_var 0 rfl (.inl rfl)) (d_var 2 rfl (.inl rfl)) (fun _ _ => rfl)) da_nil))) (t_name 3 nd rfl (.inl rfl)) (gs_one (g_expr (d_app (d_var 1 rfl (.inl rfl)) (da_cons (d_bin op_addA od_add (d_bin op_addA od_add (d_slice (d_var 0 rfl (.inl rfl)) do_none (do_some (d_var 2 rfl (.inl rfl)))) (d_tup (da_cons (d_var 3 rfl (.inl rfl)) da_nil))) (d_slice (d_var 0 rfl (.inl rfl)) (do_some (d_bin op_addA od_add (d_var 2 rfl (.inl rfl)) d_int)) do_none)) da_nil))))))))
    (gs_one (g_ret (d_var 1 rfl (.inl rfl)))))) gs_nil)
    (gs_cons (g_if (dt_tr (d_isi (T := "str") (by unfold isT; decide) (by rfl) m_isinstance (d_var 0 rfl (.inl rfl)) rfl (by rfl) m_str (by decide +kernel)) (by intro _; rfl)) (gs_one (g_ret (d_lst (da_cons (d_bin op_addA od_add (d_var 0 rfl (.inl rfl)) d_str) (da_cons (d_slice (d_var 0 rfl (.inl rfl)) do_none (do_some (d_un un_neg ud_neg d_int))) (da_cons d_str (da_cons d_non (da_cons d_int (da_cons (d_tup (da_cons (d_var 0 rfl (.inl rfl)) da_nil)) da_nil))))))))) gs_nil)
    (gs_cons (g_if (dt_tr (d_isi (T := "int") (by unfold isT; decide) (by rfl) m_isinstance (d_var 0 rfl (.inl rfl)) rfl (by rfl) m_int (by decide +kernel)) (by intro _; rfl)) (gs_one (g_ret (d_lst (da_cons (d_bin op_addA od_add (d_var 0 rfl (.inl rfl)) d_int) (da_cons (d_bin op_sub od_sub (d_var 0 rfl (.inl rfl)) d_int) (da_cons d_non (da_cons (d_cmp (op_eqA hr.units) od_eq (d_var 0 rfl (.inl rfl)) d_int (nomark _)) (da_cons d_str da_nil)))))))) gs_nil)
    (gs_one (g_ret (d_lst (da_cons d_int (da_cons (d_tup da_nil) da_nil))))))))
/-! ### _law_some -/
abbrev s_n_law_some : Stmt := topS 24
theorem sc_n_law_some : FnScope ["papers", "start", "most", "step"] ["papers", "start", "most"] (defScope s_n_law_some) := ⟨rfl, rfl, rfl, by decide +kernel, rfl, by decide +kernel, by decide +kernel⟩
noncomputable def G_n_law_some : DG := (gSeq (gSet 3 (dBin oAdd (dC (.int 1)) (dBin oFdiv (dCB bLen (dCons (dVar 0) dNil)) (dVar 2))))
    (gRet (dSt (dVar 0) (oPart (dBin oMod (dVar 1) (dVar 3))) oNo (oPart (dVar 3)))))
noncomputable def F_n_law_some : Fn := fnG 4 G_n_law_some
theorem ok_n_law_some {f : Addr} {fd : FuncData} (F : FunD K "_law_some" "_law_some" (defArgs s_n_law_some) (defBody s_n_law_some) (defScope s_n_law_some) [] [] f fd) (m_len : mg "len" = none) :
    FnOk P w K mg base CX0 1 f fd ["papers", "start", "most"] (spD K 3 F_n_law_some) := by
  have nd := sc_n_law_some.nd
  exact fn_ok F sc_n_law_some fun cdv A outer s H E hr => (gs_cons (g_set 3 nd rfl (.inl rfl) (d_bin op_addA od_add d_int (d_bin op_fdivA od_fdiv (d_callB call_len cd_len (by rfl) m_len (by decide +kernel) (da_cons (d_var 0 rfl (.inl rfl)) da_nil)) (d_var 2 rfl (.inl rfl)))))
    (gs_one (g_ret (d_step (d_var 0 rfl (.inl rfl)) (do_some (d_bin op_modN od_mod (d_var 1 rfl (.inl rfl)) (d_var 3 rfl (.inl rfl)))) do_none (do_some (d_var 3 rfl (.inl rfl)))))))
/-! ### _law_plays -/
abbrev s_n_law_plays : Stmt := topS 25
theorem sc_n_law_plays : FnScope ["slot", "turn", "past"] ["slot", "turn"] (defScope s_n_law_plays) := ⟨rfl, rfl, rfl, by decide +kernel, rfl, by decide +kernel, by decide +kernel⟩
noncomputable def G_n_law_plays : DG := (gSeq (gSet 2 (dBin oSub (dVar 1) (dBin oIx (dVar 0) (dC (.int 0)))))
    (gRet (dAnd (dBin oGe (dVar 2) (dC (.int 0))) (dBin oLt (dBin oSub (dVar 2) (dBin oMul (dBin oFdiv (dVar 2) (dBin oIx (dVar 0) (dC (.int 1)))) (dBin oIx (dVar 0) (dC (.int 1))))) (dBin oIx (dVar 0) (dC (.int 2)))))))
noncomputable def F_n_law_plays : Fn := fnG 3 G_n_law_plays
theorem ok_n_law_plays {f : Addr} {fd : FuncData} (F : FunD K "_law_plays" "_law_plays" (defArgs s_n_law_plays) (defBody s_n_law_plays) (defScope s_n_law_plays) [] [] f fd)  :
    FnOk P w K mg base CX0 1 f fd ["slot", "turn"] (spD K 2 F_n_law_plays) := by
  have nd := sc_n_law_plays.nd
  exact fn_ok F sc_n_law_plays fun cdv A outer s H E hr => (gs_cons (g_set 2 nd rfl (.inl rfl) (d_bin op_sub od_sub (d_var 1 rfl (.inl rfl)) (d_ix ix_seq od_ix (d_var 0 rfl (.inl rfl)) d_int (fun _ _ => rfl))))
    (gs_one (g_ret (d_and (d_cmp op_geA od_ord (d_var 2 rfl (.inl rfl)) d_int (nomark _)) (d_one (d_cmp op_ltA od_ord (d_bin op_sub od_sub (d_var 2 rfl (.inl rfl)) (d_bin op_mulB od_mul (d_bin op_fdivA od_fdiv (d_var 2 rfl (.inl rfl)) (d_ix ix_seq od_ix (d_var 0 rfl (.inl rfl)) d_int (fun _ _ => rfl))) (d_ix ix_seq od_ix (d_var 0 rfl (.inl rfl)) d_int (fun _ _ => rfl)))) (d_ix ix_seq od_ix (d_var 0 rfl (.inl rfl)) d_int (fun _ _ => rfl)) (nomark _)))))))
/-! ### _law_common -/
abbrev s_n_law_common : Stmt := topS 26
theorem sc_n_law_common : FnScope ["one", "other", "k"] ["one", "other"] (defScope s_n_law_common) := ⟨rfl, rfl, rfl, by decide +kernel, rfl, by decide +kernel, by decide +kernel⟩
noncomputable def G_n_law_common : DG := (gRet (dCB bMaxL (dCons (dNew (lLc (srcRng2 (dCons (dC (.int 1)) (dCons (dC (.int 41)) dNil))) (nName 2) (dAndT (dB (dBin oEq (dBin oMod (dVar 0) (dVar 2)) (dC (.int 0)))) (dB (dBin oEq (dBin oMod (dVar 1) (dVar 2)) (dC (.int 0))))) (dVar 2) [2])) dNil)))
noncomputable def F_n_law_common : Fn := fnG 3 G_n_law_common
theorem ok_n_law_common {f : Addr} {fd : FuncData} (F : FunD K "_law_common" "_law_common" (defArgs s_n_law_common) (defBody s_n_law_common) (defScope s_n_law_common) [] [] f fd) (m_max : mg "max" = none) (m_range : mg "range" = none) :
    FnOk P w K mg base CX0 1 f fd ["one", "other"] (spD K 2 F_n_law_common) := by
  have nd := sc_n_law_common.nd
  exact fn_ok F sc_n_law_common fun cdv A outer s H E hr => (gs_one (g_ret (d_callB (cr_max rfl) cd_maxL (by rfl) m_max (by decide +kernel) (da_cons (d_new (l_lc rfl nd (own := [("k", 2)]) (js := [2]) (i_rng2 (by rfl) m_range (da_cons d_int (da_cons d_int da_nil))) (by exact blkOk_by (N := ["one", "other", "k"]) (sc := defScope s_n_law_common) (by decide +kernel)) (by decide) (fun _ _ _ _ _ => by exact (t_name 2 nd rfl (.inl rfl))) (fun _ _ _ _ _ => by exact (pts_one (PW.pt (dw_and (dt_cmp (op_eqA hr.units) od_eq (d_bin op_modN od_mod (d_var 0 rfl (.inr (.inl rfl))) (d_var 2 rfl (.inl rfl))) d_int (nomark _)) (dw_and1 (dt_cmp (op_eqA hr.units) od_eq (d_bin op_modN od_mod (d_var 1 rfl (.inr (.inl rfl))) (d_var 2 rfl (.inl rfl))) d_int (nomark _))))))) (fun _ _ _ _ _ => by exact (d_var 2 rfl (.inl rfl))))) da_nil))))
/-! ### _law_meeting -/
abbrev s_n_law_meeting : Stmt := topS 27
theorem sc_n_law_meeting : FnScope ["one", "other", "first", "turn"] ["one", "other"] (defScope s_n_law_meeting) := ⟨rfl, rfl, rfl, by decide +kernel, rfl, by decide +kernel, by decide +kernel⟩
noncomputable def G_n_law_meeting : DG := (gSeq (gSet 2 (dCB bMax2 (dCons (dBin oIx (dVar 0) (dC (.int 0))) (dCons (dBin oIx (dVar 1) (dC (.int 0))) dNil))))
    (gSeq (gFor (srcRng2 (dCons (dVar 2) (dCons (dBin oAdd (dVar 2) (dBin oFdiv (dBin oMul (dBin oIx (dVar 0) (dC (.int 1))) (dBin oIx (dVar 1) (dC (.int 1)))) (dCall F_n_law_common [] (dCons (dBin oIx (dVar 0) (dC (.int 1))) (dCons (dBin oIx (dVar 1) (dC (.int 1))) dNil))))) dNil))) (nName 3) (gIf (dAndT (dTr (dCall F_n_law_plays [] (dCons (dVar 0) (dCons (dVar 3) dNil)))) (dTr (dCall F_n_law_plays [] (dCons (dVar 1) (dCons (dVar 3) dNil))))) (gRet (dVar 3)) gNext))
    (gRet (dC .non))))
noncomputable def F_n_law_meeting : Fn := fnG 4 G_n_law_meeting
theorem ok_n_law_meeting {f : Addr} {fd : FuncData} (F : FunD K "_law_meeting" "_law_meeting" (defArgs s_n_law_meeting) (defBody s_n_law_meeting) (defScope s_n_law_meeting) [] [] f fd) (c_n_law_common : DCall P w K mg base 1 "_law_common" 2 F_n_law_common []) (c_n_law_plays : DCall P w K mg base 1 "_law_plays" 2 F_n_law_plays []) (m_max : mg "max" = none) (m_range : mg "range" = none) :
    FnOk P w K mg base CX0 2 f fd ["one", "other"] (spD K 2 F_n_law_meeting) := by
  have nd := sc_n_law_meeting.nd
  exact fn_ok F sc_n_law_meeting fun cdv A outer s H E hr => (gs_cons (g_set 2 nd rfl (.inl rfl) (d_callB (call_max2 rfl) cd_max2 (by rfl) m_max (by decide +kernel) (da_cons (d_ix ix_seq od_ix (d_var 0 rfl (.inl rfl)) d_int (fun _ _ => rfl)) (da_cons (d_ix ix_seq od_ix (d_var 1 rfl (.inl rfl)) d_int (fun _ _ => rfl)) da_nil))))
    (gs_cons (g_for PassesOwn.never rfl (i_rng2 (by rfl) m_range (da_cons (d_var 2 rfl (.inl rfl)) (da_cons (d_bin op_addA od_add (d_var 2 rfl (.inl rfl)) (d_bin op_fdivA od_fdiv (d_bin op_mulB od_mul (d_ix ix_seq od_ix (d_var 0 rfl (.inl rfl)) d_int (fun _ _ => rfl)) (d_ix ix_seq od_ix (d_var 1 rfl (.inl rfl)) d_int (fun _ _ => rfl))) (c_call c_n_law_common (hr.mono (by omega)) (by rfl) (narg_cons (narg_cons narg_nil)) rfl (da_cons (d_ix ix_seq od_ix (d_var 0 rfl (.inl rfl)) d_int (fun _ _ => rfl)) (da_cons (d_ix ix_seq od_ix (d_var 1 rfl (.inl rfl)) d_int (fun _ _ => rfl)) da_nil))))) da_nil))) (t_name 3 nd rfl (.inl rfl)) (gs_one (g_if (PW.pt (dw_and (dt_tr (c_call c_n_law_plays (hr.mono (by omega)) (by rfl) (narg_cons (narg_cons narg_nil)) rfl (da_cons (d_var 0 rfl (.inl rfl)) (da_cons (d_var 3 rfl (.inl rfl)) da_nil))) (by intro _; rfl)) (dw_and1 (dt_tr (c_call c_n_law_plays (hr.mono (by omega)) (by rfl) (narg_cons (narg_cons narg_nil)) rfl (da_cons (d_var 1 rfl (.inl rfl)) (da_cons (d_var 3 rfl (.inl rfl)) da_nil))) (by intro _; rfl))))) (gs_one (g_ret (d_var 3 rfl (.inl rfl)))) gs_nil)))
    (gs_one (g_ret d_non))))
/-! ### _law_due -/
abbrev s_n_law_due : Stmt := topS 28
theorem sc_n_law_due : FnScope ["one", "other", "turn", "common", "past"] ["one", "other"] (defScope s_n_law_due) := ⟨rfl, rfl, rfl, by decide +kernel, rfl, by decide +kernel, by decide +kernel⟩
noncomputable def G_n_law_due : DG := (gSeq (gSet 2 (dCall F_n_law_meeting [] (dCons (dVar 0) (dCons (dVar 1) dNil))))
    (gSeq (gIf (dB (dBin oNotN (dVar 2) (dC .non))) (gRet (dTup (dCons (dC (.str "meets")) (dCons (dVar 2) dNil)))) gNext)
    (gSeq (gSet 3 (dCall F_n_law_common [] (dCons (dBin oIx (dVar 0) (dC (.int 1))) (dCons (dBin oIx (dVar 1) (dC (.int 1))) dNil))))
    (gSeq (gSet 4 (dBin oSub (dBin oIx (dVar 1) (dC (.int 0))) (dBin oIx (dVar 0) (dC (.int 0)))))
    (gRet (dTup (dCons (dC (.str "apart")) (dCons (dVar 3) (dCons (dBin oSub (dVar 4) (dBin oMul (dBin oFdiv (dVar 4) (dVar 3)) (dVar 3))) dNil)))))))))
noncomputable def F_n_law_due : Fn := fnG 5 G_n_law_due
theorem ok_n_law_due {f : Addr} {fd : FuncData} (F : FunD K "_law_due" "_law_due" (defArgs s_n_law_due) (defBody s_n_law_due) (defScope s_n_law_due) [] [] f fd) (c_n_law_meeting : DCall P w K mg base 2 "_law_meeting" 2 F_n_law_meeting []) (c_n_law_common : DCall P w K mg base 1 "_law_common" 2 F_n_law_common []) :
    FnOk P w K mg base CX0 3 f fd ["one", "other"] (spD K 2 F_n_law_due) := by
  have nd := sc_n_law_due.nd
  exact fn_ok F sc_n_law_due fun cdv A outer s H E hr => (gs_cons (g_set 2 nd rfl (.inl rfl) (c_call c_n_law_meeting (hr.mono (by omega)) (by rfl) (narg_cons (narg_cons narg_nil)) rfl (da_cons (d_var 0 rfl (.inl rfl)) (da_cons (d_var 1 rfl (.inl rfl)) da_nil))))
    (gs_cons (g_if (dt_cmp op_notN od_notN (d_var 2 rfl (.inl rfl)) d_non (nomark _)) (gs_one (g_ret (d_tup (da_cons d_str (da_cons (d_var 2 rfl (.inl rfl)) da_nil))))) gs_nil)
    (gs_cons (g_set 3 nd rfl (.inl rfl) (c_call c_n_law_common (hr.mono (by omega)) (by rfl) (narg_cons (narg_cons narg_nil)) rfl (da_cons (d_ix ix_seq od_ix (d_var 0 rfl (.inl rfl)) d_int (fun _ _ => rfl)) (da_cons (d_ix ix_seq od_ix (d_var 1 rfl (.inl rfl)) d_int (fun _ _ => rfl)) da_nil))))
    (gs_cons (g_set 4 nd rfl (.inl rfl) (d_bin op_sub od_sub (d_ix ix_seq od_ix (d_var 1 rfl (.inl rfl)) d_int (fun _ _ => rfl)) (d_ix ix_seq od_ix (d_var 0 rfl (.inl rfl)) d_int (fun _ _ => rfl))))
    (gs_one (g_ret (d_tup (da_cons d_str (da_cons (d_var 3 rfl (.inl rfl)) (da_cons (d_bin op_sub od_sub (d_var 4 rfl (.inl rfl)) (d_bin op_mulB od_mul (d_bin op_fdivA od_fdiv (d_var 4 rfl (.inl rfl)) (d_var 3 rfl (.inl rfl))) (d_var 3 rfl (.inl rfl)))) da_nil))))))))))
/-! ### _law_right -/
abbrev s_n_law_right : Stmt := topS 29
theorem sc_n_law_right : FnScope ["one", "other", "paper"] ["one", "other", "paper"] (defScope s_n_law_right) := ⟨rfl, rfl, rfl, by decide +kernel, rfl, by decide +kernel, by decide +kernel⟩
noncomputable def G_n_law_right : DG := (gSeq (gIf (dOrT (dNotT (dTr (dIsi "tuple" (dVar 2)))) (dB (dBin oEq (dCB bLen (dCons (dVar 2) dNil)) (dC (.int 0))))) (gRet (dC (.bl false))) gNext)
    (gSeq (gIf (dAndT (dTr (dCall F_n_law_word [] (dCons (dBin oIx (dVar 2) (dC (.int 0))) (dCons (dC (.str "meets")) dNil)))) (dB (dBin oEq (dCB bLen (dCons (dVar 2) dNil)) (dC (.int 2))))) (gSeq (gIf (dNotT (dTr (dCall F_n_law_whole [] (dCons (dBin oIx (dVar 2) (dC (.int 1))) (dCons (dC (.int 0)) (dCons (dC (.int 9999)) dNil)))))) (gRet (dC (.bl false))) gNext)
    (gRet (dAnd (dCall F_n_law_plays [] (dCons (dVar 0) (dCons (dBin oIx (dVar 2) (dC (.int 1))) dNil))) (dCall F_n_law_plays [] (dCons (dVar 1) (dCons (dBin oIx (dVar 2) (dC (.int 1))) dNil)))))) gNext)
    (gSeq (gIf (dAndT (dTr (dCall F_n_law_word [] (dCons (dBin oIx (dVar 2) (dC (.int 0))) (dCons (dC (.str "apart")) dNil)))) (dB (dBin oEq (dCB bLen (dCons (dVar 2) dNil)) (dC (.int 3))))) (gRet (dCall (F_n_law_same 8) [] (dCons (dVar 2) (dCons (dCall F_n_law_due [] (dCons (dVar 0) (dCons (dVar 1) dNil))) dNil)))) gNext)
    (gRet (dC (.bl false))))))
noncomputable def F_n_law_right : Fn := fnG 3 G_n_law_right
theorem ok_n_law_right {f : Addr} {fd : FuncData} (F : FunD K "_law_right" "_law_right" (defArgs s_n_law_right) (defBody s_n_law_right) (defScope s_n_law_right) [] [] f fd) (c_n_law_word : DCall P w K mg base 1 "_law_word" 2 F_n_law_word []) (c_n_law_whole : DCall P w K mg base 1 "_law_whole" 3 F_n_law_whole []) (c_n_law_plays : DCall P w K mg base 1 "_law_plays" 2 F_n_law_plays []) (c_n_law_same : DCall P w K mg base 9 "_law_same" 2 (F_n_law_same 8) []) (c_n_law_due : DCall P w K mg base 3 "_law_due" 2 F_n_law_due []) (m_isinstance : mg "isinstance" = none) (m_len : mg "len" = none) (m_tuple : mg "tuple" = none) :
    FnOk P w K mg base CX0 10 f fd ["one", "other", "paper"] (spD K 3 F_n_law_right) := by
  have nd := sc_n_law_right.nd
  exact fn_ok F sc_n_law_right fun cdv A outer s H E hr => (gs_cons (g_if (PW.pt (dw_or (dt_not (dt_tr (d_isi (T := "tuple") (by unfold isT; decide) (by rfl) m_isinstance (d_var 2 rfl (.inl rfl)) rfl (by rfl) m_tuple (by decide +kernel)) (by intro _; rfl))) (dw_or1 (dt_cmp (op_eqA hr.units) od_eq (d_callB call_len cd_len (by rfl) m_len (by decide +kernel) (da_cons (d_var 2 rfl (.inl rfl)) da_nil)) d_int (nomark _))))) (gs_one (g_ret d_bl)) gs_nil)
    (gs_cons (g_if (PW.pt (dw_and (dt_tr (c_call c_n_law_word (hr.mono (by omega)) (by rfl) (narg_cons (narg_cons narg_nil)) rfl (da_cons (d_ix ix_seq od_ix (d_var 2 rfl (.inl rfl)) d_int (fun _ _ => rfl)) (da_cons d_str da_nil))) (by intro _; rfl)) (dw_and1 (dt_cmp (op_eqA hr.units) od_eq (d_callB call_len cd_len (by rfl) m_len (by decide +kernel) (da_cons (d_var 2 rfl (.inl rfl)) da_nil)) d_int (nomark _))))) (gs_cons (g_if (dt_not (dt_tr (c_call c_n_law_whole (hr.mono (by omega)) (by rfl) (narg_cons (narg_cons (narg_cons narg_nil))) rfl (da_cons (d_ix ix_seq od_ix (d_var 2 rfl (.inl rfl)) d_int (fun _ _ => rfl)) (da_cons d_int (da_cons d_int da_nil)))) (by intro _; rfl))) (gs_one (g_ret d_bl)) gs_nil)
    (gs_one (g_ret (d_and (c_call c_n_law_plays (hr.mono (by omega)) (by rfl) (narg_cons (narg_cons narg_nil)) rfl (da_cons (d_var 0 rfl (.inl rfl)) (da_cons (d_ix ix_seq od_ix (d_var 2 rfl (.inl rfl)) d_int (fun _ _ => rfl)) da_nil))) (d_one (c_call c_n_law_plays (hr.mono (by omega)) (by rfl) (narg_cons (narg_cons narg_nil)) rfl (da_cons (d_var 1 rfl (.inl rfl)) (da_cons (d_ix ix_seq od_ix (d_var 2 rfl (.inl rfl)) d_int (fun _ _ => rfl)) da_nil)))))))) gs_nil)
    (gs_cons (g_if (PW.pt (dw_and (dt_tr (c_call c_n_law_word (hr.mono (by omega)) (by rfl) (narg_cons (narg_cons narg_nil)) rfl (da_cons (d_ix ix_seq od_ix (d_var 2 rfl (.inl rfl)) d_int (fun _ _ => rfl)) (da_cons d_str da_nil))) (by intro _; rfl)) (dw_and1 (dt_cmp (op_eqA hr.units) od_eq (d_callB call_len cd_len (by rfl) m_len (by decide +kernel) (da_cons (d_var 2 rfl (.inl rfl)) da_nil)) d_int (nomark _))))) (gs_one (g_ret (c_call c_n_law_same (hr.mono (by omega)) (by rfl) (narg_cons (narg_cons narg_nil)) rfl (da_cons (d_var 2 rfl (.inl rfl)) (da_cons (c_call c_n_law_due (hr.mono (by omega)) (by rfl) (narg_cons (narg_cons narg_nil)) rfl (da_cons (d_var 0 rfl (.inl rfl)) (da_cons (d_var 1 rfl (.inl rfl)) da_nil))) da_nil))))) gs_nil)
    (gs_one (g_ret d_bl)))))
/-! ### _law_pair -/
abbrev s_n_law_pair : Stmt := topS 30
theorem sc_n_law_pair : FnScope ["script", "kind", "first", "second", "one", "other", "common", "gap"] ["script"] (defScope s_n_law_pair) := ⟨rfl, rfl, rfl, by decide +kernel, rfl, by decide +kernel, by decide +kernel⟩
noncomputable def G_n_law_pair : DG := (gSeq (gSet 1 (dCall F_n_law_digits [] (dCons (dCall F_n_law_cell [] (dCons (dVar 0) (dCons (dC (.int 0)) dNil))) (dCons (dLst (dCons (dC (.int 3)) (dCons (dC (.int 12)) (dCons (dC (.int 3)) (dCons (dC (.int 2)) dNil))))) dNil))))
    (gSeq (gSet 2 (dCall F_n_law_digits [] (dCons (dCall F_n_law_cell [] (dCons (dVar 0) (dCons (dC (.int 1)) dNil))) (dCons (dLst (dCons (dC (.int 100)) (dCons (dC (.int 40)) (dCons (dC (.int 40)) (dCons (dC (.int 3)) dNil))))) dNil))))
    (gSeq (gSet 3 (dCall F_n_law_digits [] (dCons (dCall F_n_law_cell [] (dCons (dVar 0) (dCons (dC (.int 2)) dNil))) (dCons (dLst (dCons (dC (.int 100)) (dCons (dC (.int 40)) (dCons (dC (.int 40)) (dCons (dC (.int 3)) dNil))))) dNil))))
    (gSeq (gSet 4 (dLst (dCons (dBin oIx (dVar 2) (dC (.int 0))) (dCons (dBin oAdd (dC (.int 1)) (dBin oIx (dVar 2) (dC (.int 1)))) (dCons (dC (.int 0)) dNil)))))
    (gSeq (gSet 5 (dLst (dCons (dBin oIx (dVar 3) (dC (.int 0))) (dCons (dBin oAdd (dC (.int 1)) (dBin oIx (dVar 3) (dC (.int 1)))) (dCons (dC (.int 0)) dNil)))))
    (gSeq (gSet 6 (dBin oAdd (dC (.int 2)) (dBin oIx (dVar 1) (dC (.int 1)))))
    (gSeq (gIf (dB (dBin oGt (dBin oIx (dVar 1) (dC (.int 0))) (dC (.int 0)))) (gSeq (gSetIx (dBin oMul (dVar 6) (dBin oAdd (dC (.int 1)) (dBin oIx (dVar 2) (dC (.int 3))))) (dVar 4) (dC (.int 1)))
    (gSetIx (dBin oMul (dVar 6) (dBin oAdd (dC (.int 1)) (dBin oIx (dVar 3) (dC (.int 3))))) (dVar 5) (dC (.int 1)))) gNext)
    (gSeq (gSetIx (dBin oAdd (dC (.int 1)) (dBin oMod (dBin oIx (dVar 2) (dC (.int 2))) (dBin oIx (dVar 4) (dC (.int 1))))) (dVar 4) (dC (.int 2)))
    (gSeq (gSetIx (dBin oAdd (dC (.int 1)) (dBin oMod (dBin oIx (dVar 3) (dC (.int 2))) (dBin oIx (dVar 5) (dC (.int 1))))) (dVar 5) (dC (.int 2)))
    (gSeq (gIf (dB (dBin oEq (dBin oIx (dVar 1) (dC (.int 0))) (dC (.int 2)))) (gSeq (gIf (dB (dBin oEq (dBin oMod (dBin oSub (dBin oIx (dVar 5) (dC (.int 0))) (dBin oIx (dVar 4) (dC (.int 0)))) (dVar 6)) (dC (.int 0)))) (gSetIx (dBin oMod (dBin oAdd (dBin oIx (dVar 5) (dC (.int 0))) (dC (.int 1))) (dC (.int 100))) (dVar 5) (dC (.int 0))) gNext)
    (gSeq (gSet 7 (dBin oMod (dBin oSub (dBin oIx (dVar 5) (dC (.int 0))) (dBin oIx (dVar 4) (dC (.int 0)))) (dVar 6)))
    (gSeq (gIf (dB (dBin oEq (dVar 7) (dC (.int 0)))) (gSet 7 (dC (.int 1))) gNext)
    (gSeq (gSetIx (dVar 7) (dVar 4) (dC (.int 2)))
    (gSetIx (dBin oAdd (dBin oSub (dVar 6) (dVar 7)) (dBin oIx (dVar 1) (dC (.int 3)))) (dVar 5) (dC (.int 2))))))) gNext)
    (gRet (dTup (dCons (dCB bTup (dCons (dVar 4) dNil)) (dCons (dCB bTup (dCons (dVar 5) dNil)) dNil))))))))))))))
noncomputable def F_n_law_pair : Fn := fnG 8 G_n_law_pair
theorem ok_n_law_pair {f : Addr} {fd : FuncData} (F : FunD K "_law_pair" "_law_pair" (defArgs s_n_law_pair) (defBody s_n_law_pair) (defScope s_n_law_pair) [] [] f fd) (c_n_law_digits : DCall P w K mg base 1 "_law_digits" 2 F_n_law_digits []) (c_n_law_cell : DCall P w K mg base 1 "_law_cell" 2 F_n_law_cell []) (m_tuple : mg "tuple" = none) :
    FnOk P w K mg base CX0 2 f fd ["script"] (spD K 1 F_n_law_pair) := by
  have nd := sc_n_law_pair.nd
  exact fn_ok F sc_n_law_pair fun cdv A outer s H E hr => (gs_cons (g_set 1 nd rfl (.inl rfl) (c_call c_n_law_digits (hr.mono (by omega)) (by rfl) (narg_cons (narg_cons narg_nil)) rfl (da_cons (c_call c_n_law_cell (hr.mono (by omega)) (by rfl) (narg_cons (narg_cons narg_nil)) rfl (da_cons (d_var 0 rfl (.inl rfl)) (da_cons d_int da_nil))) (da_cons (d_lst (da_cons d_int (da_cons d_int (da_cons d_int (da_cons d_int da_nil))))) da_nil))))
    (gs_cons (g_set 2 nd rfl (.inl rfl) (c_call c_n_law_digits (hr.mono (by omega)) (by rfl) (narg_cons (narg_cons narg_nil)) rfl (da_cons (c_call c_n_law_cell (hr.mono (by omega)) (by rfl) (narg_cons (narg_cons narg_nil)) rfl (da_cons (d_var 0 rfl (.inl rfl)) (da_cons d_int da_nil))) (da_cons (d_lst (da_cons d_int (da_cons d_int (da_cons d_int (da_cons d_int da_nil))))) da_nil))))
    (gs_cons (g_set 3 nd rfl (.inl rfl) (c_call c_n_law_digits (hr.mono (by omega)) (by rfl) (narg_cons (narg_cons narg_nil)) rfl (da_cons (c_call c_n_law_cell (hr.mono (by omega)) (by rfl) (narg_cons (narg_cons narg_nil)) rfl (da_cons (d_var 0 rfl (.inl rfl)) (da_cons d_int da_nil))) (da_cons (d_lst (da_cons d_int (da_cons d_int (da_cons d_int (da_cons d_int da_nil))))) da_nil))))
    (gs_cons (g_set 4 nd rfl (.inl rfl) (d_lst (da_cons (d_ix ix_seq od_ix (d_var 2 rfl (.inl rfl)) d_int (fun _ _ => rfl)) (da_cons (d_bin op_addA od_add d_int (d_ix ix_seq od_ix (d_var 2 rfl (.inl rfl)) d_int (fun _ _ => rfl))) (da_cons d_int da_nil)))))
    (gs_cons (g_set 5 nd rfl (.inl rfl) (d_lst (da_cons (d_ix ix_seq od_ix (d_var 3 rfl (.inl rfl)) d_int (fun _ _ => rfl)) (da_cons (d_bin op_addA od_add d_int (d_ix ix_seq od_ix (d_var 3 rfl (.inl rfl)) d_int (fun _ _ => rfl))) (da_cons d_int da_nil)))))
    (gs_cons (g_set 6 nd rfl (.inl rfl) (d_bin op_addA od_add d_int (d_ix ix_seq od_ix (d_var 1 rfl (.inl rfl)) d_int (fun _ _ => rfl))))
    (gs_cons (g_if (dt_cmp op_gtA od_ord (d_ix ix_seq od_ix (d_var 1 rfl (.inl rfl)) d_int (fun _ _ => rfl)) d_int (nomark _)) (gs_cons (g_setIx (d_bin op_mulB od_mul (d_var 6 rfl (.inl rfl)) (d_bin op_addA od_add d_int (d_ix ix_seq od_ix (d_var 2 rfl (.inl rfl)) d_int (fun _ _ => rfl)))) (d_var 4 rfl (.inl rfl)) d_int)
    (gs_one (g_setIx (d_bin op_mulB od_mul (d_var 6 rfl (.inl rfl)) (d_bin op_addA od_add d_int (d_ix ix_seq od_ix (d_var 3 rfl (.inl rfl)) d_int (fun _ _ => rfl)))) (d_var 5 rfl (.inl rfl)) d_int))) gs_nil)
    (gs_cons (g_setIx (d_bin op_addA od_add d_int (d_bin op_modN od_mod (d_ix ix_seq od_ix (d_var 2 rfl (.inl rfl)) d_int (fun _ _ => rfl)) (d_ix ix_seq od_ix (d_var 4 rfl (.inl rfl)) d_int (fun _ _ => rfl)))) (d_var 4 rfl (.inl rfl)) d_int)
    (gs_cons (g_setIx (d_bin op_addA od_add d_int (d_bin op_modN od_mod (d_ix ix_seq od_ix (d_var 3 rfl (.inl rfl)) d_int (fun _ _ => rfl)) (d_ix ix_seq od_ix (d_var 5 rfl (.inl rfl)) d_int (fun _ _ => rfl)))) (d_var 5 rfl (.inl rfl)) d_int)
    (gs_cons (g_if (dt_cmp (op_eqA hr.units) od_eq (d_ix ix_seq od_ix (d_var 1 rfl (.inl rfl)) d_int (fun _ _ => rfl)) d_int (nomark _)) (gs_cons (g_if (dt_cmp (op_eqA hr.units) od_eq (d_bin op_modN od_mod (d_bin op_sub od_sub (d_ix ix_seq od_ix (d_var 5 rfl (.inl rfl)) d_int (fun _ _ => rfl)) (d_ix ix_seq od_ix (d_var 4 rfl (.inl rfl)) d_int (fun _ _ => rfl))) (d_var 6 rfl (.inl rfl))) d_int (nomark _)) (gs_one (g_setIx (d_bin op_modN od_mod (d_bin op_addA od_add (d_ix ix_seq od_ix (d_var 5 rfl (.inl rfl)) d_int (fun _ _ => rfl)) d_int) d_int) (d_var 5 rfl (.inl rfl)) d_int)) gs_nil)
    (gs_cons (g_set 7 nd rfl (.inl rfl) (d_bin op_modN od_mod (d_bin op_sub od_sub (d_ix ix_seq od_ix (d_var 5 rfl (.inl rfl)) d_int (fun _ _ => rfl)) (d_ix ix_seq od_ix (d_var 4 rfl (.inl rfl)) d_int (fun _ _ => rfl))) (d_var 6 rfl (.inl rfl))))
    (gs_cons (g_if (dt_cmp (op_eqA hr.units) od_eq (d_var 7 rfl (.inl rfl)) d_int (nomark _)) (gs_one (g_set 7 nd rfl (.inl rfl) d_int)) gs_nil)
    (gs_cons (g_setIx (d_var 7 rfl (.inl rfl)) (d_var 4 rfl (.inl rfl)) d_int)
    (gs_one (g_setIx (d_bin op_addA od_add (d_bin op_sub od_sub (d_var 6 rfl (.inl rfl)) (d_var 7 rfl (.inl rfl))) (d_ix ix_seq od_ix (d_var 1 rfl (.inl rfl)) d_int (fun _ _ => rfl))) (d_var 5 rfl (.inl rfl)) d_int)))))) gs_nil)
    (gs_one (g_ret (d_tup (da_cons (d_callTy call_tuple_of cd_tup (by rfl) m_tuple (by decide +kernel) (da_cons (d_var 4 rfl (.inl rfl)) da_nil)) (da_cons (d_callTy call_tuple_of cd_tup (by rfl) m_tuple (by decide +kernel) (da_cons (d_var 5 rfl (.inl rfl)) da_nil)) da_nil)))))))))))))))
/-! ### law -/
abbrev s_law : Stmt := topS 31
theorem sc_law : FnScope ["script", "one", "other", "start", "first", "second", "due", "papers", "round_size", "last", "turn", "paper"] ["script"] (defScope s_law) := ⟨rfl, rfl, rfl, by decide +kernel, rfl, by decide +kernel, by decide +kernel⟩
noncomputable def G_law : DG := (gSeq (gAsg (dCall F_n_law_pair [] (dCons (dVar 0) dNil)) (nTup 2 (nCons (nName 1) (nCons (nName 2) nNil))))
    (gSeq (gSet 3 (dBin oIx (dCall F_n_law_digits [] (dCons (dCall F_n_law_cell [] (dCons (dVar 0) (dCons (dC (.int 3)) dNil))) (dCons (dLst (dCons (dC (.int 100000)) dNil)) dNil))) (dC (.int 0))))
    (gSeq (gFor (srcOf (dLst (dCons (dTup (dCons (dVar 1) (dCons (dVar 2) dNil))) (dCons (dTup (dCons (dVar 2) (dCons (dVar 1) dNil))) dNil)))) (nTup 2 (nCons (nName 4) (nCons (nName 5) nNil))) (gSeq (gSet 6 (dCall F_n_law_due [] (dCons (dVar 4) (dCons (dVar 5) dNil))))
    (gSeq (gIf (dNotT (dTr (dCall (F_n_law_same 8) [] (dCons (dCall F_pair_report [] (dCons (dVar 4) (dCons (dVar 5) dNil))) (dCons (dVar 6) dNil))))) (gRet (dC (.bl false))) gNext)
    (gSeq (gSet 7 (dLst (dCons (dVar 6) (dCons (dTup (dCons (dC (.str "apart")) (dCons (dBin oIx (dVar 6) (dC (.int 1))) dNil))) (dCons (dTup (dCons (dC (.str "meets")) dNil)) (dCons (dTup (dCons (dC (.str "meets")) (dCons (dC (.int 0)) dNil))) (dCons (dTup dNil) (dCons (dC .non) (dCons (dC (.str "meets")) (dCons (dC (.int 5)) (dCons (dC (.bl true)) dNil)))))))))))
    (gSeq (gIf (dB (dBin oEq (dBin oIx (dVar 6) (dC (.int 0))) (dC (.str "meets")))) (gSeq (gSet 8 (dBin oFdiv (dBin oMul (dBin oIx (dVar 4) (dC (.int 1))) (dBin oIx (dVar 5) (dC (.int 1)))) (dCall F_n_law_common [] (dCons (dBin oIx (dVar 4) (dC (.int 1))) (dCons (dBin oIx (dVar 5) (dC (.int 1))) dNil)))))
    (gSeq (gSet 9 (dBin oAdd (dBin oIx (dVar 6) (dC (.int 1))) (dBin oMul (dBin oFdiv (dBin oSub (dC (.int 9999)) (dBin oIx (dVar 6) (dC (.int 1)))) (dVar 8)) (dVar 8))))
    (gSet 7 (dBin oAdd (dVar 7) (dLst (dCons (dTup (dCons (dC (.str "meets")) (dCons (dVar 9) dNil))) (dCons (dTup (dCons (dC (.str "meets")) (dCons (dBin oAdd (dVar 9) (dVar 8)) dNil))) (dCons (dTup (dCons (dC (.str "apart")) (dCons (dC (.int 1)) (dCons (dC (.int 0)) dNil)))) (dCons (dTup (dCons (dC (.str "meets")) (dCons (dBin oIx (dVar 6) (dC (.int 1))) (dCons (dC (.int 0)) dNil)))) dNil))))))))) (gSet 7 (dBin oAdd (dVar 7) (dLst (dCons (dTup (dCons (dC (.str "apart")) (dCons (dBin oIx (dVar 6) (dC (.int 1))) (dCons (dBin oAdd (dBin oIx (dVar 6) (dC (.int 2))) (dBin oIx (dVar 6) (dC (.int 1)))) dNil)))) (dCons (dTup (dCons (dC (.str "apart")) (dCons (dC (.int 1)) (dCons (dC (.int 0)) dNil)))) (dCons (dTup (dCons (dC (.str "meets")) (dCons (dBin oIx (dVar 4) (dC (.int 0))) (dCons (dBin oIx (dVar 5) (dC (.int 0))) dNil)))) dNil)))))))
    (gSeq (gFor (srcRng2 (dCons (dBin oIx (dVar 4) (dC (.int 0))) (dCons (dBin oAdd (dBin oIx (dVar 4) (dC (.int 0))) (dC (.int 20))) dNil))) (nName 10) (gDrop (dMeth oApp (dVar 7) (dCons (dTup (dCons (dC (.str "meets")) (dCons (dVar 10) dNil))) dNil))))
    (gFor (srcOf (dBin oAdd (dVar 7) (dCall F_n_law_some [] (dCons (dCall (F_n_law_bends 8) [] (dCons (dVar 6) dNil)) (dCons (dVar 3) (dCons (dC (.int 60)) dNil)))))) (nName 11) (gIf (dNotT (dTr (dCall (F_n_law_same 8) [] (dCons (dCall F_shows_pair_of_slots [] (dCons (dVar 4) (dCons (dVar 5) (dCons (dVar 11) dNil)))) (dCons (dCall F_n_law_right [] (dCons (dVar 4) (dCons (dVar 5) (dCons (dVar 11) dNil)))) dNil))))) (gRet (dC (.bl false))) gNext))))))))
    (gRet (dC (.bl true))))))
noncomputable def F_law : Fn := fnG 12 G_law
theorem ok_law {f : Addr} {fd : FuncData} (F : FunD K "law" "law" (defArgs s_law) (defBody s_law) (defScope s_law) [] [] f fd) (c_n_law_pair : DCall P w K mg base 2 "_law_pair" 1 F_n_law_pair []) (c_n_law_digits : DCall P w K mg base 1 "_law_digits" 2 F_n_law_digits []) (c_n_law_cell : DCall P w K mg base 1 "_law_cell" 2 F_n_law_cell []) (c_n_law_due : DCall P w K mg base 3 "_law_due" 2 F_n_law_due []) (c_n_law_same : DCall P w K mg base 9 "_law_same" 2 (F_n_law_same 8) []) (c_pair_report : DCall P w K mg base 4 "pair_report" 2 F_pair_report []) (c_n_law_common : DCall P w K mg base 1 "_law_common" 2 F_n_law_common []) (c_n_law_some : DCall P w K mg base 1 "_law_some" 3 F_n_law_some []) (c_n_law_bends : DCall P w K mg base 9 "_law_bends" 1 (F_n_law_bends 8) []) (c_shows_pair_of_slots : DCall P w K mg base 4 "shows_pair_of_slots" 3 F_shows_pair_of_slots []) (c_n_law_right : DCall P w K mg base 10 "_law_right" 3 F_n_law_right []) (m_range : mg "range" = none) :
    FnOk P w K mg base CX0 11 f fd ["script"] (spD K 1 F_law) := by
  have nd := sc_law.nd
  exact fn_ok F sc_law fun cdv A outer s H E hr => (gs_cons (g_asg (c_call c_n_law_pair (hr.mono (by omega)) (by rfl) (narg_cons narg_nil) rfl (da_cons (d_var 0 rfl (.inl rfl)) da_nil)) (t_tup rfl (ts_cons (t_name 1 nd rfl (.inl rfl)) (ts_cons (t_name 2 nd rfl (.inl rfl)) ts_nil))))
    (gs_cons (g_set 3 nd rfl (.inl rfl) (d_ix ix_seq od_ix (c_call c_n_law_digits (hr.mono (by omega)) (by rfl) (narg_cons (narg_cons narg_nil)) rfl (da_cons (c_call c_n_law_cell (hr.mono (by omega)) (by rfl) (narg_cons (narg_cons narg_nil)) rfl (da_cons (d_var 0 rfl (.inl rfl)) (da_cons d_int da_nil))) (da_cons (d_lst (da_cons d_int da_nil)) da_nil))) d_int (fun _ _ => rfl)))
    (gs_cons (g_for PassesOwn.never rfl (i_seq (d_lst (da_cons (d_tup (da_cons (d_var 1 rfl (.inl rfl)) (da_cons (d_var 2 rfl (.inl rfl)) da_nil))) (da_cons (d_tup (da_cons (d_var 2 rfl (.inl rfl)) (da_cons (d_var 1 rfl (.inl rfl)) da_nil))) da_nil)))) (t_tup rfl (ts_cons (t_name 4 nd rfl (.inl rfl)) (ts_cons (t_name 5 nd rfl (.inl rfl)) ts_nil))) (gs_cons (g_set 6 nd rfl (.inl rfl) (c_call c_n_law_due (hr.mono (by omega)) (by rfl) (narg_cons (narg_cons narg_nil)) rfl (da_cons (d_var 4 rfl (.inl rfl)) (da_cons (d_var 5 rfl (.inl rfl)) da_nil))))
    (gs_cons (g_if (dt_not (dt_tr (c_call c_n_law_same (hr.mono (by omega)) (by rfl) (narg_cons (narg_cons narg_nil)) rfl (da_cons (c_call c_pair_report (hr.mono (by omega)) (by rfl) (narg_cons (narg_cons narg_nil)) rfl (da_cons (d_var 4 rfl (.inl rfl)) (da_cons (d_var 5 rfl (.inl rfl)) da_nil))) (da_cons (d_var 6 rfl (.inl rfl)) da_nil))) (by intro _; rfl))) (gs_one (g_ret d_bl)) gs_nil)
    (gs_cons (g_set 7 nd rfl (.inl rfl) (d_lst (da_cons (d_var 6 rfl (.inl rfl)) (da_cons (d_tup (da_cons d_str (da_cons (d_ix ix_seq od_ix (d_var 6 rfl (.inl rfl)) d_int (fun _ _ => rfl)) da_nil))) (da_cons (d_tup (da_cons d_str da_nil)) (da_cons (d_tup (da_cons d_str (da_cons d_int da_nil))) (da_cons (d_tup da_nil) (da_cons d_non (da_cons d_str (da_cons d_int (da_cons d_bl da_nil)))))))))))
    (gs_cons (g_if (dt_cmp (op_eqA hr.units) od_eq (d_ix ix_seq od_ix (d_var 6 rfl (.inl rfl)) d_int (fun _ _ => rfl)) d_str (nomark _)) (gs_cons (g_set 8 nd rfl (.inl rfl) (d_bin op_fdivA od_fdiv (d_bin op_mulB od_mul (d_ix ix_seq od_ix (d_var 4 rfl (.inl rfl)) d_int (fun _ _ => rfl)) (d_ix ix_seq od_ix (d_var 5 rfl (.inl rfl)) d_int (fun _ _ => rfl))) (c_call c_n_law_common (hr.mono (by omega)) (by rfl) (narg_cons (narg_cons narg_nil)) rfl (da_cons (d_ix ix_seq od_ix (d_var 4 rfl (.inl rfl)) d_int (fun _ _ => rfl)) (da_cons (d_ix ix_seq od_ix (d_var 5 rfl (.inl rfl)) d_int (fun _ _ => rfl)) da_nil)))))
    (gs_cons (g_set 9 nd rfl (.inl rfl) (d_bin op_addA od_add (d_ix ix_seq od_ix (d_var 6 rfl (.inl rfl)) d_int (fun _ _ => rfl)) (d_bin op_mulB od_mul (d_bin op_fdivA od_fdiv (d_bin op_sub od_sub d_int (d_ix ix_seq od_ix (d_var 6 rfl (.inl rfl)) d_int (fun _ _ => rfl))) (d_var 8 rfl (.inl rfl))) (d_var 8 rfl (.inl rfl)))))
    (gs_one (g_set 7 nd rfl (.inl rfl) (d_bin op_addA od_add (d_var 7 rfl (.inl rfl)) (d_lst (da_cons (d_tup (da_cons d_str (da_cons (d_var 9 rfl (.inl rfl)) da_nil))) (da_cons (d_tup (da_cons d_str (da_cons (d_bin op_addA od_add (d_var 9 rfl (.inl rfl)) (d_var 8 rfl (.inl rfl))) da_nil))) (da_cons (d_tup (da_cons d_str (da_cons d_int (da_cons d_int da_nil)))) (da_cons (d_tup (da_cons d_str (da_cons (d_ix ix_seq od_ix (d_var 6 rfl (.inl rfl)) d_int (fun _ _ => rfl)) (da_cons d_int da_nil)))) da_nil)))))))))) (gs_one (g_set 7 nd rfl (.inl rfl) (d_bin op_addA od_add (d_var 7 rfl (.inl rfl)) (d_lst (da_cons (d_tup (da_cons d_str (da_cons (d_ix ix_seq od_ix (d_var 6 rfl (.inl rfl)) d_int (fun _ _ => rfl)) (da_cons (d_bin op_addA od_add (d_ix ix_seq od_ix (d_var 6 rfl (.inl rfl)) d_int (fun _ _ => rfl)) (d_ix ix_seq od_ix (d_var 6 rfl (.inl rfl)) d_int (fun _ _ => rfl))) da_nil)))) (da_cons (d_tup (da_cons d_str (da_cons d_int (da_cons d_int da_nil)))) (da_cons (d_tup (da_cons d_str (da_cons (d_ix ix_seq od_ix (d_var 4 rfl (.inl rfl)) d_int (fun _ _ => rfl)) (da_cons (d_ix ix_seq od_ix (d_var 5 rfl (.inl rfl)) d_int (fun _ _ => rfl)) da_nil)))) da_nil))))))))
    (gs_cons (g_for PassesOwn.never rfl (i_rng2 (by rfl) m_range (da_cons (d_ix ix_seq od_ix (d_var 4 rfl (.inl rfl)) d_int (fun _ _ => rfl)) (da_cons (d_bin op_addA od_add (d_ix ix_seq od_ix (d_var 4 rfl (.inl rfl)) d_int (fun _ _ => rfl)) d_int) da_nil))) (t_name 10 nd rfl (.inl rfl)) (gs_one (g_expr (d_app (d_var 7 rfl (.inl rfl)) (da_cons (d_tup (da_cons d_str (da_cons (d_var 10 rfl (.inl rfl)) da_nil))) da_nil)))))
    (gs_one (g_for PassesOwn.never rfl (i_seq (d_bin op_addA od_add (d_var 7 rfl (.inl rfl)) (c_call c_n_law_some (hr.mono (by omega)) (by rfl) (narg_cons (narg_cons (narg_cons narg_nil))) rfl (da_cons (c_call c_n_law_bends (hr.mono (by omega)) (by rfl) (narg_cons narg_nil) rfl (da_cons (d_var 6 rfl (.inl rfl)) da_nil)) (da_cons (d_var 3 rfl (.inl rfl)) (da_cons d_int da_nil)))))) (t_name 11 nd rfl (.inl rfl)) (gs_one (g_if (dt_not (dt_tr (c_call c_n_law_same (hr.mono (by omega)) (by rfl) (narg_cons (narg_cons narg_nil)) rfl (da_cons (c_call c_shows_pair_of_slots (hr.mono (by omega)) (by rfl) (narg_cons (narg_cons (narg_cons narg_nil))) rfl (da_cons (d_var 4 rfl (.inl rfl)) (da_cons (d_var 5 rfl (.inl rfl)) (da_cons (d_var 11 rfl (.inl rfl)) da_nil)))) (da_cons (c_call c_n_law_right (hr.mono (by omega)) (by rfl) (narg_cons (narg_cons (narg_cons narg_nil))) rfl (da_cons (d_var 4 rfl (.inl rfl)) (da_cons (d_var 5 rfl (.inl rfl)) (da_cons (d_var 11 rfl (.inl rfl)) da_nil)))) da_nil))) (by intro _; rfl))) (gs_one (g_ret d_bl)) gs_nil))))))))))
    (gs_one (g_ret d_bl)))))
end W
end

section
set_option Elab.async false
set_option linter.all false
set_option maxRecDepth 100000
set_option maxHeartbeats 1000000
/-! Plain lemmas over the data layer: what denotations give. -/
namespace DL
open PySem PySem.Spec PyProof.Rows L2

/-! ### reckoning -/
@[simp] theorem e_var (i : Nat) (ρ : DEnv) (st : Sto) : dVar i ρ st = match ρ[i]? with | some (some d) => some (d, st) | _ => none := rfl
@[simp] theorem e_c (d : D) (ρ : DEnv) (st : Sto) : dC d ρ st = some (d, st) := rfl
@[simp] theorem e_bin (o : D → D → Sto → Option (D × Sto)) (fa fb : DF) (ρ : DEnv) (st : Sto) : dBin o fa fb ρ st = (fa ρ st).bind fun p => (fb ρ p.2).bind fun q => o p.1 q.1 q.2 := rfl
@[simp] theorem e_un (o : D → Sto → Option (D × Sto)) (fa : DF) (ρ : DEnv) (st : Sto) : dUn o fa ρ st = (fa ρ st).bind fun p => o p.1 p.2 := rfl
@[simp] theorem e_dB (f : DF) (ρ : DEnv) (st : Sto) : dB f ρ st = (f ρ st).bind fun p => match p.1 with | .bl b => some (b, p.2) | _ => none := rfl
@[simp] theorem e_dTr (f : DF) (ρ : DEnv) (st : Sto) : dTr f ρ st = (f ρ st).bind fun p => (truD p.2 p.1).map fun b => (b, p.2) := rfl
@[simp] theorem e_dNotT (f : DFb) (ρ : DEnv) (st : Sto) : dNotT f ρ st = (f ρ st).map fun p => (!p.1, p.2) := rfl
@[simp] theorem e_dAndT (f g : DFb) (ρ : DEnv) (st : Sto) : dAndT f g ρ st = (f ρ st).bind fun p => if p.1 = true then g ρ p.2 else some (false, p.2) := rfl
@[simp] theorem e_dOrT (f g : DFb) (ρ : DEnv) (st : Sto) : dOrT f g ρ st = (f ρ st).bind fun p => if p.1 = true then some (true, p.2) else g ρ p.2 := rfl
@[simp] theorem e_dAnd (f g : DF) (ρ : DEnv) (st : Sto) : dAnd f g ρ st = (f ρ st).bind fun p => (truD p.2 p.1).bind fun b => if b = true then g ρ p.2 else some p := rfl
@[simp] theorem e_dOr (f g : DF) (ρ : DEnv) (st : Sto) : dOr f g ρ st = (f ρ st).bind fun p => (truD p.2 p.1).bind fun b => if b = true then some p else g ρ p.2 := rfl
@[simp] theorem e_dNot (f : DF) (ρ : DEnv) (st : Sto) : dNot f ρ st = (f ρ st).bind fun p => (truD p.2 p.1).map fun b => (.bl (!b), p.2) := rfl
@[simp] theorem e_dIfE (c : DFb) (f g : DF) (ρ : DEnv) (st : Sto) : dIfE c f g ρ st = (c ρ st).bind fun p => if p.1 = true then f ρ p.2 else g ρ p.2 := rfl
@[simp] theorem e_dNil (ρ : DEnv) (st : Sto) : dNil ρ st = some ([], st) := rfl
@[simp] theorem e_dCons (f : DF) (g : DFs) (ρ : DEnv) (st : Sto) : dCons f g ρ st = (f ρ st).bind fun p => (g ρ p.2).map fun q => (p.1 :: q.1, q.2) := rfl
@[simp] theorem e_dTup (f : DFs) (ρ : DEnv) (st : Sto) : dTup f ρ st = (f ρ st).bind fun p => if p.1.length ≤ 16777216 then some (.tup p.1, p.2) else none := rfl
@[simp] theorem e_dLst (f : DFs) (ρ : DEnv) (st : Sto) : dLst f ρ st = (f ρ st).bind fun p => if p.1.length ≤ 16777216 then some (.ref p.2.length, p.2 ++ [.lst p.1]) else none := rfl
@[simp] theorem e_dCB (o : List D → Sto → Option (D × Sto)) (f : DFs) (ρ : DEnv) (st : Sto) : dCB o f ρ st = (f ρ st).bind fun p => o p.1 p.2 := rfl
@[simp] theorem e_dCall (F : Fn) (dv : List D) (g : DFs) (ρ : DEnv) (st : Sto) : dCall F dv g ρ st = (g ρ st).bind fun p => F (p.1 ++ dv) p.2 := rfl
@[simp] theorem e_dChain (o o' : D → D → Sto → Option (D × Sto)) (fa fb fc : DF) (ρ : DEnv) (st : Sto) : dChain o o' fa fb fc ρ st = (fa ρ st).bind fun p => (fb ρ p.2).bind fun q => (o p.1 q.1 q.2).bind fun z => match z.1 with
  | .bl true => (fc ρ z.2).bind fun w => o' q.1 w.1 w.2
  | .bl false => some (.bl false, z.2)
  | _ => none := rfl
@[simp] theorem e_dIsi (T : String) (f : DF) (ρ : DEnv) (st : Sto) : dIsi T f ρ st = (f ρ st).bind fun p => match p.1 with
  | .ref n => if n < p.2.length then some (.bl (isiB T p.1), p.2) else none
  | d => some (.bl (isiB T d), p.2) := rfl
@[simp] theorem e_dNew (f : DLi) (ρ : DEnv) (st : Sto) : dNew f ρ st = (f ρ st).map fun p => (.ref p.2.length, p.2 ++ [.lst p.1]) := rfl
@[simp] theorem e_dOf (o : List D → Sto → Option (D × Sto)) (f : DLi) (ρ : DEnv) (st : Sto) : dOf o f ρ st = (f ρ st).bind fun p => o p.1 p.2 := rfl
@[simp] theorem e_tupN (ds : List D) (st : Sto) : oTupN ds st = some (.tup ds, st) := rfl
@[simp] theorem e_lenN (ds : List D) (st : Sto) : oLenN ds st = some (.int ds.length, st) := rfl
@[simp] theorem e_dSl (f : DF) (l h : DO) (ρ : DEnv) (st : Sto) : dSl f l h ρ st = (f ρ st).bind fun p => (l ρ p.2).bind fun a => (h ρ a.2).bind fun b => oSl a.1 b.1 p.1 b.2 := rfl
@[simp] theorem e_oNo (ρ : DEnv) (st : Sto) : oNo ρ st = some (none, st) := rfl
@[simp] theorem e_oPart (f : DF) (ρ : DEnv) (st : Sto) : oPart f ρ st = (f ρ st).bind fun p => match p.1 with | .int i => some (some i, p.2) | _ => none := rfl
@[simp] theorem e_dMeth (o : D → List D → Sto → Option (D × Sto)) (f : DF) (g : DFs) (ρ : DEnv) (st : Sto) : dMeth o f g ρ st = (f ρ st).bind fun p => if isLstD p.2 p.1 = true then (g ρ p.2).bind fun q => o p.1 q.1 q.2 else none := rfl
@[simp] theorem e_srcOf (f : DF) (ρ : DEnv) (st : Sto) : srcOf f ρ st = (f ρ st).bind fun p => match p.1 with
  | .tup ds => some (.seq ds, p.2)
  | .ref n => if n < p.2.length then some (.cell n, p.2) else none
  | .fz ds => some (.seq ds, p.2)
  | _ => none := rfl
@[simp] theorem e_rng1 (f : DFs) (ρ : DEnv) (st : Sto) : srcRng1 f ρ st = (f ρ st).bind fun p => match p.1 with
  | [.int j] => if RngOk j then some (.seq (rngD 0 j.toNat), p.2) else none
  | _ => none := rfl
@[simp] theorem e_rng2 (f : DFs) (ρ : DEnv) (st : Sto) : srcRng2 f ρ st = (f ρ st).bind fun p => match p.1 with
  | [.int i, .int j] => if RngOk i ∧ RngOk j then some (.seq (rngD i (j - i).toNat), p.2) else none
  | _ => none := rfl
@[simp] theorem e_srcNew (f : DLi) (ρ : DEnv) (st : Sto) : srcNew f ρ st = (f ρ st).map fun p => (.seq p.1, p.2) := rfl
@[simp] theorem e_items_seq (st : Sto) (ds : List D) : (Src.seq ds).items st = some ds := rfl
@[simp] theorem e_items_cell (st : Sto) (n : Nat) : (Src.cell n).items st = match st[n]? with | some (.lst xs) => some xs | none => none := rfl
@[simp] theorem e_next (ρ : DEnv) (st : Sto) : gNext ρ st = some (.nx, ρ, st) := rfl
@[simp] theorem e_brk (ρ : DEnv) (st : Sto) : gBrk ρ st = some (.bk, ρ, st) := rfl
@[simp] theorem e_cont (ρ : DEnv) (st : Sto) : gCont ρ st = some (.ct, ρ, st) := rfl
@[simp] theorem e_seq (g1 g2 : DG) (ρ : DEnv) (st : Sto) : gSeq g1 g2 ρ st = (g1 ρ st).bind fun r => match r.1 with | .nx => g2 r.2.1 r.2.2 | _ => some r := rfl
@[simp] theorem e_if (c : DFb) (g1 g2 : DG) (ρ : DEnv) (st : Sto) : gIf c g1 g2 ρ st = (c ρ st).bind fun p => if p.1 = true then g1 ρ p.2 else g2 ρ p.2 := rfl
@[simp] theorem e_ret (f : DF) (ρ : DEnv) (st : Sto) : gRet f ρ st = (f ρ st).map fun p => (.rt p.1, ρ, p.2) := rfl
@[simp] theorem e_drop (f : DF) (ρ : DEnv) (st : Sto) : gDrop f ρ st = (f ρ st).map fun p => (.nx, ρ, p.2) := rfl
@[simp] theorem e_set (i : Nat) (f : DF) (ρ : DEnv) (st : Sto) : gSet i f ρ st = (f ρ st).map fun p => (.nx, ρ.set i (some p.1), p.2) := rfl
@[simp] theorem e_asg (f : DF) (g : D → DEnv → Option DEnv) (ρ : DEnv) (st : Sto) : gAsg f g ρ st = (f ρ st).bind fun p => (g p.1 ρ).map fun ρ' => (.nx, ρ', p.2) := rfl
@[simp] theorem e_par (i j : Nat) (f : DFs) (ρ : DEnv) (st : Sto) : gPar i j f ρ st = (f ρ st).bind fun p => match p.1 with
  | [a, b] => some (.nx, (ρ.set i (some a)).set j (some b), p.2)
  | _ => none := rfl
@[simp] theorem e_nName (i : Nat) (d : D) (ρ : DEnv) : nName i d ρ = some (ρ.set i (some d)) := rfl
@[simp] theorem e_nNil (ρ : DEnv) : nNil [] ρ = some ρ := rfl
@[simp] theorem e_nCons (g : D → DEnv → Option DEnv) (gs : List D → DEnv → Option DEnv) (d : D) (r : List D) (ρ : DEnv) : nCons g gs (d :: r) ρ = (g d ρ).bind fun ρ' => gs r ρ' := rfl
@[simp] theorem e_nTup (n : Nat) (gs : List D → DEnv → Option DEnv) (ds : List D) (ρ : DEnv) : nTup n gs (.tup ds) ρ = if ds.length = n then gs ds ρ else none := rfl
@[simp] theorem e_for (it : DI) (n : D → DEnv → Option DEnv) (g : DG) (ρ : DEnv) (st : Sto) : gFor it n g ρ st = (it ρ st).bind fun p => (p.1.items p.2).bind fun ds => loopG p.1 n g ds ρ p.2 := rfl
@[simp] theorem e_lc (it : DI) (n : D → DEnv → Option DEnv) (tt : DFb) (el : DF) (own : List Nat) (ρ : DEnv) (st : Sto) : lLc it n tt el own ρ st = (it ρ st).bind fun p => (p.1.items p.2).bind fun ds => (lcItems p.1 n tt el ds (wipeD ρ own) p.2).bind fun q =>
  if q.1.length ≤ 16777216 then some q else none := rfl
@[simp] theorem e_wipe_nil (ρ : DEnv) : wipeD ρ [] = ρ := rfl
@[simp] theorem e_wipe_cons (ρ : DEnv) (v : Nat) (vs : List Nat) : wipeD ρ (v :: vs) = (wipeD ρ vs).set v none := rfl
@[simp] theorem e_yes (ρ : DEnv) (st : Sto) : tYesD ρ st = some (true, st) := rfl
@[simp] theorem same_seq (ds : List D) (st st2 : Sto) : sameSrc (.seq ds) st st2 = true := rfl
theorem same_cell {n : Nat} {st st2 : Sto} (h : st2[n]? = st[n]?) : sameSrc (.cell n) st st2 = true := @decide_eq_true _ (Classical.propDecidable _) h
@[simp] theorem same_self (src : Src) (st : Sto) : sameSrc src st st = true := by
  cases src with
  | seq ds => rfl
  | cell n => exact same_cell rfl
/-! ### operators -/
@[simp] theorem o_add_int (i j : Int) (st : Sto) : oAdd (.int i) (.int j) st = some (.int (i + j), st) := rfl
@[simp] theorem o_add_str (x y : Str) (st : Sto) : oAdd (.str x) (.str y) st = if x.length + y.length ≤ 16777216 then some (.str (x ++ y), st) else none := rfl
@[simp] theorem o_add_tup (xs ys : List D) (st : Sto) : oAdd (.tup xs) (.tup ys) st = if xs.length + ys.length ≤ 16777216 then some (.tup (xs ++ ys), st) else none := rfl
@[simp] theorem o_add_ref (n m : Nat) (st : Sto) : oAdd (.ref n) (.ref m) st = match st[n]?, st[m]? with
    | some (.lst xs), some (.lst ys) => if xs.length + ys.length ≤ 16777216 then some (.ref st.length, st ++ [.lst (xs ++ ys)]) else none
    | _, _ => none := rfl
@[simp] theorem o_sub (i j : Int) (st : Sto) : oSub (.int i) (.int j) st = some (.int (i - j), st) := rfl
@[simp] theorem o_mul (i j : Int) (st : Sto) : oMul (.int i) (.int j) st = if MulOk i j then some (.int (i * j), st) else none := rfl
@[simp] theorem o_fdiv (i j : Int) (st : Sto) : oFdiv (.int i) (.int j) st = if DivOk j then some (.int (i.fdiv j), st) else none := rfl
@[simp] theorem o_mod (i j : Int) (st : Sto) : oMod (.int i) (.int j) st = if j ≠ 0 then some (.int (i.fmod j), st) else none := rfl
@[simp] theorem o_pow (i j : Int) (st : Sto) : oPow (.int i) (.int j) st = if 0 ≤ j ∧ j ≤ 1000000 ∧ i.natAbs < 2 ^ 64 then some (.int (i ^ j.toNat), st) else none := rfl
@[simp] theorem o_neg (i : Int) (st : Sto) : oNeg (.int i) st = some (.int (-i), st) := rfl
@[simp] theorem o_ord_int (p : Int → Int → Bool) (c : List Nat → List Nat → Bool) (i j : Int) (st : Sto) : oOrd p c (.int i) (.int j) st = some (.bl (p i j), st) := rfl
@[simp] theorem o_ord_str (p : Int → Int → Bool) (c : List Nat → List Nat → Bool) (x y : Str) (st : Sto) : oOrd p c (.str x) (.str y) st = some (.bl (c x.cps.toList y.cps.toList), st) := rfl
@[simp] theorem o_eq_int (i j : Int) (st : Sto) : oEq (.int i) (.int j) st = some (.bl (i == j), st) := rfl
@[simp] theorem o_ne_int (i j : Int) (st : Sto) : oNe (.int i) (.int j) st = some (.bl (!(i == j)), st) := rfl
@[simp] theorem o_eq_str (i j : Str) (st : Sto) : oEq (.str i) (.str j) st = some (.bl (i == j), st) := rfl
@[simp] theorem o_ne_str (i j : Str) (st : Sto) : oNe (.str i) (.str j) st = some (.bl (!(i == j)), st) := rfl
@[simp] theorem o_eq_bl (i j : Bool) (st : Sto) : oEq (.bl i) (.bl j) st = some (.bl (i == j), st) := rfl
@[simp] theorem o_ne_bl (i j : Bool) (st : Sto) : oNe (.bl i) (.bl j) st = some (.bl (!(i == j)), st) := rfl
@[simp] theorem o_isN (a : D) (st : Sto) : oIsN a .non st = some (.bl (isNonD a), st) := rfl
@[simp] theorem o_notN (a : D) (st : Sto) : oNotN a .non st = some (.bl (!isNonD a), st) := rfl
@[simp] theorem non_non : isNonD .non = true := rfl
@[simp] theorem non_int (i : Int) : isNonD (.int i) = false := rfl
@[simp] theorem non_bl (i : Bool) : isNonD (.bl i) = false := rfl
@[simp] theorem non_str (i : Str) : isNonD (.str i) = false := rfl
@[simp] theorem non_tup (i : List D) : isNonD (.tup i) = false := rfl
@[simp] theorem non_ref (i : Nat) : isNonD (.ref i) = false := rfl
@[simp] theorem o_ix_tup (xs : List D) (i : Int) (st : Sto) : oIx (.tup xs) (.int i) st = (atI xs i).map fun d => (d, st) := rfl
@[simp] theorem o_ix_fz (xs : List D) (i : Int) (st : Sto) : oIx (.fz xs) (.int i) st = (atI xs i).map fun d => (d, st) := rfl
@[simp] theorem o_ix_ref (n : Nat) (i : Int) (st : Sto) : oIx (.ref n) (.int i) st = (seqD st (.ref n)).bind fun ds => (atI ds i).map fun d => (d, st) := rfl
@[simp] theorem seq_tup (st : Sto) (xs : List D) : seqD st (.tup xs) = some xs := rfl
@[simp] theorem seq_fz (st : Sto) (xs : List D) : seqD st (.fz xs) = some xs := rfl
@[simp] theorem seq_ref (st : Sto) (n : Nat) : seqD st (.ref n) = match st[n]? with | some (.lst xs) => some xs | none => none := rfl
@[simp] theorem lstD_fz (st : Sto) (xs : List D) : lstD st (.fz xs) = some xs := rfl
@[simp] theorem lstD_ref (st : Sto) (n : Nat) : lstD st (.ref n) = match st[n]? with | some (.lst xs) => some xs | none => none := rfl
@[simp] theorem sl_tup' (xs : List D) (lo hi : Option Int) (st : Sto) : oSl lo hi (.tup xs) st = some (.tup (cutD xs lo hi), st) := rfl
@[simp] theorem sl_ref' (n : Nat) (lo hi : Option Int) (st : Sto) : oSl lo hi (.ref n) st = match st[n]? with | some (.lst xs) => some (.ref st.length, st ++ [.lst (cutD xs lo hi)]) | none => none := rfl
@[simp] theorem tru_non (st : Sto) : truD st .non = some false := rfl
@[simp] theorem tru_bl (st : Sto) (b : Bool) : truD st (.bl b) = some b := rfl
@[simp] theorem tru_int (st : Sto) (i : Int) : truD st (.int i) = some (i != 0) := rfl
@[simp] theorem tru_tup (st : Sto) (xs : List D) : truD st (.tup xs) = some (!xs.isEmpty) := rfl
@[simp] theorem tru_fz (st : Sto) (xs : List D) : truD st (.fz xs) = some (!xs.isEmpty) := rfl
@[simp] theorem tru_ref (st : Sto) (n : Nat) : truD st (.ref n) = match st[n]? with | some (.lst xs) => some (!xs.isEmpty) | none => none := rfl
@[simp] theorem b_len_tup (xs : List D) (st : Sto) : bLen [.tup xs] st = some (.int xs.length, st) := rfl
@[simp] theorem b_len_fz (xs : List D) (st : Sto) : bLen [.fz xs] st = some (.int xs.length, st) := rfl
@[simp] theorem b_len_ref (n : Nat) (st : Sto) : bLen [.ref n] st = (seqD st (.ref n)).map fun ds => (.int ds.length, st) := rfl
theorem abs_if (i : Int) : (if i < 0 then -i else i) = ((i.natAbs : Nat) : Int) := by split <;> omega
@[simp] theorem b_abs (i : Int) (st : Sto) : bAbs [.int i] st = some (.int (i.natAbs : Nat), st) := by
  rw [← abs_if]; rfl
@[simp] theorem b_max2 (i j : Int) (st : Sto) : bMax2 [.int i, .int j] st = some (.int (if j > i then j else i), st) := rfl
@[simp] theorem b_min2 (i j : Int) (st : Sto) : bMin2 [.int i, .int j] st = some (.int (if j < i then j else i), st) := rfl
@[simp] theorem b_int (i : Int) (st : Sto) : bInt [.int i] st = some (.int i, st) := rfl
@[simp] theorem b_tup (d : D) (st : Sto) : bTup [d] st = (seqD st d).map fun ds => (.tup ds, st) := rfl
@[simp] theorem b_list (d : D) (st : Sto) : bList [d] st = (seqD st d).map fun ds => (.ref st.length, st ++ [.lst ds]) := rfl
@[simp] theorem isLst_ref (st : Sto) (n : Nat) : isLstD st (.ref n) = decide (n < st.length) := rfl
@[simp] theorem m_app (n : Nat) (y : D) (st : Sto) : oApp (.ref n) [y] st = match st[n]? with
    | some (.lst xs) => if xs.length < 16777216 then some (.non, st.set n (.lst (xs ++ [y]))) else none
    | none => none := rfl
@[simp] theorem m_popAt (n : Nat) (i : Int) (st : Sto) : oPopAt (.ref n) [.int i] st = match st[n]? with
    | some (.lst xs) => if -(2 ^ 63) ≤ i ∧ i < 2 ^ 63 then (seqIndex? i xs.length).bind fun k => (xs[k]?).map fun y => (y, st.set n (.lst (xs.eraseIdx k))) else none
    | none => none := rfl
@[simp] theorem isi_non (T : String) : isiB T .non = false := rfl
@[simp] theorem isi_bl (T : String) (b : Bool) : isiB T (.bl b) = (T == "bool" || T == "int") := rfl
@[simp] theorem isi_int (T : String) (b : Int) : isiB T (.int b) = (T == "int") := rfl
@[simp] theorem isi_str (T : String) (b : Str) : isiB T (.str b) = (T == "str") := rfl
@[simp] theorem isi_tup (T : String) (b : List D) : isiB T (.tup b) = (T == "tuple") := rfl
@[simp] theorem startD_e (N : Nat) (ds : List D) : startD N ds = ds.map some ++ List.replicate (N - ds.length) none := rfl
theorem atI_0 {α : Type} (x : α) (xs : List α) : atI (x :: xs) 0 = some x := by
  have : ixN (x :: xs).length 0 = some 0 := by unfold ixN; rw [if_pos (by omega), if_pos (by rw [List.length_cons]; omega)]; rfl
  unfold atI
  rw [this]; rfl
theorem atI_nat' {α : Type} (xs : List α) (k : Nat) : atI xs (k : Int) = xs[k]? := by
  unfold atI ixN
  rw [if_pos (by omega)]
  by_cases h : k < xs.length
  · rw [if_pos (by omega)]; simp
  · rw [if_neg (by omega), List.getElem?_eq_none (by omega)]; rfl
theorem atI_ofNat {α : Type} (xs : List α) (k : Nat) : atI xs (OfNat.ofNat k : Int) = xs[k]? := atI_nat' xs k
@[simp] theorem atI_0' {α : Type} (xs : List α) : atI xs 0 = xs[0]? := atI_nat' xs 0
@[simp] theorem atI_1' {α : Type} (xs : List α) : atI xs 1 = xs[1]? := atI_nat' xs 1
@[simp] theorem atI_2' {α : Type} (xs : List α) : atI xs 2 = xs[2]? := atI_nat' xs 2
@[simp] theorem atI_3' {α : Type} (xs : List α) : atI xs 3 = xs[3]? := atI_nat' xs 3
@[simp] theorem atI_4' {α : Type} (xs : List α) : atI xs 4 = xs[4]? := atI_nat' xs 4
@[simp] theorem atI_5' {α : Type} (xs : List α) : atI xs 5 = xs[5]? := atI_nat' xs 5
@[simp] theorem atI_6' {α : Type} (xs : List α) : atI xs 6 = xs[6]? := atI_nat' xs 6
@[simp] theorem atI_7' {α : Type} (xs : List α) : atI xs 7 = xs[7]? := atI_nat' xs 7
@[simp] theorem atI_8' {α : Type} (xs : List α) : atI xs 8 = xs[8]? := atI_nat' xs 8
@[simp] theorem atI_9' {α : Type} (xs : List α) : atI xs 9 = xs[9]? := atI_nat' xs 9
@[simp] theorem atI_10' {α : Type} (xs : List α) : atI xs 10 = xs[10]? := atI_nat' xs 10
@[simp] theorem atI_11' {α : Type} (xs : List α) : atI xs 11 = xs[11]? := atI_nat' xs 11
theorem atI_neg1 {α : Type} (xs : List α) (h : xs ≠ []) : atI xs (-1) = xs[xs.length - 1]? := by
  have hl : 0 < xs.length := List.length_pos_iff.mpr h
  unfold atI ixN
  rw [if_neg (by omega), if_pos (by omega)]
  have : ((-1 : Int) + (xs.length : Int)).toNat = xs.length - 1 := by omega
  rw [this]; rfl
/-! ### what a call leaves -/
theorem gc_eq {F : Fn} {ds : List D} {st st' : Sto} {d : D} (h : F ds st = some (d, st')) (ok : dropOk st.length st d st') : gcFn F ds st = some (d, st'.take st.length) := by
  unfold gcFn
  rw [h, Option.map_some, if_pos ok]
theorem gc_same {F : Fn} {ds : List D} {st : Sto} {d : D} (h : F ds st = some (d, st)) : gcFn F ds st = some (d, st) := by
  unfold gcFn
  rw [h, Option.map_some]
  split
  · rw [List.take_length]
  · rfl
theorem gc_drop {F : Fn} {ds : List D} {st g : Sto} {d : D} (h : F ds st = some (d, st ++ g)) (hb : belowD st.length d = true) : gcFn F ds st = some (d, st) := by
  rw [gc_eq h ⟨by rw [List.length_append]; omega, hb, fun i hi => .inl (List.getElem?_append_left hi)⟩, List.take_left]
/-- no references in it -/
def pureD (d : D) : Bool := belowD 0 d
mutual
theorem below_mono {L M : Nat} (h : L ≤ M) : ∀ d : D, belowD L d = true → belowD M d = true
  | .non, _ => by simp [belowD]
  | .bl _, _ => by simp [belowD]
  | .int _, _ => by simp [belowD]
  | .str _, _ => by simp [belowD]
  | .tup xs, b => by simp only [belowD] at b ⊢; exact belows_mono h xs b
  | .fz xs, b => by simp only [belowD] at b ⊢; exact belows_mono h xs b
  | .ref n, b => by simp only [belowD, decide_eq_true_eq] at b ⊢; omega
theorem belows_mono {L M : Nat} (h : L ≤ M) : ∀ d : List D, belowDs L d = true → belowDs M d = true
  | [], _ => by simp [belowDs]
  | d :: ds, b => by
    simp only [belowDs, Bool.and_eq_true] at b ⊢
    exact ⟨below_mono h d b.1, belows_mono h ds b.2⟩
end
theorem pure_below {d : D} {L : Nat} (h : pureD d = true) : belowD L d = true := below_mono (Nat.zero_le _) d h
theorem belowDs_iff {L : Nat} : ∀ ds : List D, belowDs L ds = true ↔ ∀ d ∈ ds, belowD L d = true
  | [] => by simp [belowDs]
  | d :: ds => by simp [belowDs, belowDs_iff ds]
/-- from a body's end to the def's value -/
theorem fn_same {N : Nat} {g : DG} {ds : List D} {st : Sto} {d : D} {ρ : DEnv} (h : g (startD N ds) st = some (.rt d, ρ, st)) : fnG N g ds st = some (d, st) := gc_same (by unfold fnBody; rw [h]; rfl)
theorem fn_drop {N : Nat} {g : DG} {ds : List D} {st gr : Sto} {d : D} {ρ : DEnv} (h : g (startD N ds) st = some (.rt d, ρ, st ++ gr)) (hb : belowD st.length d = true) : fnG N g ds st = some (d, st) := gc_drop (by unfold fnBody; rw [h]; rfl) hb
theorem fn_same' {N : Nat} {g : DG} {ds : List D} {st : Sto} {d : D} (h : (g (startD N ds) st).map (fun r => (r.1, r.2.2)) = some (.rt d, st)) : fnG N g ds st = some (d, st) := by
  obtain ⟨r, h1, h2⟩ := Option.map_eq_some_iff.mp h
  obtain ⟨fl, ρ, st'⟩ := r
  cases h2
  exact fn_same h1
theorem fn_drop' {N : Nat} {g : DG} {ds : List D} {st gr : Sto} {d : D} (h : (g (startD N ds) st).map (fun r => (r.1, r.2.2)) = some (.rt d, st ++ gr)) (hb : belowD st.length d = true) : fnG N g ds st = some (d, st) := by
  obtain ⟨r, h1, h2⟩ := Option.map_eq_some_iff.mp h
  obtain ⟨fl, ρ, st'⟩ := r
  cases h2
  exact fn_drop h1 hb
theorem step {g1 g2 : DG} {ρ ρ1 : DEnv} {st st1 : Sto} {r : Option (Fl × DEnv × Sto)} (h1 : g1 ρ st = some (.nx, ρ1, st1)) (h2 : g2 ρ1 st1 = r) : gSeq g1 g2 ρ st = r := by
  rw [e_seq, h1]
  exact h2
theorem step_rt {g1 g2 : DG} {ρ ρ1 : DEnv} {st st1 : Sto} {d : D} (h1 : g1 ρ st = some (.rt d, ρ1, st1)) : gSeq g1 g2 ρ st = some (.rt d, ρ1, st1) := by
  rw [e_seq, h1] <;> rfl
theorem e_for' {it : DI} {n : D → DEnv → Option DEnv} {g : DG} {ρ : DEnv} {st st1 : Sto} {src : Src} {ds : List D} {r : Option (Fl × DEnv × Sto)} (h1 : it ρ st = some (src, st1)) (h2 : src.items st1 = some ds) (h3 : loopG src n g ds ρ st1 = r) : gFor it n g ρ st = r := by
  rw [e_for, h1, Option.bind_some, h2, Option.bind_some]
  exact h3
/-! ### loops -/
@[simp] theorem loop_nil (src : Src) (n : D → DEnv → Option DEnv) (g : DG) (ρ : DEnv) (st : Sto) : loopG src n g [] ρ st = some (.nx, ρ, st) := rfl
theorem loop_cons (src : Src) (n : D → DEnv → Option DEnv) (g : DG) (d : D) (r : List D) (ρ : DEnv) (st : Sto) : loopG src n g (d :: r) ρ st = (n d ρ).bind fun ρ1 => (g ρ1 st).bind fun q => match q.1 with
    | .nx => if sameSrc src st q.2.2 = true then loopG src n g r q.2.1 q.2.2 else none
    | .ct => if sameSrc src st q.2.2 = true then loopG src n g r q.2.1 q.2.2 else none
    | .bk => some (.nx, q.2.1, q.2.2)
    | .rt d => some (.rt d, q.2.1, q.2.2) := rfl
theorem loop_nx {src : Src} {n : D → DEnv → Option DEnv} {g : DG} {d : D} {r : List D} {ρ ρ1 ρ2 : DEnv} {st st2 : Sto} (h1 : n d ρ = some ρ1) (h2 : g ρ1 st = some (.nx, ρ2, st2)) (h3 : sameSrc src st st2 = true) :
    loopG src n g (d :: r) ρ st = loopG src n g r ρ2 st2 := by
  rw [loop_cons, h1, Option.bind_some, h2, Option.bind_some]
  simp [h3]
theorem loop_ct {src : Src} {n : D → DEnv → Option DEnv} {g : DG} {d : D} {r : List D} {ρ ρ1 ρ2 : DEnv} {st st2 : Sto} (h1 : n d ρ = some ρ1) (h2 : g ρ1 st = some (.ct, ρ2, st2)) (h3 : sameSrc src st st2 = true) :
    loopG src n g (d :: r) ρ st = loopG src n g r ρ2 st2 := by
  rw [loop_cons, h1, Option.bind_some, h2, Option.bind_some]
  simp [h3]
theorem loop_rt {src : Src} {n : D → DEnv → Option DEnv} {g : DG} {d v : D} {r : List D} {ρ ρ1 ρ2 : DEnv} {st st2 : Sto} (h1 : n d ρ = some ρ1) (h2 : g ρ1 st = some (.rt v, ρ2, st2)) :
    loopG src n g (d :: r) ρ st = some (.rt v, ρ2, st2) := by
  rw [loop_cons, h1, Option.bind_some, h2, Option.bind_some]
theorem loop_bk {src : Src} {n : D → DEnv → Option DEnv} {g : DG} {d : D} {r : List D} {ρ ρ1 ρ2 : DEnv} {st st2 : Sto} (h1 : n d ρ = some ρ1) (h2 : g ρ1 st = some (.bk, ρ2, st2)) :
    loopG src n g (d :: r) ρ st = some (.nx, ρ2, st2) := by
  rw [loop_cons, h1, Option.bind_some, h2, Option.bind_some]
/-- a loop by what holds between its turns -/
theorem loop_inv {src : Src} {n : D → DEnv → Option DEnv} {g : DG} (Inv : List D → DEnv → Sto → Prop) :
    ∀ (ds pre : List D) (ρ : DEnv) (st : Sto), Inv pre ρ st →
      (∀ pre d post ρ st, pre ++ d :: post = pre ++ d :: post → Inv pre ρ st → d ∈ ds → ∃ ρ1 ρ2 st2, n d ρ = some ρ1 ∧ g ρ1 st = some (.nx, ρ2, st2) ∧ sameSrc src st st2 = true ∧ Inv (pre ++ [d]) ρ2 st2) →
      ∃ ρ' st', loopG src n g ds ρ st = some (.nx, ρ', st') ∧ Inv (pre ++ ds) ρ' st'
  | [], pre, ρ, st, h0, _ => ⟨ρ, st, rfl, by simpa using h0⟩
  | d :: ds, pre, ρ, st, h0, hs => by
    obtain ⟨ρ1, ρ2, st2, h1, h2, h3, h4⟩ := hs pre d ds ρ st rfl h0 List.mem_cons_self
    obtain ⟨ρ', st', h5, h6⟩ := loop_inv Inv ds (pre ++ [d]) ρ2 st2 h4 fun pre d' post ρ st _ hi hm => hs pre d' post ρ st rfl hi (List.mem_cons_of_mem _ hm)
    exact ⟨ρ', st', by rw [loop_nx h1 h2 h3]; exact h5, by simpa using h6⟩
/-! ### comprehensions -/
theorem lc_map {src : Src} {n : D → DEnv → Option DEnv} {el : DF} {ρ : DEnv} {st : Sto} (f : D → D) : ∀ ds : List D, (∀ d ∈ ds, ∃ ρ1, n d ρ = some ρ1 ∧ el ρ1 st = some (f d, st)) → lcItems src n tYesD el ds ρ st = some (ds.map f, st)
  | [], _ => rfl
  | d :: ds, h => by
    obtain ⟨ρ1, h1, h2⟩ := h d List.mem_cons_self
    have ih := lc_map (src := src) f ds fun d' hd => h d' (List.mem_cons_of_mem _ hd)
    show ((n d ρ).bind fun ρ1 => (tYesD ρ1 st).bind fun b => _) = _
    rw [h1, Option.bind_some]
    simp [h2, ih]
theorem lc_filter {src : Src} {n : D → DEnv → Option DEnv} {tt : DFb} {el : DF} {ρ : DEnv} {st : Sto} (p : D → Bool) (f : D → D) : ∀ ds : List D, (∀ d ∈ ds, ∃ ρ1, n d ρ = some ρ1 ∧ tt ρ1 st = some (p d, st) ∧ (p d = true → el ρ1 st = some (f d, st))) →
    lcItems src n tt el ds ρ st = some ((ds.filter p).map f, st)
  | [], _ => rfl
  | d :: ds, h => by
    obtain ⟨ρ1, h1, h2, h3⟩ := h d List.mem_cons_self
    have ih := lc_filter (src := src) p f ds fun d' hd => h d' (List.mem_cons_of_mem _ hd)
    show ((n d ρ).bind fun ρ1 => (tt ρ1 st).bind fun b => _) = _
    rw [h1, Option.bind_some, h2, Option.bind_some]
    cases hp : p d with
    | true => simp [h3 hp, ih, hp]
    | false => simp [ih, hp]
theorem lc_thread {src : Src} {n : D → DEnv → Option DEnv} {el : DF} {ρ : DEnv} (Inv : Sto → Prop) (Pv : D → Prop) : ∀ (ds : List D) (st : Sto), Inv st →
    (∀ d ∈ ds, ∀ st, Inv st → ∃ ρ1 v st', n d ρ = some ρ1 ∧ el ρ1 st = some (v, st') ∧ sameSrc src st st' = true ∧ Inv st' ∧ Pv v) →
    ∃ vs st', lcItems src n tYesD el ds ρ st = some (vs, st') ∧ Inv st' ∧ vs.length = ds.length ∧ ∀ v ∈ vs, Pv v
  | [], st, hi, _ => ⟨[], st, rfl, hi, rfl, fun _ h => nomatch h⟩
  | d :: ds, st, hi, h => by
    obtain ⟨ρ1, v, st1, h1, h2, h3, h4, h5⟩ := h d List.mem_cons_self st hi
    obtain ⟨vs, st', h6, h7, h8, h9⟩ := lc_thread (src := src) Inv Pv ds st1 h4 fun d' hd => h d' (List.mem_cons_of_mem _ hd)
    refine ⟨v :: vs, st', ?_, h7, by simp [h8], fun w hw => (List.mem_cons.mp hw).elim (fun e => e ▸ h5) (h9 w)⟩
    show ((n d ρ).bind fun ρ1 => (tYesD ρ1 st).bind fun b => _) = _
    rw [h1, Option.bind_some]
    simp [h2, h3, h6]
theorem mem_rng {lo : Int} {n : Nat} {d : D} (h : d ∈ rngD lo n) : ∃ i : Nat, i < n ∧ d = .int (lo + i) := by
  unfold rngD at h
  obtain ⟨i, hi, e⟩ := List.mem_map.mp h
  exact ⟨i, List.mem_range.mp hi, e.symm⟩
theorem rng_len (lo : Int) (n : Nat) : (rngD lo n).length = n := by simp [rngD]
theorem gc_keep {F : Fn} {ds : List D} {st st' : Sto} {d : D} (h : F ds st = some (d, st')) (hb : belowD st.length d = false) : gcFn F ds st = some (d, st') := by
  unfold gcFn
  rw [h, Option.map_some, if_neg]
  intro z
  have z2 := z.2.1
  rw [show (d, st').1 = d from rfl, hb] at z2
  cases z2
theorem gc_len {F : Fn} {ds : List D} {st st' : Sto} {d : D} (h : F ds st = some (d, st')) (hl : st'.length = st.length) : gcFn F ds st = some (d, st') := by
  unfold gcFn
  rw [h, Option.map_some]
  split
  · show some (d, st'.take st.length) = _
    rw [← hl, List.take_length]
  · rfl
/-- a def that may have written cells of its caller's -/
theorem fn_len {N : Nat} {g : DG} {ds : List D} {st st' : Sto} {d : D} {ρ : DEnv} (h : g (startD N ds) st = some (.rt d, ρ, st')) (hl : st'.length = st.length) : fnG N g ds st = some (d, st') := gc_len (by unfold fnBody; rw [h]; rfl) hl
theorem fn_keep {N : Nat} {g : DG} {ds : List D} {st st' : Sto} {d : D} {ρ : DEnv} (h : g (startD N ds) st = some (.rt d, ρ, st')) (hb : belowD st.length d = false) : fnG N g ds st = some (d, st') := gc_keep (by unfold fnBody; rw [h]; rfl) hb
theorem ints_below (L : Nat) : ∀ ns : List Int, belowDs L (ns.map D.int) = true
  | [] => rfl
  | n :: ns => by simp [belowDs, belowD, ints_below L ns]
/-- the tape: the store's first list, of ints -/
abbrev tp (ts : List Int) : Cell := .lst (ts.map D.int)
/-- a def that may have moved the tape, and left new lists -/
theorem fn_tape {N : Nat} {g : DG} {ds : List D} {ts ts' : List Int} {r gr : Sto} {d : D} {ρ : DEnv} (h : g (startD N ds) (tp ts :: r) = some (.rt d, ρ, tp ts' :: (r ++ gr))) (hb : belowD (r.length + 1) d = true) :
    fnG N g ds (tp ts :: r) = some (d, tp ts' :: r) := by
  have e := gc_eq (F := fnBody N g) (ds := ds) (st := tp ts :: r) (st' := tp ts' :: (r ++ gr)) (d := d) (by unfold fnBody; rw [h]; rfl) ⟨by simp, hb, fun i hi => ?_⟩
  · refine e.trans ?_
    simp
  · cases i with
    | zero => exact .inr ⟨_, rfl, ints_below _ ts'⟩
    | succ i =>
      refine .inl ?_
      simp only [List.getElem?_cons_succ]
      exact List.getElem?_append_left (by simpa using hi)
/-! ### loops over one name -/
theorem set_self {ρ : DEnv} {i : Nat} (hi : i < ρ.length) : ∃ x, ρ = ρ.set i x := ⟨ρ[i], by simp⟩
theorem loop_keep {src : Src} {i : Nat} {g : DG} {st : Sto} : ∀ (ds : List D) (ρ : DEnv), i < ρ.length → (∀ d ∈ ds, g (ρ.set i (some d)) st = some (.nx, ρ.set i (some d), st)) → ∃ x ρ', ρ' = ρ.set i x ∧ loopG src (nName i) g ds ρ st = some (.nx, ρ', st)
  | [], ρ, hi, _ => by
    obtain ⟨x, hx⟩ := set_self hi
    exact ⟨x, ρ, hx, rfl⟩
  | d :: ds, ρ, hi, h => by
    obtain ⟨x, ρ', e, hx⟩ := loop_keep (src := src) ds (ρ.set i (some d)) (by rw [List.length_set]; exact hi) fun d' hd => by
      rw [List.set_set]
      exact h d' (List.mem_cons_of_mem _ hd)
    rw [List.set_set] at e
    exact ⟨x, ρ', e, (loop_nx rfl (h d List.mem_cons_self) (same_self _ _)).trans hx⟩
/-- a loop that leaves at the first item of a kind -/
theorem loop_find {src : Src} {i : Nat} {g : DG} {st : Sto} (p : D → Bool) (v : D) : ∀ (ds : List D) (ρ : DEnv), i < ρ.length →
    (∀ d ∈ ds, g (ρ.set i (some d)) st = if p d = true then some (.rt v, ρ.set i (some d), st) else some (.nx, ρ.set i (some d), st)) → ∃ x ρ', ρ' = ρ.set i x ∧ loopG src (nName i) g ds ρ st = if ds.any p = true then some (.rt v, ρ', st) else some (.nx, ρ', st)
  | [], ρ, hi, _ => by
    obtain ⟨x, hx⟩ := set_self hi
    exact ⟨x, ρ, hx, rfl⟩
  | d :: ds, ρ, hi, h => by
    have hd := h d List.mem_cons_self
    by_cases hp : p d = true
    · rw [if_pos hp] at hd
      exact ⟨some d, _, rfl, by rw [loop_rt rfl hd, List.any_cons, hp]; rfl⟩
    · rw [if_neg hp] at hd
      obtain ⟨x, ρ', e, hx⟩ := loop_find (src := src) p v ds (ρ.set i (some d)) (by rw [List.length_set]; exact hi) fun d' hd => by
        rw [List.set_set]
        exact h d' (List.mem_cons_of_mem _ hd)
      rw [List.set_set] at e
      have hf : p d = false := by simpa using hp
      exact ⟨x, ρ', e, by rw [loop_nx rfl hd (same_self _ _), hx, List.any_cons, hf, Bool.false_or]⟩
theorem rng_ok {n : Nat} (h : n ≤ 1000000) : RngOk (n : Int) :=
  ⟨Int.le_trans (by decide) (Int.natCast_nonneg n), Int.lt_of_le_of_lt (Int.ofNat_le.mpr h) (by decide)⟩
/-! ### values that are compared -/
/-- data without references, so many levels deep -/
def okD : Nat → D → Bool
  | 0, _ => false
  | l + 1, .tup xs => decide (xs.length ≤ 1000) && xs.all (okD l)
  | _ + 1, .ref _ => false
  | _ + 1, .fz _ => false
  | _ + 1, _ => true
/-! ### the store's places -/
@[simp] theorem get_at0 (S T : Sto) : (S ++ T)[S.length]? = T[0]? := by
  rw [List.getElem?_append_right (Nat.le_refl _), Nat.sub_self]
@[simp] theorem get_at (S T : Sto) (j : Nat) : (S ++ T)[S.length + j]? = T[j]? := by
  rw [List.getElem?_append_right (Nat.le_add_right _ _), Nat.add_sub_cancel_left]
theorem get_app {S : Sto} {k : Nat} {c : Cell} (h : S[k]? = some c) (T : Sto) : (S ++ T)[k]? = some c := by
  rw [List.getElem?_append_left (List.getElem?_eq_some_iff.mp h).1]
  exact h
theorem set_end (S : Sto) (c c' : Cell) : (S ++ [c]).set S.length c' = S ++ [c'] := by
  rw [List.set_append_right _ _ (Nat.le_refl _), Nat.sub_self]; rfl
theorem cut_to (os : List D) (a : Nat) : cutD os none (some (a : Int)) = os.take a := by
  unfold cutD
  rw [HT.sIx_none, HT.sIx_nat, List.drop_zero, Nat.sub_zero]
  by_cases h : a ≤ os.length
  · rw [Nat.min_eq_left h]
  · rw [Nat.min_eq_right (by omega), List.take_length, List.take_of_length_le (by omega)]
theorem cut_from (os : List D) (a : Nat) : cutD os (some (a : Int)) none = os.drop a := by
  unfold cutD
  rw [HT.sIx_none, HT.sIx_nat]
  by_cases h : a ≤ os.length
  · rw [Nat.min_eq_left h, List.take_of_length_le (by rw [List.length_drop]; omega)]
  · rw [Nat.min_eq_right (by omega), List.drop_length, List.drop_of_length_le (by omega), List.take_nil]
theorem src_cell {i n : Nat} {ρ : DEnv} {st : Sto} {xs : List D} (h1 : ρ[i]? = some (some (.ref n))) (h2 : st[n]? = some (.lst xs)) : srcOf (dVar i) ρ st = some (.cell n, st) := by
  have hn : n < st.length := (List.getElem?_eq_some_iff.mp h2).1
  rw [e_srcOf, e_var, h1]
  show (if n < st.length then some (Src.cell n, st) else none) = _
  rw [if_pos hn]
theorem items_cell {n : Nat} {st : Sto} {xs : List D} (h2 : st[n]? = some (.lst xs)) : (Src.cell n).items st = some xs := by
  rw [e_items_cell, h2]
theorem src_tup {i : Nat} {ρ : DEnv} {st : Sto} {xs : List D} (h1 : ρ[i]? = some (some (.tup xs))) : srcOf (dVar i) ρ st = some (.seq xs, st) := by
  rw [e_srcOf, e_var, h1] <;> rfl
theorem for_cell {i n : Nat} {nm : D → DEnv → Option DEnv} {g : DG} {ρ : DEnv} {st : Sto} {xs : List D} {r : Option (Fl × DEnv × Sto)} (h1 : ρ[i]? = some (some (.ref n))) (h2 : st[n]? = some (.lst xs)) (h : loopG (.cell n) nm g xs ρ st = r) :
    gFor (srcOf (dVar i)) nm g ρ st = r := e_for' (src_cell h1 h2) (items_cell h2) h
theorem for_tup {i : Nat} {nm : D → DEnv → Option DEnv} {g : DG} {ρ : DEnv} {st : Sto} {xs : List D} {r : Option (Fl × DEnv × Sto)} (h1 : ρ[i]? = some (some (.tup xs))) (h : loopG (.seq xs) nm g xs ρ st = r) :
    gFor (srcOf (dVar i)) nm g ρ st = r := e_for' (src_tup h1) rfl h
/-- a def by its steps, with the last one giving a value -/
theorem fn_map {N : Nat} {g : DG} {ds : List D} {st st' : Sto} {d : D} (h : (g (startD N ds) st).map (fun r => (r.1, r.2.2)) = some (.rt d, st')) : fnBody N g ds st = some (d, st') := by
  obtain ⟨r, h1, h2⟩ := Option.map_eq_some_iff.mp h
  obtain ⟨fl, ρ, st1⟩ := r
  cases h2
  unfold fnBody
  rw [h1] <;> rfl
end DL
end

section
set_option Elab.async false
set_option linter.all false
set_option maxRecDepth 100000
set_option maxHeartbeats 1000000
/-! More plain lemmas over the data layer. -/
namespace DL
open PySem PySem.Spec PyProof.Rows L2
theorem mulOk_l {i j : Int} (h : i.natAbs < 18446744073709551616) : MulOk i j := .inl h
theorem mulOk_r {i j : Int} (h : j.natAbs < 18446744073709551616) : MulOk i j := .inr (.inl h)
theorem fmod_rng (i : Int) {m : Int} (h : 0 < m) : 0 ≤ i.fmod m ∧ i.fmod m < m := by
  rw [Int.fmod_eq_emod_of_nonneg _ (by omega)]
  exact ⟨Int.emod_nonneg _ (by omega), Int.emod_lt_of_pos _ h⟩
theorem fmod_pos (i : Int) {m : Int} (h : 0 < m) : i.fmod m = i % m := Int.fmod_eq_emod_of_nonneg _ (by omega)
theorem fdiv_pos (i : Int) {m : Int} (h : 0 < m) : i.fdiv m = i / m := Int.fdiv_eq_ediv_of_nonneg _ (by omega)
theorem atI_in {α : Type} (xs : List α) {i : Int} (h0 : 0 ≤ i) (h1 : i < xs.length) : atI xs i = some (xs[i.toNat]'(by omega)) := by
  have h := atI_nat' xs i.toNat
  rw [Int.toNat_of_nonneg h0] at h
  rw [h, List.getElem?_eq_getElem]
theorem loop_st {src : Src} {n : D → DEnv → Option DEnv} {g : DG} (Inv : DEnv → Sto → Prop) (ds : List D) (ρ : DEnv) (st : Sto) (h0 : Inv ρ st)
    (hs : ∀ d ∈ ds, ∀ ρ st, Inv ρ st → ∃ ρ1 ρ2 st2, n d ρ = some ρ1 ∧ g ρ1 st = some (.nx, ρ2, st2) ∧ sameSrc src st st2 = true ∧ Inv ρ2 st2) :
    ∃ ρ' st', loopG src n g ds ρ st = some (.nx, ρ', st') ∧ Inv ρ' st' :=
  loop_inv (fun _ => Inv) ds [] ρ st h0 fun _ d _ ρ st _ hi hd => hs d hd ρ st hi
theorem same_app {k : Nat} {st T : Sto} (h : k < st.length) : sameSrc (.cell k) st (st ++ T) = true :=
  same_cell (List.getElem?_append_left h)
theorem enc_list {α : Type} (f : α → D) (p : α → Prop) : ∀ vs : List D, (∀ v ∈ vs, ∃ a, v = f a ∧ p a) → ∃ as : List α, vs = as.map f ∧ ∀ a ∈ as, p a
  | [], _ => ⟨[], rfl, fun _ h => nomatch h⟩
  | v :: vs, h => by
    obtain ⟨a, ha, pa⟩ := h v List.mem_cons_self
    obtain ⟨as, hv, hp⟩ := enc_list f p vs fun w hw => h w (List.mem_cons_of_mem _ hw)
    exact ⟨a :: as, by rw [ha, hv]; rfl, fun b hb => (List.mem_cons.mp hb).elim (fun e => e ▸ pa) (hp b)⟩
/-- a loop over whole numbers that returns the first that fits -/
theorem loop_first {src : Src} {i : Nat} {g : DG} {st : Sto} (p : Int → Bool) : ∀ (ks : List Int) (ρ : DEnv), i < ρ.length →
    (∀ k ∈ ks, g (ρ.set i (some (.int k))) st = if p k = true then some (.rt (.int k), ρ.set i (some (.int k)), st) else some (.nx, ρ.set i (some (.int k)), st)) →
    ∃ x ρ', ρ' = ρ.set i x ∧ loopG src (nName i) g (ks.map D.int) ρ st = match ks.find? p with | some k => some (.rt (.int k), ρ', st) | none => some (.nx, ρ', st)
  | [], ρ, hi, _ => by
    obtain ⟨x, hx⟩ := set_self hi
    exact ⟨x, ρ, hx, rfl⟩
  | k :: ks, ρ, hi, h => by
    have hk := h k List.mem_cons_self
    by_cases hp : p k = true
    · rw [if_pos hp] at hk
      exact ⟨some (.int k), _, rfl, by rw [List.map_cons, loop_rt rfl hk, List.find?_cons_of_pos hp]⟩
    · rw [if_neg hp] at hk
      obtain ⟨x, ρ', e, hx⟩ := loop_first (src := src) p ks (ρ.set i (some (.int k))) (by rw [List.length_set]; exact hi) fun k' hk' => by
        rw [List.set_set]
        exact h k' (List.mem_cons_of_mem _ hk')
      rw [List.set_set] at e
      exact ⟨x, ρ', e, by rw [List.map_cons, loop_nx rfl hk (same_self _ _), hx, List.find?_cons_of_neg hp]⟩
def rngZ (lo : Int) (n : Nat) : List Int := (List.range n).map fun (k : Nat) => lo + (k : Int)
theorem rng_map (lo : Int) (n : Nat) : rngD lo n = (rngZ lo n).map D.int := by
  unfold rngD rngZ
  rw [List.map_map]
  rfl
theorem mem_rngZ {lo : Int} {n : Nat} {t : Int} : t ∈ rngZ lo n ↔ lo ≤ t ∧ t < lo + n := by
  unfold rngZ
  rw [List.mem_map]
  constructor
  · rintro ⟨k, hk, rfl⟩
    have := List.mem_range.mp hk
    omega
  · rintro ⟨h1, h2⟩
    exact ⟨(t - lo).toNat, List.mem_range.mpr (by omega), by omega⟩
@[simp] theorem e_dSt (f : DF) (l h k : DO) (ρ : DEnv) (st : Sto) : dSt f l h k ρ st = (f ρ st).bind fun p => (l ρ p.2).bind fun a => (h ρ a.2).bind fun b => (k ρ b.2).bind fun c => match c.1 with
  | some i => oSt a.1 b.1 i p.1 c.2
  | none => none := rfl
@[simp] theorem o_st_tup (xs : List D) (st : Sto) : oSt none none (-1) (.tup xs) st = some (.tup xs.reverse, st) := rfl
@[simp] theorem o_st_ref (lo hi : Option Int) (k : Int) (n : Nat) (st : Sto) : oSt lo hi k (.ref n) st = match st[n]? with
  | some (.lst xs) => if k = 0 then none else some (.ref st.length, st ++ [.lst (pickL xs lo hi k)])
  | none => none := rfl
@[simp] theorem e_setIx (fe fo fi : DF) (ρ : DEnv) (st : Sto) : gSetIx fe fo fi ρ st = (fe ρ st).bind fun p => (fo ρ p.2).bind fun q => (fi ρ q.2).bind fun r => match q.1, r.1 with
  | .ref n, .int k => match r.2[n]? with
    | some (.lst xs) => (ixN xs.length k).map fun j => (.nx, ρ, r.2.set n (.lst (xs.set j p.1)))
    | none => none
  | _, _ => none := rfl
@[simp] theorem m_pop (n : Nat) (st : Sto) : oPop (.ref n) [] st = match st[n]? with
  | some (.lst xs) => (xs[xs.length - 1]?).map fun y => (y, st.set n (.lst xs.dropLast))
  | none => none := rfl
theorem mem_pick {α : Type} {xs : List α} {lo hi : Option Int} {k : Int} {x : α} (h : x ∈ pickL xs lo hi k) : x ∈ xs := by
  unfold pickL at h
  obtain ⟨i, _, hi⟩ := List.mem_filterMap.mp h
  exact List.mem_of_getElem? hi
/-! ### small data -/
def smD : Nat → D → Bool
  | 0, _ => false
  | l + 1, .tup xs => decide (xs.length ≤ 8) && xs.all (smD l)
  | _ + 1, .str z => decide (z.length ≤ 100) && PyData.strOk z
  | _ + 1, .ref _ => false
  | _ + 1, .fz _ => false
  | _ + 1, _ => true
theorem sm_lay : ∀ (l : Nat) (d : D), smD l d = true → (pyD d).canLay0 = true ∧ (pyD d).depth ≤ l
  | 0, d, h => by simp [smD] at h
  | l + 1, .non, h => by simp [pyD, PyData.canLay0, PyData.depth]
  | l + 1, .bl b, h => by simp [pyD, PyData.canLay0, PyData.depth]
  | l + 1, .int i, h => by simp [pyD, PyData.canLay0, PyData.depth]
  | l + 1, .str z, h => by
    simp only [smD, Bool.and_eq_true] at h
    have hs := h.2
    simp [pyD, PyData.canLay0, PyData.depth, hs]
  | l + 1, .ref n, h => by simp [smD] at h
  | l + 1, .fz xs, h => by simp [smD] at h
  | l + 1, .tup xs, h => by
    simp only [smD, Bool.and_eq_true, List.all_eq_true] at h
    have go : ∀ ys : List D, (∀ y ∈ ys, smD l y = true) → PyData.canLayAll0 (pyDs ys) = true ∧ PyData.depthAll (pyDs ys) ≤ l := by
      intro ys
      induction ys with
      | nil => intro _; simp [pyDs, PyData.canLayAll0, PyData.depthAll]
      | cons y ys ih =>
        intro hy
        obtain ⟨a1, a2⟩ := sm_lay l y (hy y List.mem_cons_self)
        obtain ⟨b1, b2⟩ := ih fun z hz => hy z (List.mem_cons_of_mem _ hz)
        simp only [pyDs, PyData.canLayAll0, PyData.depthAll, a1, b1, Bool.and_self, true_and]
        exact Nat.max_le.mpr ⟨a2, b2⟩
    obtain ⟨h1, h2⟩ := go xs h.2
    simp only [pyD, PyData.canLay0, PyData.depth, h1, true_and]
    omega
theorem sm_shaped {l : Nat} {d : D} (st : Sto) (h : smD l d = true) (hl : l ≤ 64) : SeqAt.shaped (pyS st d) = true := by
  obtain ⟨h1, h2⟩ := sm_lay l d h
  have e : pyS st d = pyD d := by
    cases d with
    | ref n => cases l <;> simp [smD] at h
    | _ => rfl
  rw [e]
  simp only [SeqAt.shaped, h1, Bool.true_and]
  exact decide_eq_true (by omega)
def isStr (w : Str) : D → Bool
  | .str z => z == w
  | _ => false
/-- any small datum against a word -/
theorem eq_word {l : Nat} {d : D} {w : Str} (st : Sto) (h : smD l d = true) (hl : l ≤ 64) (hw : smD 1 (.str w) = true) : oEq d (.str w) st = some (.bl (isStr w d), st) := by
  cases d with
  | non => rfl
  | bl b => rfl
  | int i => rfl
  | str z => rfl
  | ref n => cases l <;> simp [smD] at h
  | fz xs => cases l <;> simp [smD] at h
  | tup xs =>
    have h1 := sm_shaped st h hl
    have h2 : SeqAt.shaped (pyS st (.str w)) = true := sm_shaped (l := 1) st hw (by decide)
    unfold oEq eqB
    rw [if_neg (by simp [scalD]), if_pos ⟨h1, h2⟩]
    rfl
end DL
end

section
set_option Elab.async false
set_option linter.all false
set_option maxRecDepth 100000
set_option maxHeartbeats 1000000
namespace W
open PySem PySem.Spec PyProof.Rows L2 DL
/-! ### the common divisor -/
theorem gcd_loop (x y : Option D) (st : Sto) : ∀ (n a b : Nat), b < n →
    whileG (dTr (dVar 3)) (gPar 2 3 (dCons (dVar 3) (dCons (dBin oMod (dVar 2) (dVar 3)) dNil))) n [x, y, some (.int a), some (.int b)] st = some (.nx, [x, y, some (.int (Nat.gcd a b : Nat)), some (.int 0)], st)
  | 0, a, b, h => absurd h (Nat.not_lt_zero _)
  | n + 1, a, b, h => by
    by_cases hb : b = 0
    · subst hb
      simp [whileG]
    · have hb' : ((b : Nat) : Int) ≠ 0 := by omega
      have ih := gcd_loop x y st n b (a % b) (by have := Nat.mod_lt a (Nat.pos_of_ne_zero hb); omega)
      have e1 : Int.fmod (a : Int) (b : Int) = ((a % b : Nat) : Int) := by
        rw [Int.fmod_eq_emod_of_nonneg _ (by omega)]; rfl
      have e2 : Nat.gcd b (a % b) = Nat.gcd a b := by rw [Nat.gcd_comm, ← Nat.gcd_rec, Nat.gcd_comm]
      simp [whileG, hb, e1]
      rw [show ((a : Int) % (b : Int)) = ((a % b : Nat) : Int) from rfl, ih, e2]
theorem f_gcd (a b : Int) (st : Sto) : F_gcd_of [.int a, .int b] st = some (.int (Int.gcd a b : Nat), st) := by
  unfold F_gcd_of
  apply fn_same (ρ := [some (.int a), some (.int b), some (.int (Nat.gcd a.natAbs b.natAbs : Nat)), some (.int 0)])
  have l := gcd_loop (some (.int a)) (some (.int b)) st (b.natAbs + 1) a.natAbs b.natAbs (Nat.lt_succ_self _)
  unfold G_gcd_of
  simp [gWhile, fuel_gcd_of, l]
  rfl
/-! ### cells and digits -/
theorem f_cell (ns : List Int) (j : Nat) (hj : j < 100) (st : Sto) : ∃ v : Int, F_n_law_cell [.fz (ns.map D.int), .int j] st = some (.int v, st) := by
  have fin : ∀ c : Int, ∃ (v : Int), (gSeq (gIf (dB (dChain oLe oLt (dC (.int 0)) (dVar 2) (dC (.int 1000000000000)))) (gRet (dBin oFdiv (dBin oPow (dBin oAdd (dBin oAdd (dVar 2) (dC (.int 11))) (dBin oMul (dC (.int 37)) (dVar 1))) (dC (.int 17))) (dC (.int 1009)))) gNext)
      (gRet (dVar 2))) [some (.fz (ns.map D.int)), some (.int j), some (.int c)] st = some (.rt (.int v), [some (.fz (ns.map D.int)), some (.int j), some (.int c)], st) := fun c => by
    by_cases h0 : 0 ≤ c
    · by_cases h1 : c < 1000000000000
      · have m1 : DL.MulOk 37 (j : Int) := mulOk_l (by decide)
        have d1 : DivOk 1009 := divOk (by decide)
        have p1 : (c + 11 + 37 * (j : Int)).natAbs < 18446744073709551616 := by omega
        refine ⟨((c + 11 + 37 * (j : Int)) ^ 17).fdiv 1009, step_rt ?_⟩
        simp [h0, h1, m1, d1, p1]
      · exact ⟨c, by simp [h0, h1]⟩
    · exact ⟨c, by simp [h0]⟩
  by_cases hl : j < ns.length
  · obtain ⟨v, h⟩ := fin ns[j]
    refine ⟨v, ?_⟩
    unfold F_n_law_cell
    refine fn_same (ρ := [some (.fz (ns.map D.int)), some (.int j), some (.int ns[j])]) ?_
    unfold G_n_law_cell
    refine step (ρ1 := [some (.fz (ns.map D.int)), some (.int j), some (.int 0)]) (st1 := st) (by simp) ?_
    refine step (ρ1 := [some (.fz (ns.map D.int)), some (.int j), some (.int ns[j])]) (st1 := st) ?_ h
    simp [hl, atI_nat']
  · obtain ⟨v, h⟩ := fin 0
    refine ⟨v, ?_⟩
    unfold F_n_law_cell
    refine fn_same (ρ := [some (.fz (ns.map D.int)), some (.int j), some (.int 0)]) ?_
    unfold G_n_law_cell
    refine step (ρ1 := [some (.fz (ns.map D.int)), some (.int j), some (.int 0)]) (st1 := st) (by simp) ?_
    refine step (ρ1 := [some (.fz (ns.map D.int)), some (.int j), some (.int 0)]) (st1 := st) ?_ h
    simp [hl]
/-- digits below their bases -/
def DigOk : List Int → List Int → Prop
  | [], [] => True
  | d :: ds, b :: bs => 0 ≤ d ∧ d < b ∧ DigOk ds bs
  | _, _ => False
def BaseOk (bs : List Int) : Prop := bs.length ≤ 100 ∧ ∀ b ∈ bs, 0 < b ∧ b ≤ 100000
theorem dig_loop (n : Nat) (v0 y1 : Option D) (B : Sto) (hn : n < B.length) : ∀ (bs : List Int) (dn : List Int) (v : Int) (y4 : Option D), (∀ b ∈ bs, 0 < b ∧ b ≤ 100000) → dn.length + bs.length ≤ 1000 →
    ∃ (ds : List Int) (v' : Int) (y4' : Option D), loopG (.cell n) (nName 4) (gSeq (gDrop (dMeth oApp (dVar 2) (dCons (dBin oMod (dCB bInt (dCons (dVar 3) dNil)) (dVar 4)) dNil)))
      (gSet 3 (dBin oFdiv (dVar 3) (dVar 4)))) (bs.map D.int) [v0, y1, some (.ref B.length), some (.int v), y4] (B ++ [.lst (dn.map D.int)]) =
      some (.nx, [v0, y1, some (.ref B.length), some (.int v'), y4'], B ++ [.lst ((dn ++ ds).map D.int)]) ∧ DigOk ds bs
  | [], dn, v, y4, _, _ => ⟨[], v, y4, by simp, trivial⟩
  | b :: bs, dn, v, y4, hb, hl => by
    simp only [List.length_cons] at hl
    have hb1 := hb b List.mem_cons_self
    have hm := fmod_rng v hb1.1
    have dv : DivOk b := ⟨by omega, by omega⟩
    have b0 : b ≠ 0 := by omega
    have hz : dn.length < 16777216 := by omega
    obtain ⟨ds, v', y4', h, hd⟩ := dig_loop n v0 y1 B hn bs (dn ++ [v.fmod b]) (v.fdiv b) (some (.int b)) (fun c hc => hb c (List.mem_cons_of_mem _ hc)) (by simp; omega)
    refine ⟨v.fmod b :: ds, v', y4', ?_, hm.1, hm.2, hd⟩
    obtain ⟨S, hS⟩ : ∃ S : Sto, S = B ++ [Cell.lst (dn.map D.int)] := ⟨_, rfl⟩
    have sL : S[B.length]? = some (.lst (dn.map D.int)) := by rw [hS]; simp
    have lL : B.length < S.length := by rw [hS]; simp
    rw [List.map_cons, loop_nx (ρ1 := [v0, y1, some (.ref B.length), some (.int v), some (.int b)]) (ρ2 := [v0, y1, some (.ref B.length), some (.int (v.fdiv b)), some (.int b)]) (st2 := B ++ [.lst ((dn ++ [v.fmod b]).map D.int)]) rfl ?_ ?_, h, List.append_assoc]
    · rfl
    · refine step (ρ1 := [v0, y1, some (.ref B.length), some (.int v), some (.int b)]) (st1 := B ++ [.lst ((dn ++ [v.fmod b]).map D.int)]) ?_ (by simp [dv])
      rw [← hS, e_drop, e_dMeth, e_var]
      show Option.map _ (if decide (B.length < S.length) = true then _ else _) = _
      rw [if_pos (decide_eq_true lL)]
      simp [m_app, b0]
      rw [sL]
      simp [hz, hS, set_end]
    · refine same_cell ?_
      rw [List.getElem?_append_left hn, List.getElem?_append_left hn]
theorem f_digits (v : Int) (bs : List Int) (n : Nat) (st : Sto) (hn : st[n]? = some (.lst (bs.map D.int))) (hb : BaseOk bs) :
    ∃ ds : List Int, F_n_law_digits [.int v, .ref n] st = some (.ref st.length, st ++ [.lst (ds.map D.int)]) ∧ DigOk ds bs := by
  have hlt : n < st.length := (List.getElem?_eq_some_iff.mp hn).1
  obtain ⟨ds, v', y4', h, hd⟩ := dig_loop n (some (.int v)) (some (.ref n)) st hlt bs [] v none hb.2 (by have := hb.1; simp; omega)
  refine ⟨ds, ?_, hd⟩
  unfold F_n_law_digits
  refine fn_keep (ρ := [some (.int v), some (.ref n), some (.ref st.length), some (.int v'), y4']) ?_ (by simp [belowD])
  unfold G_n_law_digits
  refine step (ρ1 := [some (.int v), some (.ref n), some (.ref st.length), none, none]) (st1 := st ++ [.lst (([] : List Int).map D.int)]) (by simp) ?_
  refine step (ρ1 := [some (.int v), some (.ref n), some (.ref st.length), some (.int v), none]) (st1 := st ++ [.lst (([] : List Int).map D.int)]) (by simp) ?_
  refine step (for_cell rfl (get_app hn _) h) ?_
  simp
end W
end

section
set_option Elab.async false
set_option linter.all false
set_option maxRecDepth 100000
set_option maxHeartbeats 1000000
namespace W
open PySem PySem.Spec PyProof.Rows L2 DL
/-! ### two slots -/
structure Sl where
  s : Int
  e : Int
  l : Int
def encT (T : Sl) : D := .tup [.int T.s, .int T.e, .int T.l]
structure OkS (T : Sl) : Prop where
  s0 : 0 ≤ T.s
  s1 : T.s ≤ 99
  e0 : 1 ≤ T.e
  e1 : T.e ≤ 40
  l0 : 1 ≤ T.l
  l1 : T.l ≤ 100
theorem dig4 {ds : List Int} {b1 b2 b3 b4 : Int} (h : DigOk ds [b1, b2, b3, b4]) : ∃ a b c d, ds = [a, b, c, d] ∧ 0 ≤ a ∧ a < b1 ∧ 0 ≤ b ∧ b < b2 ∧ 0 ≤ c ∧ c < b3 ∧ 0 ≤ d ∧ d < b4 := by
  match ds, h with
  | [a, b, c, d], h => exact ⟨a, b, c, d, rfl, h.1, h.2.1, h.2.2.1, h.2.2.2.1, h.2.2.2.2.1, h.2.2.2.2.2.1, h.2.2.2.2.2.2.1, h.2.2.2.2.2.2.2.1⟩
  | [], h => exact h.elim
  | [_], h => exact h.2.2.elim
  | [_, _], h => exact h.2.2.2.2.elim
  | [_, _, _], h => exact h.2.2.2.2.2.2.elim
  | _ :: _ :: _ :: _ :: _ :: _, h => exact h.2.2.2.2.2.2.2.2.elim
theorem f_pair (ns : List Int) : ∃ A B : Sl, F_n_law_pair [.fz (ns.map D.int)] [] = some (.tup [encT A, encT B], []) ∧ OkS A ∧ OkS B := by
  obtain ⟨x, hx⟩ : ∃ x, x = some (D.fz (ns.map D.int)) := ⟨_, rfl⟩
  obtain ⟨c0, e0⟩ := f_cell ns 0 (by decide) []
  obtain ⟨ds0, d0, o0⟩ := f_digits c0 [3, 12, 3, 2] 0 [.lst [.int 3, .int 12, .int 3, .int 2]] rfl ⟨by decide, by decide⟩
  obtain ⟨k0, k1, k2, k3, rfl, p1, p2, p3, p4, p5, p6, p7, p8⟩ := dig4 o0
  obtain ⟨c1, e1⟩ := f_cell ns 1 (by decide) [.lst [.int 3, .int 12, .int 3, .int 2], .lst [.int k0, .int k1, .int k2, .int k3]]
  obtain ⟨ds1, d1, o1⟩ := f_digits c1 [100, 40, 40, 3] 2 [.lst [.int 3, .int 12, .int 3, .int 2], .lst [.int k0, .int k1, .int k2, .int k3], .lst [.int 100, .int 40, .int 40, .int 3]] rfl ⟨by decide, by decide⟩
  obtain ⟨a0, a1, a2, a3, rfl, q1, q2, q3, q4, q5, q6, q7, q8⟩ := dig4 o1
  obtain ⟨c2, e2⟩ := f_cell ns 2 (by decide) [.lst [.int 3, .int 12, .int 3, .int 2], .lst [.int k0, .int k1, .int k2, .int k3], .lst [.int 100, .int 40, .int 40, .int 3], .lst [.int a0, .int a1, .int a2, .int a3]]
  obtain ⟨ds2, d2, o2⟩ := f_digits c2 [100, 40, 40, 3] 4 [.lst [.int 3, .int 12, .int 3, .int 2], .lst [.int k0, .int k1, .int k2, .int k3], .lst [.int 100, .int 40, .int 40, .int 3], .lst [.int a0, .int a1, .int a2, .int a3], .lst [.int 100, .int 40, .int 40, .int 3]] rfl ⟨by decide, by decide⟩
  obtain ⟨b0, b1, b2, b3, rfl, r1, r2, r3, r4, r5, r6, r7, r8⟩ := dig4 o2
  simp only [List.map_cons, List.map_nil, List.length_cons, List.length_nil, List.cons_append, List.nil_append, Nat.zero_add, Nat.reduceAdd] at d0 d1 d2
  simp only [Int.natCast_zero, Int.natCast_one, Int.cast_ofNat_Int] at e0 e1 e2
  have i30 : ixN 3 0 = some 0 := rfl
  have i31 : ixN 3 1 = some 1 := rfl
  have i32 : ixN 3 2 = some 2 := rfl
  obtain ⟨S, hS⟩ : ∃ S : List D → List D → Sto, S = fun u v => [.lst [.int 3, .int 12, .int 3, .int 2], .lst [.int k0, .int k1, .int k2, .int k3], .lst [.int 100, .int 40, .int 40, .int 3], .lst [.int a0, .int a1, .int a2, .int a3],
    .lst [.int 100, .int 40, .int 40, .int 3], .lst [.int b0, .int b1, .int b2, .int b3], .lst u, .lst v] := ⟨_, rfl⟩
  obtain ⟨E, hE⟩ : ∃ E : Option D → DEnv, E = fun y => [x, some (.ref 1), some (.ref 3), some (.ref 5), some (.ref 6), some (.ref 7), some (.int (2 + k1)), y] := ⟨_, rfl⟩
  have t1 : ∀ u v y, S u v = [.lst [.int 3, .int 12, .int 3, .int 2], .lst [.int k0, .int k1, .int k2, .int k3], .lst [.int 100, .int 40, .int 40, .int 3], .lst [.int a0, .int a1, .int a2, .int a3],
    .lst [.int 100, .int 40, .int 40, .int 3], .lst [.int b0, .int b1, .int b2, .int b3], .lst u, .lst v] ∧ E y = [x, some (.ref 1), some (.ref 3), some (.ref 5), some (.ref 6), some (.ref 7), some (.int (2 + k1)), y] := fun u v y => by rw [hS, hE]; exact ⟨rfl, rfl⟩
  have sS := fun u v => (t1 u v none).1
  have sE := fun y => (t1 [] [] y).2
  -- the rounds
  obtain ⟨E1, E2, h7, u1, u2, u3, u4⟩ : ∃ E1 E2 : Int, (gIf (dB (dBin oGt (dBin oIx (dVar 1) (dC (.int 0))) (dC (.int 0)))) (gSeq (gSetIx (dBin oMul (dVar 6) (dBin oAdd (dC (.int 1)) (dBin oIx (dVar 2) (dC (.int 3))))) (dVar 4) (dC (.int 1)))
      (gSetIx (dBin oMul (dVar 6) (dBin oAdd (dC (.int 1)) (dBin oIx (dVar 3) (dC (.int 3))))) (dVar 5) (dC (.int 1)))) gNext) (E none) (S [.int a0, .int (1 + a1), .int 0] [.int b0, .int (1 + b1), .int 0]) =
      some (.nx, E none, S [.int a0, .int E1, .int 0] [.int b0, .int E2, .int 0]) ∧ 1 ≤ E1 ∧ E1 ≤ 40 ∧ 1 ≤ E2 ∧ E2 ≤ 40 := by
    by_cases hk : 0 < k0
    · have m1 : DL.MulOk (2 + k1) (1 + a3) := mulOk_l (by omega)
      have m2 : DL.MulOk (2 + k1) (1 + b3) := mulOk_l (by omega)
      have bnd : ∀ z : Int, 0 ≤ z → z < 3 → 1 ≤ (2 + k1) * (1 + z) ∧ (2 + k1) * (1 + z) ≤ 40 := fun z z0 z1 => by
        rcases (show z = 0 ∨ z = 1 ∨ z = 2 by omega) with rfl | rfl | rfl <;> omega
      have w1 := bnd a3 q7 q8
      have w2 := bnd b3 r7 r8
      refine ⟨(2 + k1) * (1 + a3), (2 + k1) * (1 + b3), ?_, w1.1, w1.2, w2.1, w2.2⟩
      rw [sE]
      simp only [sS]
      simp [hk, m1, m2, i31]
    · refine ⟨1 + a1, 1 + b1, ?_, by omega, by omega, by omega, by omega⟩
      rw [sE]
      simp only [sS]
      simp [hk]
  have f1 := fmod_rng a2 (m := E1) (by omega)
  have f2 := fmod_rng b2 (m := E2) (by omega)
  obtain ⟨L1, hL1⟩ : ∃ z, z = 1 + a2.fmod E1 := ⟨_, rfl⟩
  obtain ⟨L2, hL2⟩ : ∃ z, z = 1 + b2.fmod E2 := ⟨_, rfl⟩
  have h8 : (gSetIx (dBin oAdd (dC (.int 1)) (dBin oMod (dBin oIx (dVar 2) (dC (.int 2))) (dBin oIx (dVar 4) (dC (.int 1))))) (dVar 4) (dC (.int 2))) (E none) (S [.int a0, .int E1, .int 0] [.int b0, .int E2, .int 0]) =
      some (.nx, E none, S [.int a0, .int E1, .int L1] [.int b0, .int E2, .int 0]) := by
    have z1 : E1 ≠ 0 := by omega
    rw [sE]
    simp only [sS]
    simp [z1, i32, hL1]
  have h9 : (gSetIx (dBin oAdd (dC (.int 1)) (dBin oMod (dBin oIx (dVar 3) (dC (.int 2))) (dBin oIx (dVar 5) (dC (.int 1))))) (dVar 5) (dC (.int 2))) (E none) (S [.int a0, .int E1, .int L1] [.int b0, .int E2, .int 0]) =
      some (.nx, E none, S [.int a0, .int E1, .int L1] [.int b0, .int E2, .int L2]) := by
    have z1 : E2 ≠ 0 := by omega
    rw [sE]
    simp only [sS]
    simp [z1, i32, hL2]
  obtain ⟨B0, M1, M2, y7, h10, v1, v2, v3, v4, v5, v6⟩ : ∃ (B0 M1 M2 : Int) (y7 : Option D), (gIf (dB (dBin oEq (dBin oIx (dVar 1) (dC (.int 0))) (dC (.int 2)))) (gSeq (gIf (dB (dBin oEq (dBin oMod (dBin oSub (dBin oIx (dVar 5) (dC (.int 0))) (dBin oIx (dVar 4) (dC (.int 0)))) (dVar 6)) (dC (.int 0)))) (gSetIx (dBin oMod (dBin oAdd (dBin oIx (dVar 5) (dC (.int 0))) (dC (.int 1))) (dC (.int 100))) (dVar 5) (dC (.int 0))) gNext)
      (gSeq (gSet 7 (dBin oMod (dBin oSub (dBin oIx (dVar 5) (dC (.int 0))) (dBin oIx (dVar 4) (dC (.int 0)))) (dVar 6)))
      (gSeq (gIf (dB (dBin oEq (dVar 7) (dC (.int 0)))) (gSet 7 (dC (.int 1))) gNext)
      (gSeq (gSetIx (dVar 7) (dVar 4) (dC (.int 2)))
      (gSetIx (dBin oAdd (dBin oSub (dVar 6) (dVar 7)) (dBin oIx (dVar 1) (dC (.int 3)))) (dVar 5) (dC (.int 2))))))) gNext) (E none) (S [.int a0, .int E1, .int L1] [.int b0, .int E2, .int L2]) =
      some (.nx, E y7, S [.int a0, .int E1, .int M1] [.int B0, .int E2, .int M2]) ∧ 0 ≤ B0 ∧ B0 ≤ 99 ∧ 1 ≤ M1 ∧ M1 ≤ 100 ∧ 1 ≤ M2 ∧ M2 ≤ 100 := by
    by_cases hk : k0 = 2
    · have z6 : 2 + k1 ≠ 0 := by omega
      obtain ⟨B0, g1, w1, w2⟩ : ∃ B0 : Int, (gIf (dB (dBin oEq (dBin oMod (dBin oSub (dBin oIx (dVar 5) (dC (.int 0))) (dBin oIx (dVar 4) (dC (.int 0)))) (dVar 6)) (dC (.int 0)))) (gSetIx (dBin oMod (dBin oAdd (dBin oIx (dVar 5) (dC (.int 0))) (dC (.int 1))) (dC (.int 100))) (dVar 5) (dC (.int 0))) gNext)
          (E none) (S [.int a0, .int E1, .int L1] [.int b0, .int E2, .int L2]) = some (.nx, E none, S [.int a0, .int E1, .int L1] [.int B0, .int E2, .int L2]) ∧ 0 ≤ B0 ∧ B0 ≤ 99 := by
        by_cases hz : (b0 - a0).fmod (2 + k1) = 0
        · have f3 := fmod_rng (b0 + 1) (m := 100) (by decide)
          refine ⟨(b0 + 1).fmod 100, ?_, f3.1, by omega⟩
          rw [sE]
          simp only [sS]
          simp [z6, hz, i30]
        · refine ⟨b0, ?_, by omega, by omega⟩
          rw [sE]
          simp only [sS]
          simp [z6, hz]
      have f4 := fmod_rng (B0 - a0) (m := 2 + k1) (by omega)
      obtain ⟨gp, hgp⟩ : ∃ z, z = (B0 - a0).fmod (2 + k1) := ⟨_, rfl⟩
      rw [← hgp] at f4
      obtain ⟨G, g3, w3, w4⟩ : ∃ G : Int, (gIf (dB (dBin oEq (dVar 7) (dC (.int 0)))) (gSet 7 (dC (.int 1))) gNext) (E (some (.int gp))) (S [.int a0, .int E1, .int L1] [.int B0, .int E2, .int L2]) =
          some (.nx, E (some (.int G)), S [.int a0, .int E1, .int L1] [.int B0, .int E2, .int L2]) ∧ 1 ≤ G ∧ G < 2 + k1 := by
        by_cases hz : gp = 0
        · exact ⟨1, by rw [sE, sE]; simp [hz], by omega, by omega⟩
        · exact ⟨gp, by rw [sE]; simp [hz], by omega, by omega⟩
      refine ⟨B0, G, 2 + k1 - G + k3, some (.int G), ?_, w1, w2, w3, by omega, by omega, by omega⟩
      rw [e_if]
      have tst : (dB (dBin oEq (dBin oIx (dVar 1) (dC (.int 0))) (dC (.int 2)))) (E none) (S [.int a0, .int E1, .int L1] [.int b0, .int E2, .int L2]) = some (true, S [.int a0, .int E1, .int L1] [.int b0, .int E2, .int L2]) := by
        rw [sE]
        simp only [sS]
        simp [hk]
      rw [tst, Option.bind_some]
      show gSeq _ _ _ _ = _
      refine step g1 (step (ρ1 := E (some (.int gp))) (st1 := S [.int a0, .int E1, .int L1] [.int B0, .int E2, .int L2]) ?_ (step g3 (step (ρ1 := E (some (.int G))) (st1 := S [.int a0, .int E1, .int G] [.int B0, .int E2, .int L2]) ?_ ?_)))
      · rw [sE, sE]
        simp only [sS]
        simp [z6, hgp]
      · rw [sE]
        simp only [sS]
        simp [i32]
      · rw [sE]
        simp only [sS]
        simp [i32]
    · refine ⟨b0, L1, L2, none, ?_, by omega, by omega, by omega, by omega, by omega, by omega⟩
      rw [sE]
      simp only [sS]
      simp [hk]
  refine ⟨⟨a0, E1, M1⟩, ⟨B0, E2, M2⟩, ?_, ⟨q1, by simp only; omega, u1, u2, v3, v4⟩, ⟨v1, v2, u3, u4, v5, v6⟩⟩
  unfold F_n_law_pair
  refine fn_drop (gr := S [.int a0, .int E1, .int M1] [.int B0, .int E2, .int M2]) (ρ := E y7) ?_ (by simp [encT, belowD, belowDs])
  unfold G_n_law_pair
  refine step (ρ1 := [x, some (.ref 1), none, none, none, none, none, none]) (st1 := [.lst [.int 3, .int 12, .int 3, .int 2], .lst [.int k0, .int k1, .int k2, .int k3]]) (by simp [e0, d0, hx]) ?_
  refine step (ρ1 := [x, some (.ref 1), some (.ref 3), none, none, none, none, none]) (st1 := [.lst [.int 3, .int 12, .int 3, .int 2], .lst [.int k0, .int k1, .int k2, .int k3], .lst [.int 100, .int 40, .int 40, .int 3], .lst [.int a0, .int a1, .int a2, .int a3]]) (by simp [e1, d1, hx]) ?_
  refine step (ρ1 := [x, some (.ref 1), some (.ref 3), some (.ref 5), none, none, none, none]) (st1 := [.lst [.int 3, .int 12, .int 3, .int 2], .lst [.int k0, .int k1, .int k2, .int k3], .lst [.int 100, .int 40, .int 40, .int 3], .lst [.int a0, .int a1, .int a2, .int a3],
    .lst [.int 100, .int 40, .int 40, .int 3], .lst [.int b0, .int b1, .int b2, .int b3]]) (by simp [e2, d2, hx]) ?_
  refine step (ρ1 := [x, some (.ref 1), some (.ref 3), some (.ref 5), some (.ref 6), none, none, none]) (st1 := [.lst [.int 3, .int 12, .int 3, .int 2], .lst [.int k0, .int k1, .int k2, .int k3], .lst [.int 100, .int 40, .int 40, .int 3], .lst [.int a0, .int a1, .int a2, .int a3],
    .lst [.int 100, .int 40, .int 40, .int 3], .lst [.int b0, .int b1, .int b2, .int b3], .lst [.int a0, .int (1 + a1), .int 0]]) (by simp) ?_
  refine step (ρ1 := [x, some (.ref 1), some (.ref 3), some (.ref 5), some (.ref 6), some (.ref 7), none, none]) (st1 := S [.int a0, .int (1 + a1), .int 0] [.int b0, .int (1 + b1), .int 0]) (by rw [sS]; simp) ?_
  refine step (ρ1 := E none) (st1 := S [.int a0, .int (1 + a1), .int 0] [.int b0, .int (1 + b1), .int 0]) (by rw [sE, sS]; simp) ?_
  refine step h7 (step h8 (step h9 (step h10 ?_)))
  rw [sE]
  simp only [sS]
  simp [encT]
end W
end

section
set_option Elab.async false
set_option linter.all false
set_option maxRecDepth 100000
set_option maxHeartbeats 1000000
namespace W
open PySem PySem.Spec PyProof.Rows L2 DL
/-! ### slots -/
def gcdZ (A B : Sl) : Int := ((Int.gcd A.e B.e : Nat) : Int)
def gapZ (A B : Sl) : Int := (B.s - A.s) % gcdZ A B
def playZ (T : Sl) (t : Int) : Bool := decide (T.s ≤ t) && decide ((t - T.s) % T.e < T.l)
def apartZ (A B : Sl) : Bool := decide (A.l ≤ gapZ A B) && decide (gapZ A B + B.l ≤ gcdZ A B)
theorem gcd_facts {A B : Sl} (hA : OkS A) (hB : OkS B) : 1 ≤ gcdZ A B ∧ gcdZ A B ≤ 40 ∧ gcdZ A B ∣ A.e ∧ gcdZ A B ∣ B.e := by
  have h1 : gcdZ A B ∣ A.e := Int.gcd_dvd_left (a := A.e) (b := B.e)
  have h2 : gcdZ A B ∣ B.e := Int.gcd_dvd_right (a := A.e) (b := B.e)
  have h0 : 0 < Int.gcd A.e B.e := Int.gcd_pos_iff.mpr (.inl (by have := hA.e0; omega))
  have h3 : gcdZ A B ≤ A.e := Int.le_of_dvd (by have := hA.e0; omega) h1
  have h4 := hA.e1
  refine ⟨by unfold gcdZ; omega, by omega, h1, h2⟩
theorem f_plays (T : Sl) (t : Int) (st : Sto) (h : OkS T) : F_plays [encT T, .int t] st = some (.bl (playZ T t), st) := by
  have e0 : T.e ≠ 0 := by have := h.e0; omega
  have ef : (t - T.s).fmod T.e = (t - T.s) % T.e := fmod_pos _ (by have := h.e0; omega)
  unfold F_plays
  refine fn_same (ρ := [some (encT T), some (.int t), some (.int T.s), some (.int T.e), some (.int T.l)]) ?_
  unfold G_plays
  refine step (ρ1 := [some (encT T), some (.int t), some (.int T.s), some (.int T.e), some (.int T.l)]) (st1 := st) (by simp [encT]) ?_
  by_cases hs : T.s ≤ t
  · simp [hs, e0, ef, playZ]
  · simp [hs, playZ]
theorem f_gap (A B : Sl) (st : Sto) (hA : OkS A) (hB : OkS B) : F_gap_of [encT A, encT B] st = some (.tup [.int (gcdZ A B), .int (gapZ A B)], st) := by
  have g := f_gcd A.e B.e st
  obtain ⟨g1, _, _, _⟩ := gcd_facts hA hB
  have hf : (B.s - A.s).fmod (gcdZ A B) = gapZ A B := fmod_pos _ (by omega)
  have g0 : gcdZ A B ≠ 0 := by omega
  have g' : F_gcd_of [.int A.e, .int B.e] st = some (.int (gcdZ A B), st) := g
  unfold F_gap_of
  refine fn_same (ρ := [some (encT A), some (encT B), some (.int (gcdZ A B))]) ?_
  unfold G_gap_of
  simp [encT, g', g0, hf]
theorem f_apart (A B : Sl) (st : Sto) (hA : OkS A) (hB : OkS B) : F_stand_apart [encT A, encT B] st = some (.bl (apartZ A B), st) := by
  have g := f_gap A B st hA hB
  unfold F_stand_apart
  refine fn_same (ρ := [some (encT A), some (encT B), some (.int (gcdZ A B)), some (.int (gapZ A B))]) ?_
  unfold G_stand_apart
  refine step (ρ1 := [some (encT A), some (encT B), some (.int (gcdZ A B)), some (.int (gapZ A B))]) (st1 := st) (by simp [g]) ?_
  by_cases h : A.l ≤ gapZ A B
  · simp [encT, h, apartZ]
  · simp [encT, h, apartZ]
def lenZ (A B : Sl) : Int := A.e / gcdZ A B * B.e
def fstZ (A B : Sl) : Int := if B.s > A.s then B.s else A.s
def meetO (A B : Sl) : Option Int := (rngZ (fstZ A B) (lenZ A B).toNat).find? fun t => playZ A t && playZ B t
def encM : Option Int → D
  | none => .non
  | some t => .int t
theorem len_facts {A B : Sl} (hA : OkS A) (hB : OkS B) : 1 ≤ lenZ A B ∧ lenZ A B ≤ 1600 ∧ lenZ A B = A.e * B.e / gcdZ A B ∧ A.e ∣ lenZ A B ∧ B.e ∣ lenZ A B := by
  obtain ⟨g1, g2, ⟨a, ha⟩, ⟨b, hb⟩⟩ := gcd_facts hA hB
  have g0 : gcdZ A B ≠ 0 := by omega
  have e1 : A.e / gcdZ A B = a := by rw [ha, Int.mul_ediv_cancel_left _ g0]
  have e2 : A.e * B.e / gcdZ A B = a * B.e := by
    rw [ha, Int.mul_assoc, Int.mul_ediv_cancel_left _ g0]
  have a1 : 1 ≤ a := by
    have h := hA.e0
    rw [ha] at h
    refine Classical.byContradiction fun hc => ?_
    have := Int.mul_nonneg (show 0 ≤ gcdZ A B by omega) (show 0 ≤ -a by omega)
    rw [Int.mul_neg] at this
    omega
  have a2 : a ≤ 40 := by
    have h := hA.e1
    rw [ha] at h
    have := Int.mul_nonneg (show 0 ≤ gcdZ A B - 1 by omega) (show 0 ≤ a by omega)
    rw [Int.sub_mul] at this
    omega
  have l : lenZ A B = a * B.e := by unfold lenZ; rw [e1]
  have b0 := hB.e0
  have b1 := hB.e1
  refine ⟨?_, ?_, by rw [l, e2], ⟨b, by rw [l, hb, ha, ← Int.mul_assoc, Int.mul_comm a (gcdZ A B)]⟩, ⟨a, by rw [l, Int.mul_comm]⟩⟩
  · rw [l]
    have := Int.mul_pos (show 0 < a by omega) (show 0 < B.e by omega)
    omega
  · rw [l]
    have h1 := Int.mul_le_mul_of_nonneg_right a2 (show 0 ≤ B.e by omega)
    omega
theorem f_lcm (A B : Sl) (st : Sto) (hA : OkS A) (hB : OkS B) : F_lcm_of [.int A.e, .int B.e] st = some (.int (lenZ A B), st) := by
  obtain ⟨g1, g2, _, _⟩ := gcd_facts hA hB
  have g' : F_gcd_of [.int A.e, .int B.e] st = some (.int (gcdZ A B), st) := f_gcd A.e B.e st
  have dv : DivOk (gcdZ A B) := ⟨by omega, by omega⟩
  have ef : A.e.fdiv (gcdZ A B) = A.e / gcdZ A B := fdiv_pos _ (by omega)
  have m1 : DL.MulOk (A.e / gcdZ A B) B.e := mulOk_r (by have := hB.e0; have := hB.e1; omega)
  unfold F_lcm_of
  refine fn_same (ρ := [some (.int A.e), some (.int B.e)]) ?_
  unfold G_lcm_of
  simp [g', dv, ef, m1, lenZ]
theorem rng2_ok {lo n : Int} (h0 : 0 ≤ lo) (h1 : lo ≤ 1000000) (h2 : 0 ≤ n) (h3 : n ≤ 1000000) : RngOk lo ∧ RngOk (lo + n) ∧ (lo + n - lo).toNat = n.toNat :=
  ⟨⟨by omega, by omega⟩, ⟨by omega, by omega⟩, by omega⟩
theorem fst_facts {A B : Sl} (hA : OkS A) (hB : OkS B) : 0 ≤ fstZ A B ∧ fstZ A B ≤ 99 := by
  have := hA.s0
  have := hA.s1
  have := hB.s0
  have := hB.s1
  unfold fstZ
  split <;> omega
theorem f_least (A B : Sl) (st : Sto) (hA : OkS A) (hB : OkS B) : F_least_meeting [encT A, encT B] st = some (encM (meetO A B), st) := by
  obtain ⟨l1, l2, _⟩ := len_facts hA hB
  obtain ⟨s1, s2⟩ := fst_facts hA hB
  obtain ⟨r1, r2, r3⟩ := rng2_ok s1 (by omega) (show 0 ≤ lenZ A B by omega) (by omega)
  obtain ⟨x, ρ', e, hx⟩ := loop_first (src := .seq (rngD (fstZ A B) (lenZ A B).toNat)) (i := 3) (g := gIf (dAndT (dTr (dCall F_plays [] (dCons (dVar 0) (dCons (dVar 3) dNil)))) (dTr (dCall F_plays [] (dCons (dVar 1) (dCons (dVar 3) dNil))))) (gRet (dVar 3)) gNext) (st := st)
    (fun t => playZ A t && playZ B t) (rngZ (fstZ A B) (lenZ A B).toNat) [some (encT A), some (encT B), some (.int (fstZ A B)), none] (by simp) fun t ht => by
      have p1 := f_plays A t st hA
      have p2 := f_plays B t st hB
      cases h1 : playZ A t with
      | false => simp [p1, h1]
      | true => cases h2 : playZ B t <;> simp [p1, p2, h1, h2]
  rw [← rng_map] at hx
  have q1 : F_lcm_of [.int A.e, .int B.e] st = some (.int (lenZ A B), st) := f_lcm A B st hA hB
  have src : (srcRng2 (dCons (dVar 2) (dCons (dBin oAdd (dVar 2) (dCall F_lcm_of [] (dCons (dBin oIx (dVar 0) (dC (.int 1))) (dCons (dBin oIx (dVar 1) (dC (.int 1))) dNil)))) dNil))) [some (encT A), some (encT B), some (.int (fstZ A B)), none] st =
      some (.seq (rngD (fstZ A B) (lenZ A B).toNat), st) := by
    simp [encT, q1, r1, r2, r3]
  unfold F_least_meeting
  unfold G_least_meeting
  have s1' : (gSet 2 (dCB bMax2 (dCons (dBin oIx (dVar 0) (dC (.int 0))) (dCons (dBin oIx (dVar 1) (dC (.int 0))) dNil)))) (startD 4 [encT A, encT B]) st = some (.nx, [some (encT A), some (encT B), some (.int (fstZ A B)), none], st) := by
    simp [encT, fstZ]
  cases hm : (rngZ (fstZ A B) (lenZ A B).toNat).find? (fun t => playZ A t && playZ B t) with
  | none =>
    rw [hm] at hx
    have hM : meetO A B = none := hm
    refine fn_same (ρ := ρ') ?_
    refine step s1' (step (e_for' src rfl hx) ?_)
    rw [hM]
    rfl
  | some t =>
    rw [hm] at hx
    have hM : meetO A B = some t := hm
    refine fn_same (ρ := ρ') ?_
    refine step s1' (step_rt ?_)
    rw [hM]
    exact e_for' src rfl hx
def apD (A B : Sl) : D := .tup [.str "apart", .int (gcdZ A B), .int (gapZ A B)]
theorem f_report (A B : Sl) (st : Sto) (hA : OkS A) (hB : OkS B) : F_pair_report [encT A, encT B] st = some (if apartZ A B = true then apD A B else .tup [.str "meets", encM (meetO A B)], st) := by
  have g := f_gap A B st hA hB
  have a := f_apart A B st hA hB
  have m := f_least A B st hA hB
  unfold F_pair_report
  refine fn_same (ρ := [some (encT A), some (encT B)]) ?_
  unfold G_pair_report
  cases h : apartZ A B with
  | true =>
    rw [h] at a
    simp [a, g, apD]
  | false =>
    rw [h] at a
    simp [a, m]
/-! ### the law's own words of slots -/
theorem f_law_plays (T : Sl) (t : Int) (st : Sto) (h : OkS T) : F_n_law_plays [encT T, .int t] st = some (.bl (playZ T t), st) := by
  have e0 := h.e0
  have e1 := h.e1
  have dv : DivOk T.e := ⟨by omega, by omega⟩
  have ef : (t - T.s).fdiv T.e = (t - T.s) / T.e := fdiv_pos _ (by omega)
  have m1 : DL.MulOk ((t - T.s) / T.e) T.e := mulOk_r (by omega)
  have em : t - T.s - (t - T.s) / T.e * T.e = (t - T.s) % T.e := by
    rw [Int.emod_def, Int.mul_comm]
  unfold F_n_law_plays
  refine fn_same (ρ := [some (encT T), some (.int t), some (.int (t - T.s))]) ?_
  unfold G_n_law_plays
  refine step (ρ1 := [some (encT T), some (.int t), some (.int (t - T.s))]) (st1 := st) (by simp [encT]) ?_
  by_cases hs : T.s ≤ t
  · have hs' : 0 ≤ t - T.s := by omega
    simp [encT, hs, hs', dv, ef, m1, em, playZ]
  · have hs' : ¬ 0 ≤ t - T.s := by omega
    simp [encT, hs, hs', playZ]
theorem ints_map : ∀ ns : List Int, intsD (ns.map D.int) = some ns
  | [] => rfl
  | n :: ns => by
    have ih := ints_map ns
    simp [intsD, ih]
theorem f_common (A B : Sl) (st : Sto) (hA : OkS A) (hB : OkS B) : F_n_law_common [.int A.e, .int B.e] st = some (.int (gcdZ A B), st) := by
  obtain ⟨g1, g2, g3, g4⟩ := gcd_facts hA hB
  obtain ⟨q, hq⟩ : ∃ q : D → Bool, q = fun d => match d with | .int k => decide (A.e.fmod k = 0) && decide (B.e.fmod k = 0) | _ => false := ⟨_, rfl⟩
  have lc := lc_filter (src := .seq (rngD 1 40)) (n := nName 2) (tt := dAndT (dB (dBin oEq (dBin oMod (dVar 0) (dVar 2)) (dC (.int 0)))) (dB (dBin oEq (dBin oMod (dVar 1) (dVar 2)) (dC (.int 0))))) (el := dVar 2) (ρ := [some (.int A.e), some (.int B.e), none]) (st := st)
    q id (rngD 1 40) fun d hd => by
      obtain ⟨i, hi, rfl⟩ := mem_rng hd
      have z : (1 : Int) + i ≠ 0 := by omega
      refine ⟨[some (.int A.e), some (.int B.e), some (.int (1 + (i : Int)))], rfl, ?_, fun _ => by simp⟩
      rw [hq]
      by_cases h1 : A.e.fmod (1 + (i : Int)) = 0
      · simp [z, h1]
        rfl
      · simp [z, h1]
  have fl : (rngD 1 40).filter q = ((rngZ 1 40).filter fun k => q (.int k)).map D.int := by
    rw [rng_map, List.filter_map]
    rfl
  have mx : ((rngZ 1 40).filter fun k => q (.int k)).max? = some (gcdZ A B) := by
    rw [List.max?_eq_some_iff]
    constructor
    · rw [List.mem_filter]
      refine ⟨mem_rngZ.mpr (by omega), ?_⟩
      rw [hq]
      simp only [Bool.and_eq_true, decide_eq_true_eq]
      rw [fmod_pos _ (by omega), fmod_pos _ (by omega)]
      exact ⟨Int.emod_eq_zero_of_dvd g3, Int.emod_eq_zero_of_dvd g4⟩
    · intro k hk
      rw [List.mem_filter] at hk
      have kr := mem_rngZ.mp hk.1
      have kq := hk.2
      rw [hq] at kq
      simp only [Bool.and_eq_true, decide_eq_true_eq] at kq
      rw [fmod_pos _ (by omega), fmod_pos _ (by omega)] at kq
      have k1 := Int.dvd_of_emod_eq_zero kq.1
      have k2 := Int.dvd_of_emod_eq_zero kq.2
      have k3 : k ∣ gcdZ A B := Int.dvd_coe_gcd k1 k2
      exact Int.le_of_dvd (by omega) k3
  have ln : ((rngZ 1 40).filter fun k => q (.int k)).length ≤ 16777216 := Nat.le_trans (List.length_filter_le _ _) (by simp [rngZ])
  have im := ints_map ((rngZ 1 40).filter fun k => q (.int k))
  unfold F_n_law_common
  refine fn_drop (gr := [.lst (((rngZ 1 40).filter fun k => q (.int k)).map D.int)]) (ρ := [some (.int A.e), some (.int B.e), none]) ?_ (by simp [belowD])
  unfold G_n_law_common
  rw [fl] at lc
  rw [List.map_id] at lc
  have r1 : RngOk 1 := rngOk (by decide)
  have r41 : RngOk 41 := rngOk (by decide)
  have c1 : (dNew (lLc (srcRng2 (dCons (dC (.int 1)) (dCons (dC (.int 41)) dNil))) (nName 2) (dAndT (dB (dBin oEq (dBin oMod (dVar 0) (dVar 2)) (dC (.int 0)))) (dB (dBin oEq (dBin oMod (dVar 1) (dVar 2)) (dC (.int 0))))) (dVar 2) [2])) [some (.int A.e), some (.int B.e), none] st =
      some (.ref st.length, st ++ [.lst (((rngZ 1 40).filter fun k => q (.int k)).map D.int)]) := by
    simp [r1, r41, lc, ln]
  rw [e_ret, e_dCB, e_dCons]
  show Option.map _ ((((dNew _ [some (.int A.e), some (.int B.e), none] st).bind _)).bind _) = _
  rw [c1]
  show Option.map _ (bMaxL [.ref st.length] (st ++ [.lst (((rngZ 1 40).filter fun k => q (.int k)).map D.int)])) = _
  unfold bMaxL
  simp [im, mx]
theorem f_law_meeting (A B : Sl) (st : Sto) (hA : OkS A) (hB : OkS B) : F_n_law_meeting [encT A, encT B] st = some (encM (meetO A B), st) := by
  obtain ⟨g1, g2, g3, g4⟩ := gcd_facts hA hB
  obtain ⟨l1, l2, l3, _⟩ := len_facts hA hB
  obtain ⟨s1, s2⟩ := fst_facts hA hB
  obtain ⟨r1, r2, r3⟩ := rng2_ok s1 (by omega) (show 0 ≤ lenZ A B by omega) (by omega)
  obtain ⟨x, ρ', e, hx⟩ := loop_first (src := .seq (rngD (fstZ A B) (lenZ A B).toNat)) (i := 3) (g := gIf (dAndT (dTr (dCall F_n_law_plays [] (dCons (dVar 0) (dCons (dVar 3) dNil)))) (dTr (dCall F_n_law_plays [] (dCons (dVar 1) (dCons (dVar 3) dNil))))) (gRet (dVar 3)) gNext) (st := st)
    (fun t => playZ A t && playZ B t) (rngZ (fstZ A B) (lenZ A B).toNat) [some (encT A), some (encT B), some (.int (fstZ A B)), none] (by simp) fun t ht => by
      have p1 := f_law_plays A t st hA
      have p2 := f_law_plays B t st hB
      cases h1 : playZ A t with
      | false => simp [p1, h1]
      | true => cases h2 : playZ B t <;> simp [p1, p2, h1, h2]
  rw [← rng_map] at hx
  have q1 := f_common A B st hA hB
  have m1 : DL.MulOk A.e B.e := mulOk_l (by have := hA.e0; have := hA.e1; omega)
  have dv : DivOk (gcdZ A B) := ⟨by omega, by omega⟩
  have ef : (A.e * B.e).fdiv (gcdZ A B) = lenZ A B := by rw [fdiv_pos _ (by omega), l3]
  have src : (srcRng2 (dCons (dVar 2) (dCons (dBin oAdd (dVar 2) (dBin oFdiv (dBin oMul (dBin oIx (dVar 0) (dC (.int 1))) (dBin oIx (dVar 1) (dC (.int 1)))) (dCall F_n_law_common [] (dCons (dBin oIx (dVar 0) (dC (.int 1))) (dCons (dBin oIx (dVar 1) (dC (.int 1))) dNil))))) dNil))) [some (encT A), some (encT B), some (.int (fstZ A B)), none] st =
      some (.seq (rngD (fstZ A B) (lenZ A B).toNat), st) := by
    simp [encT, q1, m1, dv, ef, r1, r2, r3]
  unfold F_n_law_meeting
  unfold G_n_law_meeting
  have s1' : (gSet 2 (dCB bMax2 (dCons (dBin oIx (dVar 0) (dC (.int 0))) (dCons (dBin oIx (dVar 1) (dC (.int 0))) dNil)))) (startD 4 [encT A, encT B]) st = some (.nx, [some (encT A), some (encT B), some (.int (fstZ A B)), none], st) := by
    simp [encT, fstZ]
  cases hm : (rngZ (fstZ A B) (lenZ A B).toNat).find? (fun t => playZ A t && playZ B t) with
  | none =>
    rw [hm] at hx
    have hM : meetO A B = none := hm
    refine fn_same (ρ := ρ') ?_
    refine step s1' (step (e_for' src rfl hx) ?_)
    rw [hM]
    rfl
  | some t =>
    rw [hm] at hx
    have hM : meetO A B = some t := hm
    refine fn_same (ρ := ρ') ?_
    refine step s1' (step_rt ?_)
    rw [hM]
    exact e_for' src rfl hx
def dueD (A B : Sl) : D := match meetO A B with
  | some t => .tup [.str "meets", .int t]
  | none => apD A B
theorem f_due (A B : Sl) (st : Sto) (hA : OkS A) (hB : OkS B) : F_n_law_due [encT A, encT B] st = some (dueD A B, st) := by
  obtain ⟨g1, g2, g3, g4⟩ := gcd_facts hA hB
  have m := f_law_meeting A B st hA hB
  have c := f_common A B st hA hB
  have dv : DivOk (gcdZ A B) := ⟨by omega, by omega⟩
  have ef : (B.s - A.s).fdiv (gcdZ A B) = (B.s - A.s) / gcdZ A B := fdiv_pos _ (by omega)
  have m1 : DL.MulOk ((B.s - A.s) / gcdZ A B) (gcdZ A B) := mulOk_r (by omega)
  have em : B.s - A.s - (B.s - A.s) / gcdZ A B * gcdZ A B = gapZ A B := by
    unfold gapZ
    rw [Int.emod_def, Int.mul_comm]
  unfold F_n_law_due dueD
  cases h : meetO A B with
  | some t =>
    rw [h] at m
    refine fn_same (ρ := [some (encT A), some (encT B), some (.int t), none, none]) ?_
    unfold G_n_law_due
    simp [m, encM]
  | none =>
    rw [h] at m
    refine fn_same (ρ := [some (encT A), some (encT B), some .non, some (.int (gcdZ A B)), some (.int (B.s - A.s))]) ?_
    unfold G_n_law_due
    simp only [encT] at m ⊢
    simp [m, encM, c, dv, ef, m1, em, apD]
end W
end

section
set_option Elab.async false
set_option linter.all false
set_option maxRecDepth 100000
set_option maxHeartbeats 1000000
namespace W
open PySem PySem.Spec PyProof.Rows L2 DL
/-! ### two slots meet or stand apart -/
theorem bezout : ∀ (n : Nat) (a b : Int), 0 ≤ a → 0 ≤ b → b < n → ∃ x y : Int, a * x + b * y = ((Int.gcd a b : Nat) : Int)
  | 0, a, b, _, hb, h => absurd h (by omega)
  | n + 1, a, b, ha, hb, h => by
    by_cases h0 : b = 0
    · subst h0
      refine ⟨1, 0, ?_⟩
      rw [Int.gcd_zero]
      omega
    · have h1 := Int.emod_nonneg a h0
      have h2 := Int.emod_lt_of_pos a (show 0 < b by omega)
      obtain ⟨x, y, e⟩ := bezout n b (a % b) hb h1 (by omega)
      have eg : Int.gcd b (a % b) = Int.gcd a b := by rw [Int.gcd_comm b (a % b), Int.emod_def, Int.gcd_sub_mul_left_left]
      refine ⟨y, x - a / b * y, ?_⟩
      rw [← eg, ← e, Int.emod_def]
      rw [Int.mul_sub, Int.sub_mul, Int.mul_comm a y, Int.mul_assoc b (a / b) y]
      omega
/-- a turn at given places in both rounds -/
theorem crt {a b r q g : Int} (ha : 1 ≤ a) (hb : 1 ≤ b) (hg : g = ((Int.gcd a b : Nat) : Int)) (h : g ∣ q - r) : ∃ t, a ∣ t - r ∧ b ∣ t - q := by
  obtain ⟨x, y, e⟩ := bezout (b.toNat + 1) a b (by omega) (by omega) (by omega)
  obtain ⟨k, hk⟩ := h
  rw [← hg] at e
  refine ⟨r + a * (x * k), ⟨x * k, by omega⟩, ⟨-(y * k), ?_⟩⟩
  have h1 : q - r = a * (x * k) + b * (y * k) := by rw [hk, ← e, Int.add_mul, Int.mul_assoc, Int.mul_assoc]
  rw [Int.mul_neg]
  omega
/-- moved into a span of a whole round -/
theorem crt_in {a b r q g l : Int} (lo : Int) (ha : 1 ≤ a) (hb : 1 ≤ b) (hg : g = ((Int.gcd a b : Nat) : Int)) (h : g ∣ q - r) (hl : 1 ≤ l) (la : a ∣ l) (lb : b ∣ l) : ∃ t, lo ≤ t ∧ t < lo + l ∧ a ∣ t - r ∧ b ∣ t - q := by
  obtain ⟨t, h1, h2⟩ := crt ha hb hg h
  have m1 := Int.emod_nonneg (t - lo) (show l ≠ 0 by omega)
  have m2 := Int.emod_lt_of_pos (t - lo) (show 0 < l by omega)
  have em : (t - lo) % l = (t - lo) - l * ((t - lo) / l) := Int.emod_def _ _
  refine ⟨lo + (t - lo) % l, by omega, by omega, ?_, ?_⟩
  · have : lo + (t - lo) % l - r = (t - r) - l * ((t - lo) / l) := by omega
    rw [this]
    exact Int.dvd_sub h1 (Int.dvd_mul_of_dvd_left la)
  · have : lo + (t - lo) % l - q = (t - q) - l * ((t - lo) / l) := by omega
    rw [this]
    exact Int.dvd_sub h2 (Int.dvd_mul_of_dvd_left lb)
theorem play_at {T : Sl} (h : OkS T) {t c : Int} (hs : T.s ≤ t) (hc0 : 0 ≤ c) (hc1 : c < T.l) (hc2 : c < T.e) (hd : T.e ∣ t - (T.s + c)) : playZ T t = true := by
  have e : (t - T.s) % T.e = c := by
    obtain ⟨k, hk⟩ := hd
    rw [show t - T.s = c + T.e * k by omega, Int.add_mul_emod_self_left]
    exact Int.emod_eq_of_lt hc0 hc2
  unfold playZ
  rw [e]
  simp [hs, hc1]
theorem meet_apart {A B : Sl} (hA : OkS A) (hB : OkS B) : meetO A B = none ↔ apartZ A B = true := by
  obtain ⟨g1, g2, g3, g4⟩ := gcd_facts hA hB
  obtain ⟨l1, l2, l3, l4, l5⟩ := len_facts hA hB
  have gp0 : 0 ≤ gapZ A B := Int.emod_nonneg _ (by omega)
  have gp1 : gapZ A B < gcdZ A B := Int.emod_lt_of_pos _ (by omega)
  have gA : gcdZ A B ≤ A.e := Int.le_of_dvd (by have := hA.e0; omega) g3
  have gB : gcdZ A B ≤ B.e := Int.le_of_dvd (by have := hB.e0; omega) g4
  have gd : gcdZ A B ∣ (B.s - A.s) - gapZ A B := by
    refine ⟨(B.s - A.s) / gcdZ A B, ?_⟩
    have : gapZ A B = (B.s - A.s) - gcdZ A B * ((B.s - A.s) / gcdZ A B) := Int.emod_def _ _
    omega
  have f1 : A.s ≤ fstZ A B ∧ B.s ≤ fstZ A B := by unfold fstZ; split <;> omega
  have tn : ((lenZ A B).toNat : Int) = lenZ A B := by omega
  unfold meetO
  rw [List.find?_eq_none]
  constructor
  · intro h
    refine Classical.byContradiction fun hc => ?_
    have key : ∃ c d : Int, 0 ≤ c ∧ c < A.l ∧ c < A.e ∧ 0 ≤ d ∧ d < B.l ∧ d < B.e ∧ gcdZ A B ∣ (B.s + d) - (A.s + c) := by
      by_cases h1 : A.l ≤ gapZ A B
      · have h2 : ¬ gapZ A B + B.l ≤ gcdZ A B := fun h2 => hc (by unfold apartZ; simp [h1, h2])
        have := hA.l0
        have := hA.e0
        refine ⟨0, gcdZ A B - gapZ A B, by omega, by omega, by omega, by omega, by omega, by omega, ?_⟩
        have : (B.s + (gcdZ A B - gapZ A B)) - (A.s + 0) = ((B.s - A.s) - gapZ A B) + gcdZ A B := by omega
        rw [this]
        exact Int.dvd_add gd (Int.dvd_refl _)
      · have := hB.l0
        have := hB.e0
        refine ⟨gapZ A B, 0, by omega, by omega, by omega, by omega, by omega, by omega, ?_⟩
        have : (B.s + 0) - (A.s + gapZ A B) = (B.s - A.s) - gapZ A B := by omega
        rw [this]
        exact gd
    obtain ⟨c, d, c0, c1, c2, d0, d1, d2, hd⟩ := key
    obtain ⟨t, t0, t1, ta, tb⟩ := crt_in (fstZ A B) hA.e0 hB.e0 rfl hd l1 l4 l5
    refine h t (mem_rngZ.mpr ⟨t0, by omega⟩) ?_
    simp only [Bool.and_eq_true]
    exact ⟨play_at hA (by omega) c0 c1 c2 ta, play_at hB (by omega) d0 d1 d2 tb⟩
  · intro h t ht hp
    unfold apartZ at h
    simp only [Bool.and_eq_true, decide_eq_true_eq] at h hp
    unfold playZ at hp
    simp only [Bool.and_eq_true, decide_eq_true_eq] at hp
    obtain ⟨⟨p1, p2⟩, p3, p4⟩ := hp
    have a0 := Int.emod_nonneg (t - A.s) (show A.e ≠ 0 by have := hA.e0; omega)
    have b0 := Int.emod_nonneg (t - B.s) (show B.e ≠ 0 by have := hB.e0; omega)
    have ea : (t - A.s) % A.e = (t - A.s) - A.e * ((t - A.s) / A.e) := Int.emod_def _ _
    have eb : (t - B.s) % B.e = (t - B.s) - B.e * ((t - B.s) / B.e) := Int.emod_def _ _
    obtain ⟨u, hu⟩ : ∃ u, u = (t - A.s) % A.e := ⟨_, rfl⟩
    obtain ⟨v, hv⟩ : ∃ v, v = (t - B.s) % B.e := ⟨_, rfl⟩
    have d1 : gcdZ A B ∣ A.e * ((t - A.s) / A.e) := Int.dvd_mul_of_dvd_left g3
    have d2 : gcdZ A B ∣ B.e * ((t - B.s) / B.e) := Int.dvd_mul_of_dvd_left g4
    have d3 := Int.dvd_sub d1 d2
    have d4 : gcdZ A B ∣ (u - v) - gapZ A B := by
      have e : (u - v) - gapZ A B = ((B.s - A.s) - gapZ A B) - (A.e * ((t - A.s) / A.e) - B.e * ((t - B.s) / B.e)) := by
        rw [hu, hv, ea, eb]; omega
      rw [e]
      exact Int.dvd_sub gd d3
    rw [← hu] at p2 a0
    rw [← hv] at p4 b0
    obtain ⟨k, hk⟩ := d4
    have k1 : (u - v) - gapZ A B < 0 := by omega
    have k2 : -(gcdZ A B) < (u - v) - gapZ A B := by omega
    by_cases hk0 : 0 ≤ k
    · have := Int.mul_nonneg (show 0 ≤ gcdZ A B by omega) hk0
      omega
    · have := Int.mul_nonneg (show 0 ≤ gcdZ A B by omega) (show 0 ≤ -1 - k by omega)
      rw [Int.mul_sub] at this
      omega
theorem report_due {A B : Sl} (hA : OkS A) (hB : OkS B) : (if apartZ A B = true then apD A B else .tup [.str "meets", encM (meetO A B)]) = dueD A B := by
  have h := meet_apart hA hB
  unfold dueD
  cases hm : meetO A B with
  | none => rw [if_pos (h.mp hm)]
  | some t => rw [if_neg (fun e => by rw [h.mpr e] at hm; cases hm)]; rfl
end W
end

section
set_option Elab.async false
set_option linter.all false
set_option maxRecDepth 100000
set_option maxHeartbeats 1000000
namespace W
open PySem PySem.Spec PyProof.Rows L2 DL
/-! ### papers -/
def isInt (c : Int) : D → Bool
  | .int i => i == c
  | _ => false
def wholeB (lo hi : Int) : D → Bool
  | .int i => decide (lo ≤ i) && decide (i ≤ hi)
  | _ => false
theorem f_is_whole (l : Nat) (x : D) (lo hi : Int) (st : Sto) (h : smD l x = true) : F_is_whole [x, .int lo, .int hi] st = some (.bl (wholeB lo hi x), st) := by
  unfold F_is_whole
  cases x with
  | ref n => cases l <;> simp [smD] at h
  | fz xs => cases l <;> simp [smD] at h
  | int i => exact fn_same' (by unfold G_is_whole; by_cases h1 : lo ≤ i <;> simp [wholeB, h1])
  | _ => exact fn_same' (by unfold G_is_whole; simp [wholeB])
theorem f_law_whole (l : Nat) (x : D) (lo hi : Int) (st : Sto) (h : smD l x = true) : F_n_law_whole [x, .int lo, .int hi] st = some (.bl (wholeB lo hi x), st) := by
  unfold F_n_law_whole
  cases x with
  | ref n => cases l <;> simp [smD] at h
  | fz xs => cases l <;> simp [smD] at h
  | int i => exact fn_same' (by unfold G_n_law_whole; by_cases h1 : lo ≤ i <;> simp [wholeB, h1])
  | _ => exact fn_same' (by unfold G_n_law_whole; simp [wholeB])
theorem f_word (l : Nat) (x : D) (w : Str) (st : Sto) (h : smD l x = true) : F_n_law_word [x, .str w] st = some (.bl (isStr w x), st) := by
  unfold F_n_law_word
  cases x with
  | ref n => cases l <;> simp [smD] at h
  | fz xs => cases l <;> simp [smD] at h
  | _ => exact fn_same' (by unfold G_n_law_word; simp [isStr])
theorem f_alike_int (l : Nat) (x : D) (c : Int) (st : Sto) (h : smD l x = true) : F_alike_members [x, .int c] st = some (.bl (isInt c x), st) := by
  unfold F_alike_members
  cases x with
  | ref n => cases l <;> simp [smD] at h
  | fz xs => cases l <;> simp [smD] at h
  | _ => exact fn_same' (by unfold G_alike_members; simp [isInt])
theorem same_int (k l : Nat) (x : D) (c : Int) (st : Sto) (h : smD l x = true) : F_n_law_same (k + 1) [x, .int c] st = some (.bl (isInt c x), st) := by
  show fnG 3 (G_n_law_same (F_n_law_same k)) [x, .int c] st = _
  cases x with
  | ref n => cases l <;> simp [smD] at h
  | fz xs => cases l <;> simp [smD] at h
  | _ => exact fn_same' (by unfold G_n_law_same; simp [isInt])
theorem same_bl (k : Nat) (b : Bool) (st : Sto) : F_n_law_same (k + 1) [.bl b, .bl b] st = some (.bl true, st) :=
  fn_same' (by unfold G_n_law_same; simp)
theorem same_str (k : Nat) (z w : Str) (st : Sto) : F_n_law_same (k + 1) [.str z, .str w] st = some (.bl (z == w), st) :=
  fn_same' (by unfold G_n_law_same; simp)
/-- two rows of the same length, told member by member -/
theorem same_rows (k : Nat) (xs ys : List D) (st : Sto) (p : Nat → Bool) (hl : xs.length = ys.length) (hn : xs.length ≤ 1000) (h : ∀ i, (hi : i < xs.length) → F_n_law_same k [xs[i], ys[i]'(by omega)] st = some (.bl (p i), st)) :
    F_n_law_same (k + 1) [.tup xs, .tup ys] st = some (.bl ((List.range xs.length).all p), st) := by
  obtain ⟨f, hf⟩ : ∃ f : D → D, f = fun d => match d with | .int i => .bl (p i.toNat) | _ => .non := ⟨_, rfl⟩
  have lc := lc_map (src := .seq (rngD 0 xs.length)) (n := nName 2) (el := dCall (F_n_law_same k) [] (dCons (dBin oIx (dVar 0) (dVar 2)) (dCons (dBin oIx (dVar 1) (dVar 2)) dNil))) (ρ := [some (.tup xs), some (.tup ys), none]) (st := st)
    f (rngD 0 xs.length) fun d hd => by
      obtain ⟨i, hi, rfl⟩ := mem_rng hd
      have e1 : xs[i]? = some xs[i] := List.getElem?_eq_getElem hi
      have e2 : ys[i]? = some (ys[i]'(by omega)) := List.getElem?_eq_getElem (by omega)
      have hh := h i hi
      refine ⟨[some (.tup xs), some (.tup ys), some (.int (0 + (i : Int)))], rfl, ?_⟩
      rw [hf]
      simp [atI_nat', e1, e2, hh]
  have eb : blsD ((rngD 0 xs.length).map f) = some ((List.range xs.length).map p) := by
    unfold rngD
    rw [List.map_map]
    have go : ∀ is : List Nat, blsD (is.map (f ∘ fun i => D.int (0 + (i : Nat)))) = some (is.map p) := by
      intro is
      induction is with
      | nil => rfl
      | cons i is ih =>
        have e : (f ∘ fun (i : Nat) => D.int (0 + (i : Nat))) i = .bl (p i) := by
          rw [hf]
          show D.bl (p (0 + (i : Int)).toNat) = _
          rw [show (0 + (i : Int)).toNat = i by omega]
        rw [List.map_cons, e]
        show (blsD _).map _ = _
        rw [ih]
        rfl
    exact go _
  have r1 := rng_ok (n := xs.length) (by omega)
  have ln : ((rngD 0 xs.length).map f).length ≤ 16777216 := by rw [List.length_map, rng_len]; omega
  have tn : ((xs.length : Nat) : Int).toNat = xs.length := by omega
  show fnG 3 (G_n_law_same (F_n_law_same k)) [.tup xs, .tup ys] st = _
  refine fn_same (ρ := [some (.tup xs), some (.tup ys), none]) ?_
  unfold G_n_law_same
  refine step_rt ?_
  have t1 : (dOf oAllN (lLc (srcRng1 (dCons (dCB bLen (dCons (dVar 0) dNil)) dNil)) (nName 2) tYesD (dCall (F_n_law_same k) [] (dCons (dBin oIx (dVar 0) (dVar 2)) (dCons (dBin oIx (dVar 1) (dVar 2)) dNil))) [2])) [some (.tup xs), some (.tup ys), none] st =
      some (.bl ((List.range xs.length).all p), st) := by
    have t0 : (lLc (srcRng1 (dCons (dCB bLen (dCons (dVar 0) dNil)) dNil)) (nName 2) tYesD (dCall (F_n_law_same k) [] (dCons (dBin oIx (dVar 0) (dVar 2)) (dCons (dBin oIx (dVar 1) (dVar 2)) dNil))) [2]) [some (.tup xs), some (.tup ys), none] st = some ((rngD 0 xs.length).map f, st) := by
      simp only [List.length_map] at ln
      simp [r1, lc, ln]
    rw [e_dOf, t0]
    show (blsD _).map _ = _
    rw [eb]
    simp
  have tst : (dAndT (dTr (dIsi "tuple" (dVar 0))) (dTr (dIsi "tuple" (dVar 1)))) [some (.tup xs), some (.tup ys), none] st = some (true, st) := by simp
  have eq1 : (dBin oEq (dCB bLen (dCons (dVar 0) dNil)) (dCB bLen (dCons (dVar 1) dNil))) [some (.tup xs), some (.tup ys), none] st = some (.bl true, st) := by simp [hl]
  show gIf (dAndT (dTr (dIsi "tuple" (dVar 0))) (dTr (dIsi "tuple" (dVar 1)))) _ _ [some (.tup xs), some (.tup ys), none] st = _
  rw [e_if, tst, Option.bind_some, if_pos rfl, e_ret, e_dAnd, eq1]
  simp only [Option.bind_some, tru_bl, Option.map_some, if_true]
  rw [t1]
  rfl
theorem same_rows_ne (k : Nat) (xs ys : List D) (st : Sto) (hl : xs.length ≠ ys.length) : F_n_law_same (k + 1) [.tup xs, .tup ys] st = some (.bl false, st) := by
  show fnG 3 (G_n_law_same (F_n_law_same k)) [.tup xs, .tup ys] st = _
  have h : ((xs.length : Int) == (ys.length : Int)) = false := by
    rw [beq_eq_false_iff_ne]
    omega
  have tst : (dAndT (dTr (dIsi "tuple" (dVar 0))) (dTr (dIsi "tuple" (dVar 1)))) [some (.tup xs), some (.tup ys), none] st = some (true, st) := by simp
  have eq1 : (dBin oEq (dCB bLen (dCons (dVar 0) dNil)) (dCB bLen (dCons (dVar 1) dNil))) [some (.tup xs), some (.tup ys), none] st = some (.bl false, st) := by
    simp only [e_bin, e_dCB, e_dCons, e_var, e_dNil, List.getElem?_cons_zero, List.getElem?_cons_succ, Option.bind_some, Option.map_some, b_len_tup, o_eq_int, h]
  refine fn_same (ρ := [some (.tup xs), some (.tup ys), none]) ?_
  unfold G_n_law_same
  refine step_rt ?_
  show gIf (dAndT (dTr (dIsi "tuple" (dVar 0))) (dTr (dIsi "tuple" (dVar 1)))) _ _ [some (.tup xs), some (.tup ys), none] st = _
  rw [e_if, tst, Option.bind_some, if_pos rfl, e_ret, e_dAnd, eq1]
  rfl
/-- the program's same, of two members against two numbers -/
theorem f_same2 (x y : D) (c d : Int) (st : Sto) (hx : smD 2 x = true) (hy : smD 2 y = true) : F_same [.tup [x, y], .tup [.int c, .int d]] st = some (.bl (isInt d y && isInt c x), st) := by
  have a1 := fun st' => f_alike_int 2 x c st' hx
  have a2 := fun st' => f_alike_int 2 y d st' hy
  have n1 : ∀ z : D, isiB "tuple" (.int c) = false := fun _ => rfl
  unfold F_same
  have r2 : RngOk 2 := rngOk (by decide)
  obtain ⟨body, hb⟩ : ∃ g : DG, g = (gSeq (gAsg (dMeth oPop (dVar 2) dNil) (nTup 2 (nCons (nName 3) (nCons (nName 4) nNil))))
    (gIf (dAndT (dTr (dIsi "tuple" (dVar 3))) (dTr (dIsi "tuple" (dVar 4)))) (gSeq (gIf (dB (dBin oNe (dCB bLen (dCons (dVar 3) dNil)) (dCB bLen (dCons (dVar 4) dNil)))) (gRet (dC (.bl false))) gNext)
    (gFor (srcRng1 (dCons (dCB bLen (dCons (dVar 3) dNil)) dNil)) (nName 5) (gDrop (dMeth oApp (dVar 2) (dCons (dTup (dCons (dBin oIx (dVar 3) (dVar 5)) (dCons (dBin oIx (dVar 4) (dVar 5)) dNil))) dNil))))) (gIf (dNotT (dTr (dCall F_alike_members [] (dCons (dVar 3) (dCons (dVar 4) dNil))))) (gRet (dC (.bl false))) gNext))) := ⟨_, rfl⟩
  have b1 : body [some (.tup [x, y]), some (.tup [.int c, .int d]), some (.ref st.length), none, none, none] (st ++ [.lst [.tup [.tup [x, y], .tup [.int c, .int d]]]]) =
      some (.nx, [some (.tup [x, y]), some (.tup [.int c, .int d]), some (.ref st.length), some (.tup [x, y]), some (.tup [.int c, .int d]), some (.int 1)], st ++ [.lst [.tup [x, .int c], .tup [y, .int d]]]) := by
    rw [hb]
    refine step (ρ1 := [some (.tup [x, y]), some (.tup [.int c, .int d]), some (.ref st.length), some (.tup [x, y]), some (.tup [.int c, .int d]), none]) (st1 := st ++ [.lst []]) ?_ ?_
    · simp [set_end]
    · have lp : loopG (.seq (rngD 0 2)) (nName 5) (gDrop (dMeth oApp (dVar 2) (dCons (dTup (dCons (dBin oIx (dVar 3) (dVar 5)) (dCons (dBin oIx (dVar 4) (dVar 5)) dNil))) dNil))) (rngD 0 2)
          [some (.tup [x, y]), some (.tup [.int c, .int d]), some (.ref st.length), some (.tup [x, y]), some (.tup [.int c, .int d]), none] (st ++ [.lst []]) =
          some (.nx, [some (.tup [x, y]), some (.tup [.int c, .int d]), some (.ref st.length), some (.tup [x, y]), some (.tup [.int c, .int d]), some (.int 1)], st ++ [.lst [.tup [x, .int c], .tup [y, .int d]]]) := by
        show loopG _ _ _ [.int (0 + ((0 : Nat) : Int)), .int (0 + ((1 : Nat) : Int))] _ _ = _
        refine (loop_nx (ρ1 := [some (.tup [x, y]), some (.tup [.int c, .int d]), some (.ref st.length), some (.tup [x, y]), some (.tup [.int c, .int d]), some (.int 0)])
          (ρ2 := [some (.tup [x, y]), some (.tup [.int c, .int d]), some (.ref st.length), some (.tup [x, y]), some (.tup [.int c, .int d]), some (.int 0)]) (st2 := st ++ [.lst [.tup [x, .int c]]]) rfl ?_ rfl).trans ?_
        · simp [set_end]
        · refine (loop_nx (ρ1 := [some (.tup [x, y]), some (.tup [.int c, .int d]), some (.ref st.length), some (.tup [x, y]), some (.tup [.int c, .int d]), some (.int 1)])
            (ρ2 := [some (.tup [x, y]), some (.tup [.int c, .int d]), some (.ref st.length), some (.tup [x, y]), some (.tup [.int c, .int d]), some (.int 1)]) (st2 := st ++ [.lst [.tup [x, .int c], .tup [y, .int d]]]) rfl ?_ rfl).trans ?_
          · simp [set_end]
          · rfl
      rw [e_if]
      have tst : (dAndT (dTr (dIsi "tuple" (dVar 3))) (dTr (dIsi "tuple" (dVar 4)))) [some (.tup [x, y]), some (.tup [.int c, .int d]), some (.ref st.length), some (.tup [x, y]), some (.tup [.int c, .int d]), none] (st ++ [.lst []]) = some (true, st ++ [.lst []]) := by simp
      rw [tst, Option.bind_some]
      show gSeq _ _ _ _ = _
      refine step (ρ1 := [some (.tup [x, y]), some (.tup [.int c, .int d]), some (.ref st.length), some (.tup [x, y]), some (.tup [.int c, .int d]), none]) (st1 := st ++ [.lst []]) (by simp) ?_
      exact e_for' (src := .seq (rngD 0 2)) (ds := rngD 0 2) (st1 := st ++ [.lst []]) (by simp [r2]) rfl lp
  have bm : ∀ (z : D) (e : Int) (rest : List D) (y3 y4 y5 : Option D), smD 2 z = true → (∀ st', F_alike_members [z, .int e] st' = some (.bl (isInt e z), st')) → body [some (.tup [x, y]), some (.tup [.int c, .int d]), some (.ref st.length), y3, y4, y5] (st ++ [.lst (rest ++ [.tup [z, .int e]])]) =
      some (if isInt e z = true then .nx else .rt (.bl false), [some (.tup [x, y]), some (.tup [.int c, .int d]), some (.ref st.length), some z, some (.int e), y5], st ++ [.lst rest]) := fun z e rest y3 y4 y5 hs hz => by
    rw [hb]
    refine step (ρ1 := [some (.tup [x, y]), some (.tup [.int c, .int d]), some (.ref st.length), some z, some (.int e), y5]) (st1 := st ++ [.lst rest]) ?_ ?_
    · simp [set_end]
    · rw [e_if]
      have tst : (dAndT (dTr (dIsi "tuple" (dVar 3))) (dTr (dIsi "tuple" (dVar 4)))) [some (.tup [x, y]), some (.tup [.int c, .int d]), some (.ref st.length), some z, some (.int e), y5] (st ++ [.lst rest]) = some (false, st ++ [.lst rest]) := by
        cases z with
        | ref n => simp [smD] at hs
        | fz xs => simp [smD] at hs
        | _ => simp
      rw [tst, Option.bind_some, if_neg Bool.false_ne_true]
      cases hi : isInt e z <;> simp [hz, hi]
  have tr : ∀ (y3 y4 y5 : Option D) (q : List D), (dTr (dVar 2)) [some (.tup [x, y]), some (.tup [.int c, .int d]), some (.ref st.length), y3, y4, y5] (st ++ [.lst q]) = some (!q.isEmpty, st ++ [.lst q]) := fun y3 y4 y5 q => by simp
  have ws : ∀ (n : Nat) (ρ ρ2 : DEnv) (q : List D) (st2 : Sto), (dTr (dVar 2)) ρ (st ++ [.lst q]) = some (true, st ++ [.lst q]) → body ρ (st ++ [.lst q]) = some (.nx, ρ2, st2) → whileG (dTr (dVar 2)) body (n + 1) ρ (st ++ [.lst q]) = whileG (dTr (dVar 2)) body n ρ2 st2 := fun n ρ ρ2 q st2 h1 h2 => by
    rw [whileG, h1, Option.bind_some]
    simp [h2]
  have wr : ∀ (n : Nat) (ρ ρ2 : DEnv) (q : List D) (st2 : Sto) (v : D), (dTr (dVar 2)) ρ (st ++ [.lst q]) = some (true, st ++ [.lst q]) → body ρ (st ++ [.lst q]) = some (.rt v, ρ2, st2) → whileG (dTr (dVar 2)) body (n + 1) ρ (st ++ [.lst q]) = some (.rt v, ρ2, st2) := fun n ρ ρ2 q st2 v h1 h2 => by
    rw [whileG, h1, Option.bind_some]
    simp [h2]
  have we : ∀ (n : Nat) (ρ : DEnv), (dTr (dVar 2)) ρ (st ++ [.lst []]) = some (false, st ++ [.lst []]) → whileG (dTr (dVar 2)) body (n + 1) ρ (st ++ [.lst []]) = some (.nx, ρ, st ++ [.lst []]) := fun n ρ h1 => by
    rw [whileG, h1, Option.bind_some]
    simp
  have hG : G_same = (gSeq (gSet 2 (dLst (dCons (dTup (dCons (dVar 0) (dCons (dVar 1) dNil))) dNil))) (gSeq (gWhile fuel_same (dTr (dVar 2)) body) (gRet (dC (.bl true))))) := by rw [hb]; rfl
  have go : ∀ ρ st', gWhile fuel_same (dTr (dVar 2)) body ρ st' = whileG (dTr (dVar 2)) body (996 + 1 + 1 + 1 + 1) ρ st' := fun _ _ => rfl
  have s1 : (gSet 2 (dLst (dCons (dTup (dCons (dVar 0) (dCons (dVar 1) dNil))) dNil))) (startD 6 [.tup [x, y], .tup [.int c, .int d]]) st = some (.nx, [some (.tup [x, y]), some (.tup [.int c, .int d]), some (.ref st.length), none, none, none], st ++ [.lst [.tup [.tup [x, y], .tup [.int c, .int d]]]]) := by simp
  rw [hG]
  have m2 := bm y d [.tup [x, .int c]] (some (.tup [x, y])) (some (.tup [.int c, .int d])) (some (.int 1)) hy a2
  have m1 := bm x c [] (some y) (some (.int d)) (some (.int 1)) hx a1
  cases h2 : isInt d y with
  | false =>
    rw [h2] at m2
    refine fn_drop (gr := [.lst [.tup [x, .int c]]]) (ρ := [some (.tup [x, y]), some (.tup [.int c, .int d]), some (.ref st.length), some y, some (.int d), some (.int 1)]) (step s1 (step_rt ?_)) rfl
    rw [go, ws _ _ _ _ _ (tr _ _ _ _) b1]
    exact wr _ _ _ [.tup [x, .int c], .tup [y, .int d]] _ _ (tr _ _ _ _) m2
  | true =>
    rw [h2] at m2
    cases h1 : isInt c x with
    | false =>
      rw [h1] at m1
      refine fn_drop (gr := [.lst []]) (ρ := [some (.tup [x, y]), some (.tup [.int c, .int d]), some (.ref st.length), some x, some (.int c), some (.int 1)]) (step s1 (step_rt ?_)) rfl
      rw [go, ws _ _ _ _ _ (tr _ _ _ _) b1, ws _ _ _ [.tup [x, .int c], .tup [y, .int d]] _ (tr _ _ _ _) m2]
      exact wr _ _ _ [.tup [x, .int c]] _ _ (tr _ _ _ _) m1
    | true =>
      rw [h1] at m1
      refine fn_drop (gr := [.lst []]) (ρ := [some (.tup [x, y]), some (.tup [.int c, .int d]), some (.ref st.length), some x, some (.int c), some (.int 1)]) (step s1 (step (ρ1 := [some (.tup [x, y]), some (.tup [.int c, .int d]), some (.ref st.length), some x, some (.int c), some (.int 1)]) (st1 := st ++ [.lst []]) ?_ (by simp))) rfl
      rw [go, ws _ _ _ _ _ (tr _ _ _ _) b1, ws _ _ _ [.tup [x, .int c], .tup [y, .int d]] _ (tr _ _ _ _) m2, ws _ _ _ [.tup [x, .int c]] _ (tr _ _ _ _) m1]
      exact we _ _ (tr _ _ _ _)
end W
end

section
set_option Elab.async false
set_option linter.all false
set_option maxRecDepth 100000
set_option maxHeartbeats 1000000
namespace W
open PySem PySem.Spec PyProof.Rows L2 DL
/-! ### the two judges -/
theorem f_is_row (l : Nat) (x : D) (lo hi : Int) (st : Sto) (h : smD l x = true) : F_is_row [x, .int lo, .int hi] st = some (.bl (match x with | .tup xs => decide (lo ≤ xs.length) && decide ((xs.length : Int) ≤ hi) | _ => false), st) := by
  unfold F_is_row
  cases x with
  | ref n => cases l <;> simp [smD] at h
  | fz xs => cases l <;> simp [smD] at h
  | tup xs => exact fn_same' (by unfold G_is_row; by_cases h1 : lo ≤ xs.length <;> simp [h1])
  | _ => exact fn_same' (by unfold G_is_row; simp)
/-- what both judges say of a paper -/
def meetB (A B : Sl) : D → Bool
  | .int t => (decide (0 ≤ t) && decide (t ≤ 9999)) && (playZ A t && playZ B t)
  | _ => false
def showB (A B : Sl) : D → Bool
  | .tup [x0, x1] => isStr "meets" x0 && meetB A B x1
  | .tup [x0, x1, x2] => isStr "apart" x0 && ((isInt (gapZ A B) x2 && isInt (gcdZ A B) x1) && apartZ A B)
  | _ => false
theorem sm_word : smD 1 (.str "meets") = true ∧ smD 1 (.str "apart") = true := by decide +kernel
theorem sm_tup {l : Nat} {xs : List D} (h : smD (l + 1) (.tup xs) = true) : ∀ x ∈ xs, smD l x = true := by
  simp only [smD, Bool.and_eq_true, List.all_eq_true] at h
  exact h.2
theorem tail_shows (A B : Sl) (p : D) (st : Sto) (y3 : Option D) : True := trivial
theorem f_shows (A B : Sl) (p : D) (st : Sto) (hA : OkS A) (hB : OkS B) (h : smD 3 p = true) : F_shows_pair_of_slots [encT A, encT B, p] st = some (.bl (showB A B p), st) := by
  have r2 := f_is_row 3 p 2 2 st h
  have r3 := f_is_row 3 p 3 3 st h
  have c9 : C_TURN_MOST = .int 9999 := rfl
  unfold F_shows_pair_of_slots
  cases p with
  | ref n => simp [smD] at h
  | fz xs => simp [smD] at h
  | tup xs =>
    have hm := sm_tup h
    match xs, h, hm, r2, r3 with
    | [], h, hm, r2, r3 => exact fn_same' (by unfold G_shows_pair_of_slots; simp at r2 r3; simp [r2, r3, showB])
    | [x0], h, hm, r2, r3 => exact fn_same' (by unfold G_shows_pair_of_slots; simp at r2 r3; simp [r2, r3, showB])
    | [x0, x1], h, hm, r2, r3 =>
      have q0 := eq_word (w := "meets") st (hm x0 (by simp)) (by decide) sm_word.1
      simp at r2 r3
      cases hw : isStr "meets" x0 with
      | false =>
        rw [hw] at q0
        exact fn_same' (by unfold G_shows_pair_of_slots; simp [r2, r3, q0, hw, showB])
      | true =>
        rw [hw] at q0
        have w1 := f_is_whole 2 x1 0 9999 st (hm x1 (by simp))
        cases hx : wholeB 0 9999 x1 with
        | false =>
          rw [hx] at w1
          have e : meetB A B x1 = false := by
            cases x1 <;> first | rfl | (simp only [wholeB] at hx; simp only [meetB, hx, Bool.false_and])
          exact fn_same' (by unfold G_shows_pair_of_slots; simp [r2, q0, w1, c9, hw, showB, e])
        | true =>
          rw [hx] at w1
          cases x1 with
          | int t =>
            have p1 := f_plays A t st hA
            have p2 := f_plays B t st hB
            simp only [wholeB] at hx
            have e : meetB A B (.int t) = (playZ A t && playZ B t) := by simp only [meetB, hx, Bool.true_and]
            cases h1 : playZ A t with
            | false => exact fn_same' (by unfold G_shows_pair_of_slots; simp [r2, q0, w1, c9, hw, showB, e, p1, h1])
            | true => exact fn_same' (by unfold G_shows_pair_of_slots; simp [r2, q0, w1, c9, hw, showB, e, p1, p2, h1])
          | _ => simp [wholeB] at hx
    | [x0, x1, x2], h, hm, r2, r3 =>
      have q0 := eq_word (w := "apart") st (hm x0 (by simp)) (by decide) sm_word.2
      simp at r2 r3
      cases hw : isStr "apart" x0 with
      | false =>
        rw [hw] at q0
        exact fn_same' (by unfold G_shows_pair_of_slots; simp [r2, r3, q0, hw, showB])
      | true =>
        rw [hw] at q0
        have g := f_gap A B st hA hB
        have a := f_apart A B st hA hB
        have s2 := f_same2 x1 x2 (gcdZ A B) (gapZ A B) st (hm x1 (by simp)) (hm x2 (by simp))
        have ct : cutD [x0, x1, x2] (some 1) none = [x1, x2] := cut_from [x0, x1, x2] 1
        cases hs : (isInt (gapZ A B) x2 && isInt (gcdZ A B) x1) with
        | false =>
          rw [hs] at s2
          have es : showB A B (.tup [x0, x1, x2]) = false := by
            show (isStr "apart" x0 && ((isInt (gapZ A B) x2 && isInt (gcdZ A B) x1) && apartZ A B)) = _
            rw [hw, hs]
            rfl
          rw [es]
          exact fn_same' (by unfold G_shows_pair_of_slots; simp [r2, r3, q0, ct, g, s2])
        | true =>
          rw [hs] at s2
          have es : showB A B (.tup [x0, x1, x2]) = apartZ A B := by
            show (isStr "apart" x0 && ((isInt (gapZ A B) x2 && isInt (gcdZ A B) x1) && apartZ A B)) = _
            rw [hw, hs]
            rfl
          rw [es]
          exact fn_same' (by unfold G_shows_pair_of_slots; simp [r2, r3, q0, ct, g, s2, a])
    | x0 :: x1 :: x2 :: x3 :: r, h, hm, r2, r3 =>
      have n2 : ((List.length (x0 :: x1 :: x2 :: x3 :: r) : Nat) : Int) = (r.length : Int) + 4 := by simp only [List.length_cons]; omega
      have e2 : F_is_row [.tup (x0 :: x1 :: x2 :: x3 :: r), .int 2, .int 2] st = some (.bl false, st) := by
        rw [r2]
        simp only [n2]
        rw [show decide ((r.length : Int) + 4 ≤ 2) = false from decide_eq_false (by omega), Bool.and_false]
      have e3 : F_is_row [.tup (x0 :: x1 :: x2 :: x3 :: r), .int 3, .int 3] st = some (.bl false, st) := by
        rw [r3]
        simp only [n2]
        rw [show decide ((r.length : Int) + 4 ≤ 3) = false from decide_eq_false (by omega), Bool.and_false]
      exact fn_same' (by unfold G_shows_pair_of_slots; simp [e2, e3, showB])
  | _ => exact fn_same' (by unfold G_shows_pair_of_slots; simp at r2 r3; simp [r2, r3, showB])
theorem f_right (A B : Sl) (p : D) (st : Sto) (hA : OkS A) (hB : OkS B) (h : smD 3 p = true) : F_n_law_right [encT A, encT B, p] st = some (.bl (showB A B p), st) := by
  unfold F_n_law_right
  cases p with
  | ref n => simp [smD] at h
  | fz xs => simp [smD] at h
  | tup xs =>
    have hm := sm_tup h
    match xs, h, hm with
    | [], h, hm => exact fn_same' (by unfold G_n_law_right; simp [showB])
    | [x0], h, hm =>
      have w1 := f_word 2 x0 "meets" st (hm x0 (by simp))
      have w2 := f_word 2 x0 "apart" st (hm x0 (by simp))
      cases h1 : isStr "meets" x0 <;> cases h2 : isStr "apart" x0 <;> (rw [h1] at w1; rw [h2] at w2; exact fn_same' (by unfold G_n_law_right; simp [w1, w2, showB]))
    | [x0, x1], h, hm =>
      have w1 := f_word 2 x0 "meets" st (hm x0 (by simp))
      have w2 := f_word 2 x0 "apart" st (hm x0 (by simp))
      cases hw : isStr "meets" x0 with
      | false =>
        cases h2 : isStr "apart" x0 <;> (rw [hw] at w1; rw [h2] at w2; exact fn_same' (by unfold G_n_law_right; simp [w1, w2, hw, showB]))
      | true =>
        rw [hw] at w1
        have v1 := f_law_whole 2 x1 0 9999 st (hm x1 (by simp))
        cases hx : wholeB 0 9999 x1 with
        | false =>
          rw [hx] at v1
          have e : meetB A B x1 = false := by
            cases x1 <;> first | rfl | (simp only [wholeB] at hx; simp only [meetB, hx, Bool.false_and])
          exact fn_same' (by unfold G_n_law_right; simp [w1, v1, hw, showB, e])
        | true =>
          rw [hx] at v1
          cases x1 with
          | int t =>
            have p1 := f_law_plays A t st hA
            have p2 := f_law_plays B t st hB
            simp only [wholeB] at hx
            have e : meetB A B (.int t) = (playZ A t && playZ B t) := by simp only [meetB, hx, Bool.true_and]
            cases h1 : playZ A t with
            | false => exact fn_same' (by unfold G_n_law_right; simp [w1, v1, hw, showB, e, p1, h1])
            | true => exact fn_same' (by unfold G_n_law_right; simp [w1, v1, hw, showB, e, p1, p2, h1])
          | _ => simp [wholeB] at hx
    | [x0, x1, x2], h, hm =>
      have w1 := f_word 2 x0 "meets" st (hm x0 (by simp))
      have w2 := f_word 2 x0 "apart" st (hm x0 (by simp))
      cases hw : isStr "apart" x0 with
      | false =>
        cases h2 : isStr "meets" x0 <;> (rw [hw] at w2; rw [h2] at w1; exact fn_same' (by unfold G_n_law_right; simp [w1, w2, hw, showB]))
      | true =>
        rw [hw] at w2
        have ex : x0 = .str "apart" := by
          cases x0 with
          | str z => simp only [isStr, beq_iff_eq] at hw; rw [hw]
          | _ => simp [isStr] at hw
        have d := f_due A B st hA hB
        have sm : F_n_law_same 8 [.tup [x0, x1, x2], dueD A B] st = some (.bl ((isInt (gapZ A B) x2 && isInt (gcdZ A B) x1) && apartZ A B), st) := by
          have ma := meet_apart hA hB
          cases hq : meetO A B with
          | some t =>
            have ea : apartZ A B = false := by
              cases hz : apartZ A B with
              | false => rfl
              | true => rw [ma.mpr hz] at hq; cases hq
            have ed : dueD A B = .tup [.str "meets", .int t] := by unfold dueD; rw [hq]
            rw [ed, ea, Bool.and_false]
            exact same_rows_ne 7 _ _ st (by simp)
          | none =>
            have ed : dueD A B = apD A B := by unfold dueD; rw [hq]
            rw [ed, ma.mp hq, Bool.and_true, ex]
            have rr := same_rows 7 [.str "apart", x1, x2] [.str "apart", .int (gcdZ A B), .int (gapZ A B)] st (fun i => match i with | 0 => true | 1 => isInt (gcdZ A B) x1 | _ => isInt (gapZ A B) x2) rfl (by simp) (fun i hi => by
              match i, hi with
              | 0, _ => exact same_str 6 _ _ st
              | 1, _ => exact same_int 6 2 x1 _ st (hm x1 (by simp))
              | 2, _ => exact same_int 6 2 x2 _ st (hm x2 (by simp))
              | k + 3, hk => simp at hk; omega)
            refine rr.trans ?_
            have : (List.range [D.str "apart", x1, x2].length).all (fun i => match i with | 0 => true | 1 => isInt (gcdZ A B) x1 | _ => isInt (gapZ A B) x2) = (isInt (gapZ A B) x2 && isInt (gcdZ A B) x1) := by
              show (true && (isInt (gcdZ A B) x1 && (isInt (gapZ A B) x2 && true))) = _
              cases isInt (gcdZ A B) x1 <;> cases isInt (gapZ A B) x2 <;> rfl
            rw [this]
        have eh : isStr "meets" x0 = false := by rw [ex]; decide +kernel
        rw [eh] at w1
        exact fn_same' (by unfold G_n_law_right; simp [w1, w2, d, sm, hw, showB, Bool.and_assoc])
    | x0 :: x1 :: x2 :: x3 :: r, h, hm =>
      have w1 := f_word 2 x0 "meets" st (hm x0 (by simp))
      have w2 := f_word 2 x0 "apart" st (hm x0 (by simp))
      have z0 : ((r.length : Int) + 1 + 1 + 1 + 1 == 0) = false := by rw [beq_eq_false_iff_ne]; omega
      have z2 : ((r.length : Int) + 1 + 1 + 1 + 1 == 2) = false := by rw [beq_eq_false_iff_ne]; omega
      have z3 : ((r.length : Int) + 1 + 1 + 1 + 1 == 3) = false := by rw [beq_eq_false_iff_ne]; omega
      have z0' : ¬ ((r.length : Int) + 1 + 1 + 1 + 1 = 0) := by omega
      have z2' : ¬ ((r.length : Int) + 1 + 1 + 1 + 1 = 2) := by omega
      have z3' : ¬ ((r.length : Int) + 1 + 1 + 1 + 1 = 3) := by omega
      cases h1 : isStr "meets" x0 <;> cases h2 : isStr "apart" x0 <;> (rw [h1] at w1; rw [h2] at w2; exact fn_same' (by unfold G_n_law_right; simp [w1, w2, showB, z0, z2, z3, z0', z2', z3']))
  | _ => exact fn_same' (by unfold G_n_law_right; simp [showB])
end W
end

section
set_option Elab.async false
set_option linter.all false
set_option maxRecDepth 100000
set_option maxHeartbeats 1000000
namespace W
open PySem PySem.Spec PyProof.Rows L2 DL
/-! ### bent papers -/
theorem set_mid (S T : Sto) (c c' : Cell) : (S ++ c :: T).set S.length c' = S ++ c' :: T := by
  induction S with
  | nil => rfl
  | cons s S ih => exact congrArg (s :: ·) ih
theorem get_mid (S T : Sto) (c : Cell) : (S ++ c :: T)[S.length]? = some c := by
  rw [List.getElem?_append_right (Nat.le_refl _), Nat.sub_self]
  rfl
theorem drop_app {i : Nat} {f : DF} {ρ : DEnv} {S0 T T' : Sto} {G : List D} {v : D} (h1 : ρ[i]? = some (some (.ref S0.length))) (h2 : f ρ (S0 ++ .lst G :: T) = some (v, S0 ++ .lst G :: T')) (hz : G.length < 16777216) :
    gDrop (dMeth oApp (dVar i) (dCons f dNil)) ρ (S0 ++ .lst G :: T) = some (.nx, ρ, S0 ++ .lst (G ++ [v]) :: T') := by
  have lt : S0.length < (S0 ++ Cell.lst G :: T).length := by simp
  rw [e_drop, e_dMeth, e_var, h1]
  show Option.map _ (if decide (S0.length < (S0 ++ Cell.lst G :: T).length) = true then _ else _) = _
  rw [if_pos (decide_eq_true lt)]
  rw [e_dCons, h2, Option.bind_some]
  show Option.map _ (oApp (.ref S0.length) [v] (S0 ++ .lst G :: T')) = _
  rw [m_app, get_mid]
  simp [hz, set_mid]
def Scal (x : D) : Prop := x = .str "meets" ∨ x = .str "apart" ∨ ∃ i, x = .int i
theorem scal_sm {x : D} (h : Scal x) : smD 1 x = true := by
  rcases h with rfl | rfl | ⟨i, rfl⟩
  · exact sm_word.1
  · exact sm_word.2
  · rfl
theorem sm_mono : ∀ (l m : Nat) (d : D), l ≤ m → smD l d = true → smD m d = true
  | 0, m, d, _, h => by simp [smD] at h
  | l + 1, 0, d, hl, h => absurd hl (by omega)
  | l + 1, m + 1, .tup xs, hl, h => by
    simp only [smD, Bool.and_eq_true, List.all_eq_true] at h ⊢
    exact ⟨h.1, fun x hx => sm_mono l m x (by omega) (h.2 x hx)⟩
  | l + 1, m + 1, .str z, hl, h => h
  | l + 1, m + 1, .non, hl, h => rfl
  | l + 1, m + 1, .bl b, hl, h => rfl
  | l + 1, m + 1, .int i, hl, h => rfl
  | l + 1, m + 1, .ref n, hl, h => by simp [smD] at h
  | l + 1, m + 1, .fz xs, hl, h => by simp [smD] at h
theorem sm_row {l : Nat} {xs : List D} (hn : xs.length ≤ 8) (h : ∀ x ∈ xs, smD l x = true) : smD (l + 1) (.tup xs) = true := by
  simp only [smD, Bool.and_eq_true, List.all_eq_true, decide_eq_true_eq]
  exact ⟨hn, h⟩
theorem bends_scal (k : Nat) (x : D) (st : Sto) (h : Scal x) : ∃ L : List D, F_n_law_bends (k + 1) [x] st = some (.ref st.length, st ++ [.lst L]) ∧ (∀ y ∈ L, smD 2 y = true) ∧ L.length ≤ 6 := by
  have str : ∀ w : Str, (w = "meets" ∨ w = "apart") → x = .str w → ∃ L : List D, F_n_law_bends (k + 1) [x] st = some (.ref st.length, st ++ [.lst L]) ∧ (∀ y ∈ L, smD 2 y = true) ∧ L.length ≤ 6 := fun w hw e => by
    subst e
    have l1 : w.length ≤ 16777216 := by rcases hw with rfl | rfl <;> decide +kernel
    have l2 : w.length + (Str.ofString "a").length ≤ 16777216 := by rcases hw with rfl | rfl <;> decide +kernel
    refine ⟨[.str (w ++ "a"), .str (cutS w none (some (-1))), .str "", .non, .int 0, .tup [.str w]], ?_, ?_, by simp⟩
    · show fnG 4 (G_n_law_bends (F_n_law_bends k)) [.str w] st = _
      refine fn_keep (ρ := [some (.str w), none, none, none]) ?_ (by simp [belowD])
      unfold G_n_law_bends
      have sl : (dSl (dVar 0) oNo (oPart (dUn oNeg (dC (.int 1))))) [some (.str w), none, none, none] st = some (.str (cutS w none (some (-1))), st) := by
        show (if w.length ≤ 16777216 then some (D.str (cutS w none (some (-1))), st) else none) = _
        rw [if_pos l1]
      have ad : (dBin oAdd (dVar 0) (dC (.str "a"))) [some (.str w), none, none, none] st = some (.str (w ++ "a"), st) := by
        simp [l2]
      refine step (ρ1 := [some (.str w), none, none, none]) (st1 := st) (by simp) (step_rt ?_)
      rw [e_if]
      have tst : (dTr (dIsi "str" (dVar 0))) [some (.str w), none, none, none] st = some (true, st) := by simp
      rw [tst, Option.bind_some, if_pos rfl, e_ret, e_dLst, e_dCons, ad, Option.bind_some, e_dCons, sl]
      simp
    · intro y hy
      simp only [List.mem_cons, List.not_mem_nil, or_false] at hy
      rcases hw with rfl | rfl <;> rcases hy with rfl | rfl | rfl | rfl | rfl | rfl <;> decide +kernel
  rcases h with h | h | ⟨i, rfl⟩
  · exact str "meets" (.inl rfl) h
  · exact str "apart" (.inr rfl) h
  · refine ⟨[.int (i + 1), .int (i - 1), .non, .bl (i == 1), .str "1"], ?_, ?_, by simp⟩
    · show fnG 4 (G_n_law_bends (F_n_law_bends k)) [.int i] st = _
      refine fn_keep (ρ := [some (.int i), none, none, none]) ?_ (by simp [belowD])
      unfold G_n_law_bends
      simp
    · intro y hy
      simp only [List.mem_cons, List.not_mem_nil, or_false] at hy
      rcases hy with rfl | rfl | rfl | rfl | rfl <;> first | rfl | decide +kernel
theorem cut_len (xs : List D) (lo hi : Option Int) : (DL.cutD xs lo hi).length ≤ xs.length := by
  unfold DL.cutD
  rw [List.length_take, List.length_drop]
  omega
theorem cut_mem {xs : List D} {lo hi : Option Int} {x : D} (h : x ∈ DL.cutD xs lo hi) : x ∈ xs := List.mem_of_mem_drop (List.mem_of_mem_take h)
theorem get_after (S X : Sto) (c : Cell) (j : Nat) : (S ++ c :: X)[S.length + 1 + j]? = X[j]? := by
  rw [List.getElem?_append_right (by omega), show S.length + 1 + j - S.length = j + 1 by omega]
  rfl
theorem loop_cnt {src : Src} {n : D → DEnv → Option DEnv} {g : DG} (Inv : Nat → DEnv → Sto → Prop) : ∀ (ds : List D) (k0 : Nat) (ρ : DEnv) (st : Sto), Inv k0 ρ st →
    (∀ k d ρ st, k < k0 + ds.length → Inv k ρ st → d ∈ ds → ∃ ρ1 ρ2 st2, n d ρ = some ρ1 ∧ g ρ1 st = some (.nx, ρ2, st2) ∧ sameSrc src st st2 = true ∧ Inv (k + 1) ρ2 st2) →
    ∃ ρ' st', loopG src n g ds ρ st = some (.nx, ρ', st') ∧ Inv (k0 + ds.length) ρ' st'
  | [], k0, ρ, st, h0, _ => ⟨ρ, st, rfl, h0⟩
  | d :: ds, k0, ρ, st, h0, hs => by
    obtain ⟨ρ1, ρ2, st2, h1, h2, h3, h4⟩ := hs k0 d ρ st (by simp) h0 List.mem_cons_self
    obtain ⟨ρ', st', h5, h6⟩ := loop_cnt Inv ds (k0 + 1) ρ2 st2 h4 fun k d' ρ st hk hi hm => hs k d' ρ st (by simp only [List.length_cons]; omega) hi (List.mem_cons_of_mem _ hm)
    exact ⟨ρ', st', by rw [loop_nx h1 h2 h3]; exact h5, by rw [List.length_cons, show k0 + (ds.length + 1) = k0 + 1 + ds.length by omega]; exact h6⟩
theorem f_bends (k : Nat) (xs : List D) (st : Sto) (hx : ∀ x ∈ xs, Scal x) (hn : xs.length ≤ 3) : ∃ (L : List D) (T : Sto), F_n_law_bends (k + 2) [.tup xs] st = some (.ref st.length, st ++ .lst L :: T) ∧ (∀ y ∈ L, smD 3 y = true) ∧ L.length ≤ 100 := by
  have sx : ∀ x ∈ xs, smD 2 x = true := fun x h => sm_mono 1 2 x (by decide) (scal_sm (hx x h))
  obtain ⟨L0, hL0⟩ : ∃ L0 : List D, L0 = [.tup (DL.cutD xs none (some (-1))), .tup (xs ++ [.int 0]), .tup xs.reverse, .tup (xs ++ DL.cutD xs (some (-1)) none), .non] := ⟨_, rfl⟩
  have c1 := cut_len xs none (some (-1))
  have c2 := cut_len xs (some (-1)) none
  have sL0 : ∀ y ∈ L0, smD 3 y = true := fun y hy => by
    rw [hL0] at hy
    simp only [List.mem_cons, List.not_mem_nil, or_false] at hy
    rcases hy with rfl | rfl | rfl | rfl | rfl
    · exact sm_row (by omega) fun x h => sx x (cut_mem h)
    · refine sm_row (by simp; omega) fun x h => ?_
      rcases List.mem_append.mp h with h | h
      · exact sx x h
      · rw [List.mem_singleton.mp h]; rfl
    · exact sm_row (by simp; omega) fun x h => sx x (List.mem_reverse.mp h)
    · refine sm_row (by simp; omega) fun x h => ?_
      rcases List.mem_append.mp h with h | h
      · exact sx x h
      · exact sx x (cut_mem h)
    · rfl
  obtain ⟨inner, hin⟩ : ∃ g : DG, g = gDrop (dMeth oApp (dVar 1) (dCons (dBin oAdd (dBin oAdd (dSl (dVar 0) oNo (oPart (dVar 2))) (dTup (dCons (dVar 3) dNil))) (dSl (dVar 0) (oPart (dBin oAdd (dVar 2) (dC (.int 1)))) oNo)) dNil)) := ⟨_, rfl⟩
  obtain ⟨outer, hout⟩ : ∃ g : DG, g = gSeq (gDrop (dMeth oApp (dVar 1) (dCons (dBin oAdd (dSl (dVar 0) oNo (oPart (dVar 2))) (dSl (dVar 0) (oPart (dBin oAdd (dVar 2) (dC (.int 1)))) oNo)) dNil)))
      (gFor (srcOf (dCall (F_n_law_bends (k + 1)) [] (dCons (dBin oIx (dVar 0) (dVar 2)) dNil))) (nName 3) inner) := ⟨_, rfl⟩
  obtain ⟨ρ', st', lp, G, T, y2, y3, rfl, rfl, sG, lG⟩ := loop_cnt (src := .seq (rngD 0 xs.length)) (n := nName 2) (g := outer)
    (fun c ρ S => ∃ (G : List D) (T : Sto) (y2 y3 : Option D), ρ = [some (.tup xs), some (.ref st.length), y2, y3] ∧ S = st ++ .lst G :: T ∧ (∀ y ∈ G, smD 3 y = true) ∧ G.length ≤ 5 + 7 * c)
    (rngD 0 xs.length) 0 [some (.tup xs), some (.ref st.length), none, none] (st ++ .lst L0 :: []) ⟨L0, [], none, none, rfl, rfl, sL0, by rw [hL0]; simp⟩
    (fun c d ρ S hc hi hd => by
      rw [rng_len] at hc
      obtain ⟨i, hi', rfl⟩ := mem_rng hd
      obtain ⟨G, T, y2, y3, rfl, rfl, sG, lG⟩ := hi
      obtain ⟨j, hj⟩ : ∃ j : Int, j = 0 + (i : Int) := ⟨_, rfl⟩
      rw [← hj]
      have e1 : xs[i]? = some xs[i] := List.getElem?_eq_getElem hi'
      have a1 := cut_len xs none (some j)
      have a2 := cut_len xs (some (j + 1)) none
      have z1 : (DL.cutD xs none (some j)).length + (DL.cutD xs (some (j + 1)) none).length ≤ 16777216 := by omega
      have v1 : ∀ (y3 : Option D) (S : Sto), (dBin oAdd (dSl (dVar 0) oNo (oPart (dVar 2))) (dSl (dVar 0) (oPart (dBin oAdd (dVar 2) (dC (.int 1)))) oNo)) [some (.tup xs), some (.ref st.length), some (.int j), y3] S =
          some (.tup (DL.cutD xs none (some j) ++ DL.cutD xs (some (j + 1)) none), S) := fun y3 S => by simp [z1]
      have s1 := drop_app (i := 1) (f := dBin oAdd (dSl (dVar 0) oNo (oPart (dVar 2))) (dSl (dVar 0) (oPart (dBin oAdd (dVar 2) (dC (.int 1)))) oNo)) (ρ := [some (.tup xs), some (.ref st.length), some (.int j), y3]) (S0 := st) (T := T) (G := G) rfl (v1 y3 _) (by omega)
      obtain ⟨G1, hG1⟩ : ∃ G1, G1 = G ++ [D.tup (DL.cutD xs none (some j) ++ DL.cutD xs (some (j + 1)) none)] := ⟨_, rfl⟩
      rw [← hG1] at s1
      have lG1 : G1.length = G.length + 1 := by rw [hG1]; simp
      have sG1 : ∀ y ∈ G1, smD 3 y = true := fun y hy => by
        rw [hG1] at hy
        rcases List.mem_append.mp hy with hy | hy
        · exact sG y hy
        · rw [List.mem_singleton.mp hy]
          refine sm_row (by simp; omega) fun x h => ?_
          rcases List.mem_append.mp h with h | h <;> exact sx x (cut_mem h)
      obtain ⟨L6, b1, b2, b3⟩ := bends_scal k xs[i] (st ++ .lst G1 :: T) (hx _ (List.getElem_mem hi'))
      have eS : (st ++ Cell.lst G1 :: T) ++ [.lst L6] = st ++ .lst G1 :: (T ++ [.lst L6]) := by simp
      have em : (st ++ Cell.lst G1 :: T).length = st.length + 1 + T.length := by simp; omega
      rw [eS, em] at b1
      have gL : ∀ G', (st ++ Cell.lst G' :: (T ++ [.lst L6]))[st.length + 1 + T.length]? = some (.lst L6) := fun G' => by rw [get_after]; simp
      obtain ⟨ρ2, st2, lp2, G2, y3', rfl, rfl, sG2, lG2⟩ := loop_cnt (src := .cell (st.length + 1 + T.length)) (n := nName 3) (g := inner)
        (fun c2 ρ S => ∃ (G' : List D) (y3 : Option D), ρ = [some (.tup xs), some (.ref st.length), some (.int j), y3] ∧ S = st ++ .lst G' :: (T ++ [.lst L6]) ∧ (∀ y ∈ G', smD 3 y = true) ∧ G'.length ≤ G1.length + c2)
        L6 0 [some (.tup xs), some (.ref st.length), some (.int j), y3] (st ++ .lst G1 :: (T ++ [.lst L6])) ⟨G1, y3, rfl, rfl, sG1, by omega⟩
        (fun c2 y ρ S hc2 hi hy => by
          obtain ⟨G', y3, rfl, rfl, sG', lG'⟩ := hi
          have z2 : (DL.cutD xs none (some j)).length + 1 ≤ 16777216 := by omega
          have z3 : (DL.cutD xs none (some j)).length + 1 + (DL.cutD xs (some (j + 1)) none).length ≤ 16777216 := by omega
          have v2 : ∀ (S : Sto), (dBin oAdd (dBin oAdd (dSl (dVar 0) oNo (oPart (dVar 2))) (dTup (dCons (dVar 3) dNil))) (dSl (dVar 0) (oPart (dBin oAdd (dVar 2) (dC (.int 1)))) oNo)) [some (.tup xs), some (.ref st.length), some (.int j), some y] S =
              some (.tup (DL.cutD xs none (some j) ++ [y] ++ DL.cutD xs (some (j + 1)) none), S) := fun S => by simp [z2, z3]
          have s2 := drop_app (i := 1) (ρ := [some (.tup xs), some (.ref st.length), some (.int j), some y]) (S0 := st) (T := T ++ [.lst L6]) (G := G') rfl (v2 _) (by omega)
          rw [← hin] at s2
          refine ⟨[some (.tup xs), some (.ref st.length), some (.int j), some y], _, _, rfl, s2, same_cell (by rw [gL, gL]), _, some y, rfl, rfl, fun z hz => ?_, by simp; omega⟩
          rcases List.mem_append.mp hz with hz | hz
          · exact sG' z hz
          · rw [List.mem_singleton.mp hz]
            refine sm_row (by simp; omega) fun x h => ?_
            rcases List.mem_append.mp h with h | h
            · rcases List.mem_append.mp h with h | h
              · exact sx x (cut_mem h)
              · rw [List.mem_singleton.mp h]; exact b2 y hy
            · exact sx x (cut_mem h))
      refine ⟨[some (.tup xs), some (.ref st.length), some (.int j), y3], [some (.tup xs), some (.ref st.length), some (.int j), y3'], st ++ .lst G2 :: (T ++ [.lst L6]), rfl, ?_, rfl, G2, T ++ [.lst L6], some (.int j), y3', rfl, rfl, sG2, by omega⟩
      rw [hout]
      refine step s1 ?_
      refine e_for' (src := .cell (st.length + 1 + T.length)) (ds := L6) (st1 := st ++ .lst G1 :: (T ++ [.lst L6])) ?_ (items_cell (gL G1)) lp2
      have cl : (dCall (F_n_law_bends (k + 1)) [] (dCons (dBin oIx (dVar 0) (dVar 2)) dNil)) [some (.tup xs), some (.ref st.length), some (.int j), y3] (st ++ .lst G1 :: T) = some (.ref (st.length + 1 + T.length), st ++ .lst G1 :: (T ++ [.lst L6])) := by
        have ix : atI xs j = some xs[i] := by rw [hj, Int.zero_add, atI_nat', e1]
        simp [ix, b1]
      unfold srcOf
      rw [cl]
      show (if st.length + 1 + T.length < (st ++ Cell.lst G1 :: (T ++ [.lst L6])).length then _ else _) = _
      rw [if_pos (List.getElem?_eq_some_iff.mp (gL G1)).1])
  refine ⟨G, T, ?_, sG, by rw [rng_len] at lG; omega⟩
  show fnG 4 (G_n_law_bends (F_n_law_bends (k + 1))) [.tup xs] st = _
  refine fn_keep (ρ := [some (.tup xs), some (.ref st.length), y2, y3]) ?_ (by simp [belowD])
  unfold G_n_law_bends
  refine step_rt ?_
  rw [e_if]
  have tst : (dTr (dIsi "tuple" (dVar 0))) (startD 4 [.tup xs]) st = some (true, st) := by simp
  rw [tst, Option.bind_some, if_pos rfl]
  have z1 : xs.length + 1 ≤ 16777216 := by omega
  have z2 : xs.length + (DL.cutD xs (some (-1)) none).length ≤ 16777216 := by omega
  refine step (ρ1 := [some (.tup xs), some (.ref st.length), none, none]) (st1 := st ++ [.lst L0]) ?_ ?_
  · rw [hL0]
    simp [z1, z2]
  · have r1 := rng_ok (n := xs.length) (by omega)
    have tn : ((xs.length : Nat) : Int).toNat = xs.length := by omega
    rw [hin] at hout
    rw [hout] at lp
    refine step (e_for' (src := .seq (rngD 0 xs.length)) (ds := rngD 0 xs.length) (st1 := st ++ [.lst L0]) (by simp [r1]) rfl lp) ?_
    simp
theorem f_some (n : Nat) (L : List D) (s : Int) (st : Sto) (hn : st[n]? = some (.lst L)) : ∃ L' : List D, F_n_law_some [.ref n, .int s, .int 60] st = some (.ref st.length, st ++ [.lst L']) ∧ (∀ y ∈ L', y ∈ L) ∧ L'.length ≤ L.length := by
  have d60 : DivOk 60 := divOk (by decide)
  obtain ⟨q, hq⟩ : ∃ q : Int, q = 1 + (L.length : Int).fdiv 60 := ⟨_, rfl⟩
  have q0 : q ≠ 0 := by
    have e : (L.length : Int).fdiv 60 = (L.length : Int) / 60 := fdiv_pos _ (by decide)
    have := Int.ediv_nonneg (show (0 : Int) ≤ (L.length : Int) by omega) (show (0 : Int) ≤ 60 by decide)
    omega
  refine ⟨pickL L (some (s.fmod q)) none q, ?_, fun y hy => mem_pick hy, pick_len _ _ _ _⟩
  unfold F_n_law_some
  refine fn_keep (ρ := [some (.ref n), some (.int s), some (.int 60), some (.int q)]) ?_ (by simp [belowD])
  unfold G_n_law_some
  refine step (ρ1 := [some (.ref n), some (.int s), some (.int 60), some (.int q)]) (st1 := st) ?_ ?_
  · simp [hn, d60, hq]
  · simp [hn, q0]
end W
end

section
set_option Elab.async false
set_option linter.all false
set_option maxRecDepth 100000
set_option maxHeartbeats 1000000
namespace W
open PySem PySem.Spec PyProof.Rows L2 DL
noncomputable abbrev lb0 : DG := (gSet 6 (dCall F_n_law_due [] (dCons (dVar 4) (dCons (dVar 5) dNil))))
noncomputable abbrev lb1 : DG := (gIf (dNotT (dTr (dCall (F_n_law_same 8) [] (dCons (dCall F_pair_report [] (dCons (dVar 4) (dCons (dVar 5) dNil))) (dCons (dVar 6) dNil))))) (gRet (dC (.bl false))) gNext)
noncomputable abbrev lb2 : DG := (gSet 7 (dLst (dCons (dVar 6) (dCons (dTup (dCons (dC (.str "apart")) (dCons (dBin oIx (dVar 6) (dC (.int 1))) dNil))) (dCons (dTup (dCons (dC (.str "meets")) dNil)) (dCons (dTup (dCons (dC (.str "meets")) (dCons (dC (.int 0)) dNil))) (dCons (dTup dNil) (dCons (dC .non) (dCons (dC (.str "meets")) (dCons (dC (.int 5)) (dCons (dC (.bl true)) dNil)))))))))))
noncomputable abbrev lb3 : DG := (gIf (dB (dBin oEq (dBin oIx (dVar 6) (dC (.int 0))) (dC (.str "meets")))) (gSeq (gSet 8 (dBin oFdiv (dBin oMul (dBin oIx (dVar 4) (dC (.int 1))) (dBin oIx (dVar 5) (dC (.int 1)))) (dCall F_n_law_common [] (dCons (dBin oIx (dVar 4) (dC (.int 1))) (dCons (dBin oIx (dVar 5) (dC (.int 1))) dNil)))))
    (gSeq (gSet 9 (dBin oAdd (dBin oIx (dVar 6) (dC (.int 1))) (dBin oMul (dBin oFdiv (dBin oSub (dC (.int 9999)) (dBin oIx (dVar 6) (dC (.int 1)))) (dVar 8)) (dVar 8))))
    (gSet 7 (dBin oAdd (dVar 7) (dLst (dCons (dTup (dCons (dC (.str "meets")) (dCons (dVar 9) dNil))) (dCons (dTup (dCons (dC (.str "meets")) (dCons (dBin oAdd (dVar 9) (dVar 8)) dNil))) (dCons (dTup (dCons (dC (.str "apart")) (dCons (dC (.int 1)) (dCons (dC (.int 0)) dNil)))) (dCons (dTup (dCons (dC (.str "meets")) (dCons (dBin oIx (dVar 6) (dC (.int 1))) (dCons (dC (.int 0)) dNil)))) dNil))))))))) (gSet 7 (dBin oAdd (dVar 7) (dLst (dCons (dTup (dCons (dC (.str "apart")) (dCons (dBin oIx (dVar 6) (dC (.int 1))) (dCons (dBin oAdd (dBin oIx (dVar 6) (dC (.int 2))) (dBin oIx (dVar 6) (dC (.int 1)))) dNil)))) (dCons (dTup (dCons (dC (.str "apart")) (dCons (dC (.int 1)) (dCons (dC (.int 0)) dNil)))) (dCons (dTup (dCons (dC (.str "meets")) (dCons (dBin oIx (dVar 4) (dC (.int 0))) (dCons (dBin oIx (dVar 5) (dC (.int 0))) dNil)))) dNil)))))))
noncomputable abbrev lb4 : DG := (gFor (srcRng2 (dCons (dBin oIx (dVar 4) (dC (.int 0))) (dCons (dBin oAdd (dBin oIx (dVar 4) (dC (.int 0))) (dC (.int 20))) dNil))) (nName 10) (gDrop (dMeth oApp (dVar 7) (dCons (dTup (dCons (dC (.str "meets")) (dCons (dVar 10) dNil))) dNil))))
noncomputable abbrev lb5 : DG := (gFor (srcOf (dBin oAdd (dVar 7) (dCall F_n_law_some [] (dCons (dCall (F_n_law_bends 8) [] (dCons (dVar 6) dNil)) (dCons (dVar 3) (dCons (dC (.int 60)) dNil)))))) (nName 11) (gIf (dNotT (dTr (dCall (F_n_law_same 8) [] (dCons (dCall F_shows_pair_of_slots [] (dCons (dVar 4) (dCons (dVar 5) (dCons (dVar 11) dNil)))) (dCons (dCall F_n_law_right [] (dCons (dVar 4) (dCons (dVar 5) (dCons (dVar 11) dNil)))) dNil))))) (gRet (dC (.bl false))) gNext))
theorem ok_words : PyData.strOk "meets" = true ∧ PyData.strOk "apart" = true ∧ (("meets" : Str)).length = 5 ∧ (("apart" : Str)).length = 5 := by decide +kernel
theorem sm_ints (w : Str) (hw : w = "meets" ∨ w = "apart") (ns : List Int) (hn : ns.length ≤ 5) : smD 3 (.tup (.str w :: ns.map D.int)) = true := by
  refine sm_row (by simp; omega) fun y hy => ?_
  rcases List.mem_cons.mp hy with rfl | hy
  · rcases hw with rfl | rfl
    · exact sm_mono 1 2 _ (by decide) sm_word.1
    · exact sm_mono 1 2 _ (by decide) sm_word.2
  · obtain ⟨i, _, rfl⟩ := List.mem_map.mp hy
    rfl
theorem same_due (A B : Sl) (st : Sto) : F_n_law_same 8 [dueD A B, dueD A B] st = some (.bl true, st) := by
  have row : ∀ (w : Str) (ns : List Int), ns.length ≤ 5 → F_n_law_same 8 [.tup (.str w :: ns.map D.int), .tup (.str w :: ns.map D.int)] st = some (.bl true, st) := fun w ns hn => by
    have h := same_rows 7 (.str w :: ns.map D.int) (.str w :: ns.map D.int) st (fun _ => true) rfl (by simp; omega) fun i hi => by
      match i, hi with
      | 0, _ => exact (same_str 6 w w st).trans (by simp)
      | i + 1, hi =>
        simp only [List.length_cons, List.length_map] at hi
        have := same_int 6 1 (.int ns[i]) ns[i] st rfl
        simp only [isInt, beq_self_eq_true] at this
        simpa using this
    refine h.trans ?_
    simp
  unfold dueD
  cases meetO A B with
  | some t => exact row "meets" [t] (by simp)
  | none => exact row "apart" [gcdZ A B, gapZ A B] (by simp)
theorem body_ok (P Q : Sl) (hP : OkS P) (hQ : OkS Q) (x0 x1 x2 : Option D) (s : Int) (S : Sto) (y6 y7 y8 y9 y10 y11 : Option D) : ∃ (T : Sto) (z6 z7 z8 z9 z10 z11 : Option D),
    (gSeq lb0 (gSeq lb1 (gSeq lb2 (gSeq lb3 (gSeq lb4 lb5))))) [x0, x1, x2, some (.int s), some (encT P), some (encT Q), y6, y7, y8, y9, y10, y11] S =
      some (.nx, [x0, x1, x2, some (.int s), some (encT P), some (encT Q), z6, z7, z8, z9, z10, z11], S ++ T) := by
  have sm_i := fun w hw ns hn => sm_ints w hw ns hn
  have mt : ∀ t : Int, smD 3 (.tup [.str "meets", .int t]) = true := fun t => sm_ints "meets" (.inl rfl) [t] (by simp)
  have at1 : ∀ t : Int, smD 3 (.tup [.str "apart", .int t]) = true := fun t => sm_ints "apart" (.inr rfl) [t] (by simp)
  have at2 : ∀ t u : Int, smD 3 (.tup [.str "apart", .int t, .int u]) = true := fun t u => sm_ints "apart" (.inr rfl) [t, u] (by simp)
  have mt2 : ∀ t u : Int, smD 3 (.tup [.str "meets", .int t, .int u]) = true := fun t u => sm_ints "meets" (.inl rfl) [t, u] (by simp)
  obtain ⟨g1, g2, g3, g4⟩ := gcd_facts hP hQ
  obtain ⟨n1, n2, n3, _⟩ := len_facts hP hQ
  -- what is due
  obtain ⟨due, hdue⟩ : ∃ d, d = dueD P Q := ⟨_, rfl⟩
  obtain ⟨xs, ex, sx, lx, sd, L9, hL9, sL9, lL9, i1⟩ : ∃ xs, due = .tup xs ∧ (∀ x ∈ xs, Scal x) ∧ xs.length ≤ 3 ∧ smD 3 due = true ∧ ∃ L9 : List D,
      (∀ y7 y8 y9 y10 y11, lb2 [x0, x1, x2, some (.int s), some (encT P), some (encT Q), some due, y7, y8, y9, y10, y11] S = some (.nx, [x0, x1, x2, some (.int s), some (encT P), some (encT Q), some due, some (.ref S.length), y8, y9, y10, y11], S ++ [.lst L9])) ∧
      (∀ y ∈ L9, smD 3 y = true) ∧ L9.length ≤ 9 ∧ True := by
    have fin : ∀ (w : Str) (t : Int) (r : List Int), w = "meets" ∨ w = "apart" → r.length ≤ 1 → due = .tup (.str w :: .int t :: r.map D.int) → _ := fun w t r hw hr e =>
      (⟨.str w :: .int t :: r.map D.int, e, fun x hx => by
          rcases List.mem_cons.mp hx with rfl | hx
          · rcases hw with rfl | rfl
            · exact .inl rfl
            · exact .inr (.inl rfl)
          · rcases List.mem_cons.mp hx with rfl | hx
            · exact .inr (.inr ⟨_, rfl⟩)
            · obtain ⟨i, _, rfl⟩ := List.mem_map.mp hx
              exact .inr (.inr ⟨_, rfl⟩), by simp; omega, by rw [e]; exact sm_ints w hw (t :: r) (by simp; omega),
        [due, .tup [.str "apart", .int t], .tup [.str "meets"], .tup [.str "meets", .int 0], .tup [], .non, .str "meets", .int 5, .bl true],
        fun y7 y8 y9 y10 y11 => by rw [e]; simp, fun y hy => by
          simp only [List.mem_cons, List.not_mem_nil, or_false] at hy
          rcases hy with rfl | rfl | rfl | rfl | rfl | rfl | rfl | rfl | rfl
          · rw [e]; exact sm_ints w hw (t :: r) (by simp; omega)
          · exact at1 t
          · exact sm_ints "meets" (.inl rfl) [] (by decide)
          · exact mt 0
          · rfl
          · rfl
          · exact sm_mono 1 3 _ (by decide) sm_word.1
          · rfl
          · rfl, by simp, trivial⟩ : ∃ xs, due = .tup xs ∧ (∀ x ∈ xs, Scal x) ∧ xs.length ≤ 3 ∧ smD 3 due = true ∧ ∃ L9 : List D,
      (∀ y7 y8 y9 y10 y11, lb2 [x0, x1, x2, some (.int s), some (encT P), some (encT Q), some due, y7, y8, y9, y10, y11] S = some (.nx, [x0, x1, x2, some (.int s), some (encT P), some (encT Q), some due, some (.ref S.length), y8, y9, y10, y11], S ++ [.lst L9])) ∧
      (∀ y ∈ L9, smD 3 y = true) ∧ L9.length ≤ 9 ∧ True)
    have hd := hdue
    unfold dueD at hd
    cases hm : meetO P Q with
    | some t => rw [hm] at hd; exact fin "meets" t [] (.inl rfl) (by decide) hd
    | none => rw [hm] at hd; exact fin "apart" (gcdZ P Q) [gapZ P Q] (.inr rfl) (by simp) hd
  have d0 := f_due P Q S hP hQ
  have h0 : lb0 [x0, x1, x2, some (.int s), some (encT P), some (encT Q), y6, y7, y8, y9, y10, y11] S = some (.nx, [x0, x1, x2, some (.int s), some (encT P), some (encT Q), some due, y7, y8, y9, y10, y11], S) := by
    simp [d0, hdue]
  have rp := f_report P Q S hP hQ
  rw [report_due hP hQ] at rp
  have sd2 := same_due P Q S
  have h1 : lb1 [x0, x1, x2, some (.int s), some (encT P), some (encT Q), some due, y7, y8, y9, y10, y11] S = some (.nx, [x0, x1, x2, some (.int s), some (encT P), some (encT Q), some due, y7, y8, y9, y10, y11], S) := by
    rw [hdue]
    simp [rp, sd2]
  -- more papers
  obtain ⟨S4, L4, w8, w9, h3, sL4, lL4, T4, eT4⟩ : ∃ (S4 : Sto) (L4 : List D) (w8 w9 : Option D), lb3 [x0, x1, x2, some (.int s), some (encT P), some (encT Q), some due, some (.ref S.length), y8, y9, y10, y11] (S ++ [.lst L9]) =
      some (.nx, [x0, x1, x2, some (.int s), some (encT P), some (encT Q), some due, some (.ref S4.length), w8, w9, y10, y11], S4 ++ [.lst L4]) ∧ (∀ y ∈ L4, smD 3 y = true) ∧ L4.length ≤ 20 ∧ ∃ T4, S4 = S ++ T4 := by
    have hd := hdue
    unfold dueD at hd
    have g9 : ∀ X : List D, ((S ++ [Cell.lst L9]) ++ [Cell.lst X])[S.length]? = some (.lst L9) := fun X => by simp
    have gX : ∀ X : List D, ((S ++ [Cell.lst L9]) ++ [Cell.lst X])[S.length + 1]? = some (.lst X) := fun X => by simp
    have cat : ∀ (X : List D), X.length ≤ 4 → oAdd (.ref S.length) (.ref (S.length + 1)) ((S ++ [.lst L9]) ++ [.lst X]) = some (.ref ((S ++ [Cell.lst L9]) ++ [Cell.lst X]).length, ((S ++ [.lst L9]) ++ [.lst X]) ++ [.lst (L9 ++ X)]) := fun X hX => by
      have : L9.length + X.length ≤ 16777216 := by omega
      rw [o_add_ref, g9, gX]
      simp [this]
    cases hm : meetO P Q with
    | some t =>
      rw [hm] at hd
      have hd : due = .tup [.str "meets", .int t] := hd
      have c := f_common P Q (S ++ [.lst L9]) hP hQ
      have m1 : DL.MulOk P.e Q.e := mulOk_l (by have := hP.e0; have := hP.e1; omega)
      have dv : DivOk (gcdZ P Q) := ⟨by omega, by omega⟩
      have ef : (P.e * Q.e).fdiv (gcdZ P Q) = lenZ P Q := by rw [fdiv_pos _ (by omega), n3]
      have dv2 : DivOk (lenZ P Q) := ⟨by omega, by omega⟩
      have m2 : DL.MulOk ((9999 - t).fdiv (lenZ P Q)) (lenZ P Q) := mulOk_r (by omega)
      obtain ⟨la, hla⟩ : ∃ la : Int, la = t + (9999 - t).fdiv (lenZ P Q) * lenZ P Q := ⟨_, rfl⟩
      obtain ⟨X, hX⟩ : ∃ X : List D, X = [.tup [.str "meets", .int la], .tup [.str "meets", .int (la + lenZ P Q)], .tup [.str "apart", .int 1, .int 0], .tup [.str "meets", .int t, .int 0]] := ⟨_, rfl⟩
      have cX := cat X (by rw [hX]; simp)
      refine ⟨(S ++ [.lst L9]) ++ [.lst X], L9 ++ X, some (.int (lenZ P Q)), some (.int la), ?_, fun y hy => ?_, by rw [hX]; simp; omega, [.lst L9] ++ [.lst X], by rw [List.append_assoc]⟩
      · rw [hd]
        unfold lb3
        rw [e_if]
        have tst : ∀ S, (dB (dBin oEq (dBin oIx (dVar 6) (dC (.int 0))) (dC (.str "meets")))) [x0, x1, x2, some (.int s), some (encT P), some (encT Q), some (.tup [.str "meets", .int t]), some (.ref S.length), y8, y9, y10, y11] (S ++ [.lst L9]) = some (true, S ++ [.lst L9]) := fun S => by simp
        rw [tst, Option.bind_some, if_pos rfl]
        refine step (ρ1 := [x0, x1, x2, some (.int s), some (encT P), some (encT Q), some (.tup [.str "meets", .int t]), some (.ref S.length), some (.int (lenZ P Q)), y9, y10, y11]) (st1 := S ++ [.lst L9]) ?_ ?_
        · simp only [encT] at c ⊢
          simp [c, m1, dv, ef]
        refine step (ρ1 := [x0, x1, x2, some (.int s), some (encT P), some (encT Q), some (.tup [.str "meets", .int t]), some (.ref S.length), some (.int (lenZ P Q)), some (.int la), y10, y11]) (st1 := S ++ [.lst L9]) ?_ ?_
        · simp [dv2, m2, hla]
        · have dl : ∀ (y7 : Option D), (dLst (dCons (dTup (dCons (dC (.str "meets")) (dCons (dVar 9) dNil))) (dCons (dTup (dCons (dC (.str "meets")) (dCons (dBin oAdd (dVar 9) (dVar 8)) dNil))) (dCons (dTup (dCons (dC (.str "apart")) (dCons (dC (.int 1)) (dCons (dC (.int 0)) dNil)))) (dCons (dTup (dCons (dC (.str "meets")) (dCons (dBin oIx (dVar 6) (dC (.int 1))) (dCons (dC (.int 0)) dNil)))) dNil)))))
              [x0, x1, x2, some (.int s), some (encT P), some (encT Q), some (.tup [.str "meets", .int t]), some (.ref S.length), some (.int (lenZ P Q)), some (.int la), y10, y11] (S ++ [.lst L9]) = some (.ref (S.length + 1), (S ++ [.lst L9]) ++ [.lst X]) := fun y7 => by
            rw [hX]; simp
          rw [e_set, e_bin, e_var]
          simp only [List.getElem?_cons_succ, List.getElem?_cons_zero, Option.bind_some]
          rw [dl none, Option.bind_some, cX]
          rfl
      · rcases List.mem_append.mp hy with hy | hy
        · exact sL9 y hy
        · rw [hX] at hy
          simp only [List.mem_cons, List.not_mem_nil, or_false] at hy
          rcases hy with rfl | rfl | rfl | rfl
          · exact mt _
          · exact mt _
          · exact at2 _ _
          · exact mt2 _ _
    | none =>
      rw [hm] at hd
      have hd : due = .tup [.str "apart", .int (gcdZ P Q), .int (gapZ P Q)] := hd
      obtain ⟨X, hX⟩ : ∃ X : List D, X = [.tup [.str "apart", .int (gcdZ P Q), .int (gapZ P Q + gcdZ P Q)], .tup [.str "apart", .int 1, .int 0], .tup [.str "meets", .int P.s, .int Q.s]] := ⟨_, rfl⟩
      have cX := cat X (by rw [hX]; simp)
      refine ⟨(S ++ [.lst L9]) ++ [.lst X], L9 ++ X, y8, y9, ?_, fun y hy => ?_, by rw [hX]; simp; omega, [.lst L9] ++ [.lst X], by rw [List.append_assoc]⟩
      · rw [hd]
        unfold lb3
        rw [e_if]
        have ne : (("apart" : Str) == ("meets" : Str)) = false := by decide +kernel
        have tst : ∀ S, (dB (dBin oEq (dBin oIx (dVar 6) (dC (.int 0))) (dC (.str "meets")))) [x0, x1, x2, some (.int s), some (encT P), some (encT Q), some (.tup [.str "apart", .int (gcdZ P Q), .int (gapZ P Q)]), some (.ref S.length), y8, y9, y10, y11] (S ++ [.lst L9]) = some (false, S ++ [.lst L9]) := fun S => by
          simp
          exact beq_eq_false_iff_ne.mp ne
        rw [tst, Option.bind_some, if_neg Bool.false_ne_true]
        have dl : (dLst (dCons (dTup (dCons (dC (.str "apart")) (dCons (dBin oIx (dVar 6) (dC (.int 1))) (dCons (dBin oAdd (dBin oIx (dVar 6) (dC (.int 2))) (dBin oIx (dVar 6) (dC (.int 1)))) dNil)))) (dCons (dTup (dCons (dC (.str "apart")) (dCons (dC (.int 1)) (dCons (dC (.int 0)) dNil)))) (dCons (dTup (dCons (dC (.str "meets")) (dCons (dBin oIx (dVar 4) (dC (.int 0))) (dCons (dBin oIx (dVar 5) (dC (.int 0))) dNil)))) dNil))))
            [x0, x1, x2, some (.int s), some (encT P), some (encT Q), some (.tup [.str "apart", .int (gcdZ P Q), .int (gapZ P Q)]), some (.ref S.length), y8, y9, y10, y11] (S ++ [.lst L9]) = some (.ref (S.length + 1), (S ++ [.lst L9]) ++ [.lst X]) := by
          rw [hX]; simp [encT]
        rw [e_set, e_bin, e_var]
        simp only [List.getElem?_cons_succ, List.getElem?_cons_zero, Option.bind_some]
        rw [dl, Option.bind_some, cX]
        rfl
      · rcases List.mem_append.mp hy with hy | hy
        · exact sL9 y hy
        · rw [hX] at hy
          simp only [List.mem_cons, List.not_mem_nil, or_false] at hy
          rcases hy with rfl | rfl | rfl
          · exact at2 _ _
          · exact at2 _ _
          · exact mt2 _ _
  -- the turns
  obtain ⟨r1, r2, r3⟩ := rng2_ok hP.s0 (by have := hP.s1; omega) (show (0 : Int) ≤ 20 by decide) (by decide)
  obtain ⟨ρ5, S5, lp5, L5, y10', rfl, rfl, sL5, lL5⟩ := loop_cnt (src := .seq (rngD P.s 20)) (n := nName 10) (g := gDrop (dMeth oApp (dVar 7) (dCons (dTup (dCons (dC (.str "meets")) (dCons (dVar 10) dNil))) dNil)))
    (fun c ρ S' => ∃ (G : List D) (y10 : Option D), ρ = [x0, x1, x2, some (.int s), some (encT P), some (encT Q), some due, some (.ref S4.length), w8, w9, y10, y11] ∧ S' = S4 ++ [.lst G] ∧ (∀ y ∈ G, smD 3 y = true) ∧ G.length ≤ 20 + c)
    (rngD P.s 20) 0 [x0, x1, x2, some (.int s), some (encT P), some (encT Q), some due, some (.ref S4.length), w8, w9, y10, y11] (S4 ++ [.lst L4]) ⟨L4, y10, rfl, rfl, sL4, by omega⟩
    (fun c d ρ S' hc hi hd => by
      rw [rng_len] at hc
      obtain ⟨i, hi', rfl⟩ := mem_rng hd
      obtain ⟨G, y10, rfl, rfl, sG, lG⟩ := hi
      have v : ∀ S', (dTup (dCons (dC (.str "meets")) (dCons (dVar 10) dNil))) [x0, x1, x2, some (.int s), some (encT P), some (encT Q), some due, some (.ref S4.length), w8, w9, some (.int (P.s + (i : Int))), y11] S' = some (.tup [.str "meets", .int (P.s + (i : Int))], S') := fun S' => by simp
      have s2 := drop_app (i := 7) (ρ := [x0, x1, x2, some (.int s), some (encT P), some (encT Q), some due, some (.ref S4.length), w8, w9, some (.int (P.s + (i : Int))), y11]) (S0 := S4) (T := []) (G := G) rfl (v _) (by omega)
      refine ⟨_, _, _, rfl, s2, rfl, _, _, rfl, rfl, fun y hy => ?_, by simp; omega⟩
      rcases List.mem_append.mp hy with hy | hy
      · exact sG y hy
      · rw [List.mem_singleton.mp hy]; exact mt _)
  rw [rng_len] at lL5
  have h4 : lb4 [x0, x1, x2, some (.int s), some (encT P), some (encT Q), some due, some (.ref S4.length), w8, w9, y10, y11] (S4 ++ [.lst L4]) = some (.nx, [x0, x1, x2, some (.int s), some (encT P), some (encT Q), some due, some (.ref S4.length), w8, w9, y10', y11], S4 ++ [.lst L5]) := by
    refine e_for' (src := .seq (rngD P.s 20)) (ds := rngD P.s 20) (st1 := S4 ++ [.lst L4]) ?_ rfl lp5
    have tn : (P.s + 20 - P.s).toNat = 20 := by omega
    simp [encT, r1, r2, tn]
  -- all papers
  obtain ⟨LB, TB, b1, b2, b3⟩ := f_bends 6 xs (S4 ++ [.lst L5]) sx lx
  rw [← ex] at b1
  obtain ⟨LS, c1, c2, c3⟩ := f_some (S4 ++ [Cell.lst L5]).length LB s ((S4 ++ [.lst L5]) ++ .lst LB :: TB) (get_mid _ _ _)
  obtain ⟨S6, hS6⟩ : ∃ S6 : Sto, S6 = ((S4 ++ [.lst L5]) ++ .lst LB :: TB) ++ [.lst LS] := ⟨_, rfl⟩
  obtain ⟨m, hm⟩ : ∃ m, m = ((S4 ++ [Cell.lst L5]) ++ Cell.lst LB :: TB).length := ⟨_, rfl⟩
  rw [← hS6, ← hm] at c1
  have g1 : S6[S4.length]? = some (.lst L5) := by rw [hS6]; simp
  have g2 : S6[m]? = some (.lst LS) := by rw [hS6, hm]; simp
  obtain ⟨S7, hS7⟩ : ∃ S7 : Sto, S7 = S6 ++ [.lst (L5 ++ LS)] := ⟨_, rfl⟩
  have g7 : S7[S6.length]? = some (.lst (L5 ++ LS)) := by rw [hS7]; simp
  have src : (srcOf (dBin oAdd (dVar 7) (dCall F_n_law_some [] (dCons (dCall (F_n_law_bends 8) [] (dCons (dVar 6) dNil)) (dCons (dVar 3) (dCons (dC (.int 60)) dNil)))))) [x0, x1, x2, some (.int s), some (encT P), some (encT Q), some due, some (.ref S4.length), w8, w9, y10', y11] (S4 ++ [.lst L5]) =
      some (.cell S6.length, S7) := by
    have k1 : (dCall F_n_law_some [] (dCons (dCall (F_n_law_bends 8) [] (dCons (dVar 6) dNil)) (dCons (dVar 3) (dCons (dC (.int 60)) dNil)))) [x0, x1, x2, some (.int s), some (encT P), some (encT Q), some due, some (.ref S4.length), w8, w9, y10', y11] (S4 ++ [.lst L5]) = some (.ref m, S6) := by
      have k0 : (dCall (F_n_law_bends 8) [] (dCons (dVar 6) dNil)) [x0, x1, x2, some (.int s), some (encT P), some (encT Q), some due, some (.ref S4.length), w8, w9, y10', y11] (S4 ++ [.lst L5]) = some (.ref (S4 ++ [Cell.lst L5]).length, (S4 ++ [.lst L5]) ++ .lst LB :: TB) := b1
      rw [e_dCall, e_dCons, k0, Option.bind_some]
      exact c1
    have k2 : oAdd (.ref S4.length) (.ref m) S6 = some (.ref S6.length, S7) := by
      have : L5.length + LS.length ≤ 16777216 := by omega
      rw [o_add_ref, g1, g2]
      simp [this, hS7]
    unfold srcOf
    have k3 : (dBin oAdd (dVar 7) (dCall F_n_law_some [] (dCons (dCall (F_n_law_bends 8) [] (dCons (dVar 6) dNil)) (dCons (dVar 3) (dCons (dC (.int 60)) dNil))))) [x0, x1, x2, some (.int s), some (encT P), some (encT Q), some due, some (.ref S4.length), w8, w9, y10', y11] (S4 ++ [.lst L5]) = some (.ref S6.length, S7) := by
      rw [e_bin, e_var]
      show ((dCall F_n_law_some [] _ _ _).bind fun q => oAdd (.ref S4.length) q.1 q.2) = _
      rw [k1, Option.bind_some, k2]
    rw [k3, Option.bind_some]
    show (if S6.length < S7.length then _ else _) = _
    rw [if_pos (List.getElem?_eq_some_iff.mp g7).1]
  obtain ⟨z11, ρ6, e6, lp6⟩ := loop_keep (src := .cell S6.length) (i := 11) (g := gIf (dNotT (dTr (dCall (F_n_law_same 8) [] (dCons (dCall F_shows_pair_of_slots [] (dCons (dVar 4) (dCons (dVar 5) (dCons (dVar 11) dNil)))) (dCons (dCall F_n_law_right [] (dCons (dVar 4) (dCons (dVar 5) (dCons (dVar 11) dNil)))) dNil))))) (gRet (dC (.bl false))) gNext) (st := S7)
    (L5 ++ LS) [x0, x1, x2, some (.int s), some (encT P), some (encT Q), some due, some (.ref S4.length), w8, w9, y10', y11] (by simp) fun p hp => by
      have sp : smD 3 p = true := by
        rcases List.mem_append.mp hp with hp | hp
        · exact sL5 p hp
        · exact b2 p (c2 p hp)
      have q1 := f_shows P Q p S7 hP hQ sp
      have q2 := f_right P Q p S7 hP hQ sp
      have q3 := same_bl 7 (showB P Q p) S7
      simp [q1, q2, q3]
  simp at e6
  subst e6
  have h5 : lb5 [x0, x1, x2, some (.int s), some (encT P), some (encT Q), some due, some (.ref S4.length), w8, w9, y10', y11] (S4 ++ [.lst L5]) = some (.nx, [x0, x1, x2, some (.int s), some (encT P), some (encT Q), some due, some (.ref S4.length), w8, w9, y10', z11], S7) :=
    e_for' src (items_cell g7) lp6
  refine ⟨T4 ++ ([.lst L5] ++ (.lst LB :: TB ++ ([.lst LS] ++ [.lst (L5 ++ LS)]))), some due, some (.ref S4.length), w8, w9, y10', z11, ?_⟩
  refine step h0 (step h1 (step (hL9 _ _ _ _ _) (step h3 (step h4 ?_))))
  rw [h5, hS7, hS6, eT4]
  simp
theorem law_true (ns : List Int) (_h : ns.length ≤ 63) : ∃ st', F_law [.fz (ns.map D.int)] [] = some (.bl true, st') := by
  obtain ⟨x, hx⟩ : ∃ x, x = some (D.fz (ns.map D.int)) := ⟨_, rfl⟩
  obtain ⟨A, B, e1, hA, hB⟩ := f_pair ns
  obtain ⟨c3, e2⟩ := f_cell ns 3 (by decide) []
  obtain ⟨ds, e3, o3⟩ := f_digits c3 [100000] 0 [.lst [.int 100000]] rfl ⟨by decide, by decide⟩
  obtain ⟨d, rfl⟩ : ∃ d, ds = [d] := by
    match ds, o3 with
    | [d], _ => exact ⟨d, rfl⟩
    | [], o => exact o.elim
    | _ :: _ :: _, o => exact o.2.2.elim
  simp only [List.map_cons, List.map_nil, List.length_cons, List.length_nil, List.cons_append, List.nil_append, Nat.zero_add] at e3
  simp only [Int.natCast_zero, Int.natCast_one, Int.cast_ofNat_Int] at e2
  obtain ⟨B0, hB0⟩ : ∃ B0 : Sto, B0 = [.lst [.int 100000], .lst [.int d], .lst [.tup [encT A, encT B], .tup [encT B, encT A]]] := ⟨_, rfl⟩
  have B2 : ∀ T : Sto, (B0 ++ T)[2]? = some (.lst [.tup [encT A, encT B], .tup [encT B, encT A]]) := fun T => by rw [hB0]; rfl
  have lB : ∀ T : Sto, 3 ≤ (B0 ++ T).length := fun T => by rw [hB0, List.length_append]; simp only [List.length_cons, List.length_nil]; omega
  obtain ⟨ρ', st', lp, y4, y5, y6, y7, y8, y9, y10, y11, T, rfl, rfl⟩ := loop_st (src := .cell 2) (n := nTup 2 (nCons (nName 4) (nCons (nName 5) nNil))) (g := gSeq lb0 (gSeq lb1 (gSeq lb2 (gSeq lb3 (gSeq lb4 lb5)))))
    (fun ρ st => ∃ (y4 y5 y6 y7 y8 y9 y10 y11 : Option D) (T : Sto), ρ = [x, some (encT A), some (encT B), some (.int d), y4, y5, y6, y7, y8, y9, y10, y11] ∧ st = B0 ++ T)
    [.tup [encT A, encT B], .tup [encT B, encT A]] [x, some (encT A), some (encT B), some (.int d), none, none, none, none, none, none, none, none] B0 ⟨none, none, none, none, none, none, none, none, [], rfl, (List.append_nil _).symm⟩
    (fun p hp ρ st hi => by
      obtain ⟨y4, y5, y6, y7, y8, y9, y10, y11, T, rfl, rfl⟩ := hi
      have go : ∀ P Q : Sl, OkS P → OkS Q → p = .tup [encT P, encT Q] → ∃ ρ1 ρ2 st2, nTup 2 (nCons (nName 4) (nCons (nName 5) nNil)) p [x, some (encT A), some (encT B), some (.int d), y4, y5, y6, y7, y8, y9, y10, y11] = some ρ1 ∧
          (gSeq lb0 (gSeq lb1 (gSeq lb2 (gSeq lb3 (gSeq lb4 lb5))))) ρ1 (B0 ++ T) = some (.nx, ρ2, st2) ∧ sameSrc (.cell 2) (B0 ++ T) st2 = true ∧
          ∃ (y4 y5 y6 y7 y8 y9 y10 y11 : Option D) (T : Sto), ρ2 = [x, some (encT A), some (encT B), some (.int d), y4, y5, y6, y7, y8, y9, y10, y11] ∧ st2 = B0 ++ T := fun P Q hP hQ e => by
        obtain ⟨T2, z6, z7, z8, z9, z10, z11, hb⟩ := body_ok P Q hP hQ x (some (encT A)) (some (encT B)) d (B0 ++ T) y6 y7 y8 y9 y10 y11
        subst e
        exact ⟨_, _, _, rfl, hb, same_app (by have := lB T; omega), _, _, _, _, _, _, _, _, T ++ T2, rfl, by rw [List.append_assoc]⟩
      simp only [List.mem_cons, List.not_mem_nil, or_false] at hp
      rcases hp with hp | hp
      · exact go A B hA hB hp
      · exact go B A hB hA hp)
  have whole_run : G_law (startD 12 [.fz (ns.map D.int)]) [] = some (.rt (.bl true), [x, some (encT A), some (encT B), some (.int d), y4, y5, y6, y7, y8, y9, y10, y11], B0 ++ T) := by
    unfold G_law
    refine step (ρ1 := [x, some (encT A), some (encT B), none, none, none, none, none, none, none, none, none]) (st1 := []) (by simp [e1, hx]) ?_
    refine step (ρ1 := [x, some (encT A), some (encT B), some (.int d), none, none, none, none, none, none, none, none]) (st1 := [.lst [.int 100000], .lst [.int d]]) (by simp [e2, e3, hx]) ?_
    refine step (e_for' (src := .cell 2) (ds := [.tup [encT A, encT B], .tup [encT B, encT A]]) (st1 := B0) (by rw [hB0]; simp [srcOf]) (items_cell (by have := B2 []; rw [List.append_nil] at this; exact this)) lp) ?_
    simp
  exact ⟨(B0 ++ T).take 0, gc_eq (F := fnBody 12 G_law) (by unfold fnBody; rw [whole_run]; rfl) ⟨Nat.zero_le _, rfl, fun i hi => absurd hi (Nat.not_lt_zero _)⟩⟩
end W
end

section
set_option Elab.async false
set_option linter.all false
set_option maxRecDepth 100000
set_option maxHeartbeats 4000000
namespace W
open PySem PySem.Spec PyProof.Rows L2 DL
def fn : List He.DefD := [defD "is_whole" s_is_whole,
  defD "is_row" s_is_row,
  defD "alike_members" s_alike_members,
  defD "same" s_same,
  defD "gcd_of" s_gcd_of,
  defD "lcm_of" s_lcm_of,
  defD "plays" s_plays,
  defD "gap_of" s_gap_of,
  defD "stand_apart" s_stand_apart,
  defD "least_meeting" s_least_meeting,
  defD "pair_report" s_pair_report,
  defD "shows_pair_of_slots" s_shows_pair_of_slots,
  defD "_law_cell" s_n_law_cell,
  defD "_law_digits" s_n_law_digits,
  defD "_law_same" s_n_law_same,
  defD "_law_whole" s_n_law_whole,
  defD "_law_word" s_n_law_word,
  defD "_law_bends" s_n_law_bends,
  defD "_law_some" s_n_law_some,
  defD "_law_plays" s_n_law_plays,
  defD "_law_common" s_n_law_common,
  defD "_law_meeting" s_n_law_meeting,
  defD "_law_due" s_n_law_due,
  defD "_law_right" s_n_law_right,
  defD "_law_pair" s_n_law_pair,
  defD "law" s_law]
def fa : List He.Fa := [.glo "is_whole", .glo "is_row", .glo "alike_members", .glo "same", .glo "gcd_of", .glo "lcm_of", .glo "plays", .glo "gap_of", .glo "stand_apart", .glo "least_meeting", .glo "pair_report", .glo "shows_pair_of_slots", .glo "_law_cell", .glo "_law_digits", .glo "_law_same", .glo "_law_whole", .glo "_law_word", .glo "_law_bends", .glo "_law_some", .glo "_law_plays", .glo "_law_common", .glo "_law_meeting", .glo "_law_due", .glo "_law_right", .glo "_law_pair", .glo "law", .free "abs", .free "all", .free "bool", .free "int", .free "isinstance", .free "len", .free "max", .free "range", .free "str", .free "tuple"]
def ex (K : PySem.W.Frag) : Bool := conAt K "TURN_MOST" C_TURN_MOST && true
abbrev R : PySem.W.OpenRow := PySem.W.OpenLaw.row PySem.Challenge.rw_camhouse_k64_pair_papers
abbrev hk : PySem.W.Hook := hookE 5 fa fn ex
def ob (s : PySem.W.SharedT) : AlE := obsE 5 fa fn ex (HandSHeadRun.getT s)
theorem ob_eq (s : PySem.W.SharedT) : ob s = hk.obs s.abs := obsE_eq (HandSHeadRun.getT_eq s)
def loose0 : List PySem.Str := ["is_whole", "is_row", "alike_members", "same", "gcd_of", "lcm_of", "plays", "gap_of", "stand_apart", "least_meeting", "pair_report", "shows_pair_of_slots", "_law_cell", "_law_digits", "_law_same", "_law_whole", "_law_word", "_law_bends", "_law_some", "_law_plays", "_law_common", "_law_meeting", "_law_due", "_law_right", "_law_pair", "TURN_MOST"]
def loose : List PySem.Str := loose0
theorem run (w : World) : HandSHeadRun.RunEq R (PySem.W.view R.prog [31]) hk ob 20000 loose w := by
  intro os
  kernel_rfl
theorem facts {P : Program} {w : World} {K : PySem.W.Frag} {h : Heap} {mg : Str → Option Value} {f : Addr} (X : K.In h) (G : h.Ns mainGlobals mg) (hfa : mg ("law" : Str) = some (.ref f)) (c : He.SaysD fa fn K) (cx : ex K = true) :
    ∃ fd : FuncData, (∀ (s : Shared) (v : Value), BindsTo s fd ⟨[v], []⟩ [("script", v)]) ∧ ∀ base : Heap, K.In base → base.Ns mainGlobals mg → FnOk P w K mg base CX0 11 f fd ["script"] (spD K 1 F_law) := by
  simp only [ex, Bool.and_eq_true, and_true] at cx
  have k_TURN_MOST : ConstD K mg "TURN_MOST" C_TURN_MOST := conAt_ok X G cx
  have m_abs : mg "abs" = none := He.free_ok X G (c.fact 26 (f := .free "abs") rfl)
  have m_all : mg "all" = none := He.free_ok X G (c.fact 27 (f := .free "all") rfl)
  have m_bool : mg "bool" = none := He.free_ok X G (c.fact 28 (f := .free "bool") rfl)
  have m_int : mg "int" = none := He.free_ok X G (c.fact 29 (f := .free "int") rfl)
  have m_isinstance : mg "isinstance" = none := He.free_ok X G (c.fact 30 (f := .free "isinstance") rfl)
  have m_len : mg "len" = none := He.free_ok X G (c.fact 31 (f := .free "len") rfl)
  have m_max : mg "max" = none := He.free_ok X G (c.fact 32 (f := .free "max") rfl)
  have m_range : mg "range" = none := He.free_ok X G (c.fact 33 (f := .free "range") rfl)
  have m_str : mg "str" = none := He.free_ok X G (c.fact 34 (f := .free "str") rfl)
  have m_tuple : mg "tuple" = none := He.free_ok X G (c.fact 35 (f := .free "tuple") rfl)
  obtain ⟨fd0, F0⟩ := c.def_ 0 (d := defD "is_whole" s_is_whole) rfl
  have g0 : mg "is_whole" = some (.ref (He.fAd K ("is_whole", none))) := He.glo_ok X G (c.fact 0 (f := .glo "is_whole") rfl)
  obtain ⟨fd1, F1⟩ := c.def_ 1 (d := defD "is_row" s_is_row) rfl
  have g1 : mg "is_row" = some (.ref (He.fAd K ("is_row", none))) := He.glo_ok X G (c.fact 1 (f := .glo "is_row") rfl)
  obtain ⟨fd2, F2⟩ := c.def_ 2 (d := defD "alike_members" s_alike_members) rfl
  have g2 : mg "alike_members" = some (.ref (He.fAd K ("alike_members", none))) := He.glo_ok X G (c.fact 2 (f := .glo "alike_members") rfl)
  obtain ⟨fd3, F3⟩ := c.def_ 3 (d := defD "same" s_same) rfl
  have g3 : mg "same" = some (.ref (He.fAd K ("same", none))) := He.glo_ok X G (c.fact 3 (f := .glo "same") rfl)
  obtain ⟨fd4, F4⟩ := c.def_ 4 (d := defD "gcd_of" s_gcd_of) rfl
  have g4 : mg "gcd_of" = some (.ref (He.fAd K ("gcd_of", none))) := He.glo_ok X G (c.fact 4 (f := .glo "gcd_of") rfl)
  obtain ⟨fd5, F5⟩ := c.def_ 5 (d := defD "lcm_of" s_lcm_of) rfl
  have g5 : mg "lcm_of" = some (.ref (He.fAd K ("lcm_of", none))) := He.glo_ok X G (c.fact 5 (f := .glo "lcm_of") rfl)
  obtain ⟨fd6, F6⟩ := c.def_ 6 (d := defD "plays" s_plays) rfl
  have g6 : mg "plays" = some (.ref (He.fAd K ("plays", none))) := He.glo_ok X G (c.fact 6 (f := .glo "plays") rfl)
  obtain ⟨fd7, F7⟩ := c.def_ 7 (d := defD "gap_of" s_gap_of) rfl
  have g7 : mg "gap_of" = some (.ref (He.fAd K ("gap_of", none))) := He.glo_ok X G (c.fact 7 (f := .glo "gap_of") rfl)
  obtain ⟨fd8, F8⟩ := c.def_ 8 (d := defD "stand_apart" s_stand_apart) rfl
  have g8 : mg "stand_apart" = some (.ref (He.fAd K ("stand_apart", none))) := He.glo_ok X G (c.fact 8 (f := .glo "stand_apart") rfl)
  obtain ⟨fd9, F9⟩ := c.def_ 9 (d := defD "least_meeting" s_least_meeting) rfl
  have g9 : mg "least_meeting" = some (.ref (He.fAd K ("least_meeting", none))) := He.glo_ok X G (c.fact 9 (f := .glo "least_meeting") rfl)
  obtain ⟨fd10, F10⟩ := c.def_ 10 (d := defD "pair_report" s_pair_report) rfl
  have g10 : mg "pair_report" = some (.ref (He.fAd K ("pair_report", none))) := He.glo_ok X G (c.fact 10 (f := .glo "pair_report") rfl)
  obtain ⟨fd11, F11⟩ := c.def_ 11 (d := defD "shows_pair_of_slots" s_shows_pair_of_slots) rfl
  have g11 : mg "shows_pair_of_slots" = some (.ref (He.fAd K ("shows_pair_of_slots", none))) := He.glo_ok X G (c.fact 11 (f := .glo "shows_pair_of_slots") rfl)
  obtain ⟨fd12, F12⟩ := c.def_ 12 (d := defD "_law_cell" s_n_law_cell) rfl
  have g12 : mg "_law_cell" = some (.ref (He.fAd K ("_law_cell", none))) := He.glo_ok X G (c.fact 12 (f := .glo "_law_cell") rfl)
  obtain ⟨fd13, F13⟩ := c.def_ 13 (d := defD "_law_digits" s_n_law_digits) rfl
  have g13 : mg "_law_digits" = some (.ref (He.fAd K ("_law_digits", none))) := He.glo_ok X G (c.fact 13 (f := .glo "_law_digits") rfl)
  obtain ⟨fd14, F14⟩ := c.def_ 14 (d := defD "_law_same" s_n_law_same) rfl
  have g14 : mg "_law_same" = some (.ref (He.fAd K ("_law_same", none))) := He.glo_ok X G (c.fact 14 (f := .glo "_law_same") rfl)
  obtain ⟨fd15, F15⟩ := c.def_ 15 (d := defD "_law_whole" s_n_law_whole) rfl
  have g15 : mg "_law_whole" = some (.ref (He.fAd K ("_law_whole", none))) := He.glo_ok X G (c.fact 15 (f := .glo "_law_whole") rfl)
  obtain ⟨fd16, F16⟩ := c.def_ 16 (d := defD "_law_word" s_n_law_word) rfl
  have g16 : mg "_law_word" = some (.ref (He.fAd K ("_law_word", none))) := He.glo_ok X G (c.fact 16 (f := .glo "_law_word") rfl)
  obtain ⟨fd17, F17⟩ := c.def_ 17 (d := defD "_law_bends" s_n_law_bends) rfl
  have g17 : mg "_law_bends" = some (.ref (He.fAd K ("_law_bends", none))) := He.glo_ok X G (c.fact 17 (f := .glo "_law_bends") rfl)
  obtain ⟨fd18, F18⟩ := c.def_ 18 (d := defD "_law_some" s_n_law_some) rfl
  have g18 : mg "_law_some" = some (.ref (He.fAd K ("_law_some", none))) := He.glo_ok X G (c.fact 18 (f := .glo "_law_some") rfl)
  obtain ⟨fd19, F19⟩ := c.def_ 19 (d := defD "_law_plays" s_n_law_plays) rfl
  have g19 : mg "_law_plays" = some (.ref (He.fAd K ("_law_plays", none))) := He.glo_ok X G (c.fact 19 (f := .glo "_law_plays") rfl)
  obtain ⟨fd20, F20⟩ := c.def_ 20 (d := defD "_law_common" s_n_law_common) rfl
  have g20 : mg "_law_common" = some (.ref (He.fAd K ("_law_common", none))) := He.glo_ok X G (c.fact 20 (f := .glo "_law_common") rfl)
  obtain ⟨fd21, F21⟩ := c.def_ 21 (d := defD "_law_meeting" s_n_law_meeting) rfl
  have g21 : mg "_law_meeting" = some (.ref (He.fAd K ("_law_meeting", none))) := He.glo_ok X G (c.fact 21 (f := .glo "_law_meeting") rfl)
  obtain ⟨fd22, F22⟩ := c.def_ 22 (d := defD "_law_due" s_n_law_due) rfl
  have g22 : mg "_law_due" = some (.ref (He.fAd K ("_law_due", none))) := He.glo_ok X G (c.fact 22 (f := .glo "_law_due") rfl)
  obtain ⟨fd23, F23⟩ := c.def_ 23 (d := defD "_law_right" s_n_law_right) rfl
  have g23 : mg "_law_right" = some (.ref (He.fAd K ("_law_right", none))) := He.glo_ok X G (c.fact 23 (f := .glo "_law_right") rfl)
  obtain ⟨fd24, F24⟩ := c.def_ 24 (d := defD "_law_pair" s_n_law_pair) rfl
  have g24 : mg "_law_pair" = some (.ref (He.fAd K ("_law_pair", none))) := He.glo_ok X G (c.fact 24 (f := .glo "_law_pair") rfl)
  obtain ⟨fd25, F25⟩ := c.def_ 25 (d := defD "law" s_law) rfl
  have g25 : mg "law" = some (.ref (He.fAd K ("law", none))) := He.glo_ok X G (c.fact 25 (f := .glo "law") rfl)
  have e := hfa.symm.trans g25
  cases e
  have b := FunD.bindsA (ps := ["script"]) F25 fun _ _ _ _ _ _ us hl => match us, hl with | [_], _ => rfl
  refine ⟨fd25, fun s v => b s [v] rfl, fun base _ _ => ?_⟩
  have c_is_whole : DCall P w K mg base 1 "is_whole" 3 F_is_whole [] := dcall (ok_is_whole F0 m_bool m_int m_isinstance) g0 F0.kp (FunD.bindsN (ps := ["value", "low", "high"]) F0 fun _ _ _ _ _ _ us hl => match us, hl with | [_, _, _], _ => rfl)
  have c_is_row : DCall P w K mg base 1 "is_row" 3 F_is_row [] := dcall (ok_is_row F1 m_isinstance m_len m_tuple) g1 F1.kp (FunD.bindsN (ps := ["value", "least", "most"]) F1 fun _ _ _ _ _ _ us hl => match us, hl with | [_, _, _], _ => rfl)
  have c_alike_members : DCall P w K mg base 1 "alike_members" 2 F_alike_members [] := dcall (ok_alike_members F2 m_bool m_int m_isinstance m_str) g2 F2.kp (FunD.bindsN (ps := ["one", "other"]) F2 fun _ _ _ _ _ _ us hl => match us, hl with | [_, _], _ => rfl)
  have c_same : DCall P w K mg base 2 "same" 2 F_same [] := dcall (ok_same F3 c_alike_members m_isinstance m_len m_range m_tuple) g3 F3.kp (FunD.bindsN (ps := ["one", "other"]) F3 fun _ _ _ _ _ _ us hl => match us, hl with | [_, _], _ => rfl)
  have c_gcd_of : DCall P w K mg base 1 "gcd_of" 2 F_gcd_of [] := dcall (ok_gcd_of F4 m_abs) g4 F4.kp (FunD.bindsN (ps := ["one", "other"]) F4 fun _ _ _ _ _ _ us hl => match us, hl with | [_, _], _ => rfl)
  have c_lcm_of : DCall P w K mg base 2 "lcm_of" 2 F_lcm_of [] := dcall (ok_lcm_of F5 c_gcd_of) g5 F5.kp (FunD.bindsN (ps := ["one", "other"]) F5 fun _ _ _ _ _ _ us hl => match us, hl with | [_, _], _ => rfl)
  have c_plays : DCall P w K mg base 1 "plays" 2 F_plays [] := dcall (ok_plays F6 ) g6 F6.kp (FunD.bindsN (ps := ["slot", "turn"]) F6 fun _ _ _ _ _ _ us hl => match us, hl with | [_, _], _ => rfl)
  have c_gap_of : DCall P w K mg base 2 "gap_of" 2 F_gap_of [] := dcall (ok_gap_of F7 c_gcd_of) g7 F7.kp (FunD.bindsN (ps := ["one", "other"]) F7 fun _ _ _ _ _ _ us hl => match us, hl with | [_, _], _ => rfl)
  have c_stand_apart : DCall P w K mg base 3 "stand_apart" 2 F_stand_apart [] := dcall (ok_stand_apart F8 c_gap_of) g8 F8.kp (FunD.bindsN (ps := ["one", "other"]) F8 fun _ _ _ _ _ _ us hl => match us, hl with | [_, _], _ => rfl)
  have c_least_meeting : DCall P w K mg base 3 "least_meeting" 2 F_least_meeting [] := dcall (ok_least_meeting F9 c_lcm_of c_plays m_max m_range) g9 F9.kp (FunD.bindsN (ps := ["one", "other"]) F9 fun _ _ _ _ _ _ us hl => match us, hl with | [_, _], _ => rfl)
  have c_pair_report : DCall P w K mg base 4 "pair_report" 2 F_pair_report [] := dcall (ok_pair_report F10 c_stand_apart c_gap_of c_least_meeting) g10 F10.kp (FunD.bindsN (ps := ["one", "other"]) F10 fun _ _ _ _ _ _ us hl => match us, hl with | [_, _], _ => rfl)
  have c_shows_pair_of_slots : DCall P w K mg base 4 "shows_pair_of_slots" 3 F_shows_pair_of_slots [] := dcall (ok_shows_pair_of_slots F11 c_is_row c_is_whole c_plays c_same c_gap_of c_stand_apart k_TURN_MOST) g11 F11.kp (FunD.bindsN (ps := ["one", "other", "paper"]) F11 fun _ _ _ _ _ _ us hl => match us, hl with | [_, _, _], _ => rfl)
  have c_n_law_cell : DCall P w K mg base 1 "_law_cell" 2 F_n_law_cell [] := dcall (ok_n_law_cell F12 m_len) g12 F12.kp (FunD.bindsN (ps := ["script", "place"]) F12 fun _ _ _ _ _ _ us hl => match us, hl with | [_, _], _ => rfl)
  have c_n_law_digits : DCall P w K mg base 1 "_law_digits" 2 F_n_law_digits [] := dcall (ok_n_law_digits F13 m_int) g13 F13.kp (FunD.bindsN (ps := ["cell", "bases"]) F13 fun _ _ _ _ _ _ us hl => match us, hl with | [_, _], _ => rfl)
  have o14 : ∀ l, FnOk P w K mg base CX0 (0 + l) (He.fAd K ("_law_same", none)) fd14 ["one", "other"] (spD K 2 (F_n_law_same l)) := by
    intro l
    induction l with
    | zero => exact fn_none
    | succ l ih => exact ok_n_law_same F14 m_all m_bool m_int m_isinstance m_len m_range m_str m_tuple (dcall ih g14 F14.kp (FunD.bindsN (ps := ["one", "other"]) F14 fun _ _ _ _ _ _ us hl => match us, hl with | [_, _], _ => rfl))
  have c_n_law_same : DCall P w K mg base 9 "_law_same" 2 (F_n_law_same 8) [] := dcall ((o14 8).mono (by decide)) g14 F14.kp (FunD.bindsN (ps := ["one", "other"]) F14 fun _ _ _ _ _ _ us hl => match us, hl with | [_, _], _ => rfl)
  have c_n_law_whole : DCall P w K mg base 1 "_law_whole" 3 F_n_law_whole [] := dcall (ok_n_law_whole F15 m_bool m_int m_isinstance) g15 F15.kp (FunD.bindsN (ps := ["value", "low", "high"]) F15 fun _ _ _ _ _ _ us hl => match us, hl with | [_, _, _], _ => rfl)
  have c_n_law_word : DCall P w K mg base 1 "_law_word" 2 F_n_law_word [] := dcall (ok_n_law_word F16 m_isinstance m_str) g16 F16.kp (FunD.bindsN (ps := ["value", "word"]) F16 fun _ _ _ _ _ _ us hl => match us, hl with | [_, _], _ => rfl)
  have o17 : ∀ l, FnOk P w K mg base CX0 (0 + l) (He.fAd K ("_law_bends", none)) fd17 ["value"] (spD K 1 (F_n_law_bends l)) := by
    intro l
    induction l with
    | zero => exact fn_none
    | succ l ih => exact ok_n_law_bends F17 m_int m_isinstance m_len m_range m_str m_tuple (dcall ih g17 F17.kp (FunD.bindsN (ps := ["value"]) F17 fun _ _ _ _ _ _ us hl => match us, hl with | [_], _ => rfl))
  have c_n_law_bends : DCall P w K mg base 9 "_law_bends" 1 (F_n_law_bends 8) [] := dcall ((o17 8).mono (by decide)) g17 F17.kp (FunD.bindsN (ps := ["value"]) F17 fun _ _ _ _ _ _ us hl => match us, hl with | [_], _ => rfl)
  have c_n_law_some : DCall P w K mg base 1 "_law_some" 3 F_n_law_some [] := dcall (ok_n_law_some F18 m_len) g18 F18.kp (FunD.bindsN (ps := ["papers", "start", "most"]) F18 fun _ _ _ _ _ _ us hl => match us, hl with | [_, _, _], _ => rfl)
  have c_n_law_plays : DCall P w K mg base 1 "_law_plays" 2 F_n_law_plays [] := dcall (ok_n_law_plays F19 ) g19 F19.kp (FunD.bindsN (ps := ["slot", "turn"]) F19 fun _ _ _ _ _ _ us hl => match us, hl with | [_, _], _ => rfl)
  have c_n_law_common : DCall P w K mg base 1 "_law_common" 2 F_n_law_common [] := dcall (ok_n_law_common F20 m_max m_range) g20 F20.kp (FunD.bindsN (ps := ["one", "other"]) F20 fun _ _ _ _ _ _ us hl => match us, hl with | [_, _], _ => rfl)
  have c_n_law_meeting : DCall P w K mg base 2 "_law_meeting" 2 F_n_law_meeting [] := dcall (ok_n_law_meeting F21 c_n_law_common c_n_law_plays m_max m_range) g21 F21.kp (FunD.bindsN (ps := ["one", "other"]) F21 fun _ _ _ _ _ _ us hl => match us, hl with | [_, _], _ => rfl)
  have c_n_law_due : DCall P w K mg base 3 "_law_due" 2 F_n_law_due [] := dcall (ok_n_law_due F22 c_n_law_meeting c_n_law_common) g22 F22.kp (FunD.bindsN (ps := ["one", "other"]) F22 fun _ _ _ _ _ _ us hl => match us, hl with | [_, _], _ => rfl)
  have c_n_law_right : DCall P w K mg base 10 "_law_right" 3 F_n_law_right [] := dcall (ok_n_law_right F23 c_n_law_word c_n_law_whole c_n_law_plays c_n_law_same c_n_law_due m_isinstance m_len m_tuple) g23 F23.kp (FunD.bindsN (ps := ["one", "other", "paper"]) F23 fun _ _ _ _ _ _ us hl => match us, hl with | [_, _, _], _ => rfl)
  have c_n_law_pair : DCall P w K mg base 2 "_law_pair" 1 F_n_law_pair [] := dcall (ok_n_law_pair F24 c_n_law_digits c_n_law_cell m_tuple) g24 F24.kp (FunD.bindsN (ps := ["script"]) F24 fun _ _ _ _ _ _ us hl => match us, hl with | [_], _ => rfl)
  exact ok_law F25 c_n_law_pair c_n_law_digits c_n_law_cell c_n_law_due c_n_law_same c_pair_report c_n_law_common c_n_law_some c_n_law_bends c_shows_pair_of_slots c_n_law_right m_range
end W
open PySem PySem.W PySem.Calls PyProof.Rows
set_option maxHeartbeats 0 in
theorem PySem.Challenge.cw_camhouse_k64_pair_papers_holds : PySem.Challenge.rw_camhouse_k64_pair_papers.Holds := by
  w_on; o_law
  refine HandSHeadRun.head_any (r := OpenLaw.row PySem.Challenge.rw_camhouse_k64_pair_papers) (q := view (OpenLaw.row PySem.Challenge.rw_camhouse_k64_pair_papers).prog [31]) (H := W.hk) (ob := W.ob) (M := 20000) (loose := W.loose) (d := HandSHeadRun.topDef (OpenLaw.row PySem.Challenge.rw_camhouse_k64_pair_papers).prog 31) (kwd := []) W.ob_eq
    (by kernel_rfl) (fun s => by kernel_rfl) W.run (by kernel_rfl) (by kernel_rfl) (by kernel_rfl) (by rfl) (by first | assumption | decide +kernel) (by decide +kernel) ⟨rfl, rfl, rfl, rfl, rfl, by decide +kernel⟩ ?hw ?hc
  case hw => w_witness2
  case hc =>
    refine L2.walk_ofE (l := PySem.Challenge.rw_camhouse_k64_pair_papers) (n := 63) (k := 11) (x := "script") (CX := L2.CX0) rfl (by decide) (by kernel_rfl) ⟨rfl, by decide, by decide⟩ ?F (fun _ _ _ _ z => z)
    intro w mg fa h Y G hmg0
    obtain ⟨K, KX, c, cx⟩ := Y
    have hmg : mg ("law" : PySem.Str) = some (.ref fa) := by
      have e : (HandSHeadRun.topDef (OpenLaw.row PySem.Challenge.rw_camhouse_k64_pair_papers).prog 31).name = ("law" : PySem.Str) := by kernel_rfl
      rw [← e]
      exact hmg0
    obtain ⟨fd, hb, hF⟩ := W.facts (P := (PySem.Challenge.rw_camhouse_k64_pair_papers).prog) (w := w) KX G hmg c cx
    exact ⟨K, fd, DL.spD K 1 W.F_law, KX, hb, fun H a ns hl hO hS => DL.law_sp (W.law_true ns hl) hO hS, hF⟩
end
