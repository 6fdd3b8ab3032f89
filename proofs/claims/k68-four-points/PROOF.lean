import PyProof.Rows.All
import HandS.ForMost
import HandS.ForExc
import HandS.CallLocal
import HandS.CallSlots
import HandS.TryMany
import HandS.IsInst
import HandS.Wide
import HandS.RaiseMore
import HandS.Zip
import HandS.Style
import PySem.Challenge.RW_currentwebs_k68_four_points
set_option Elab.async false
set_option linter.all false
set_option maxRecDepth 100000
set_option maxHeartbeats 4000000
namespace DL
open PySem PySem.Spec PyProof.Rows L2

/-- plain data; ref n is the n-th tracked object -/
inductive D where
  | non | bl (b : Bool) | int (i : Int) | str (x : Str)
  | tup (xs : List D) | lst (xs : List D) | scr (xs : List Int) | ref (n : Nat) | fn (x : String)
  deriving Inhabited

/-- tracked objects -/
inductive O where
  | lst (xs : List D)
  | dK (kvs : List (Key × D))
  | dT (kvs : List (List Key × D))
  deriving Inhabited

abbrev Sto := List O
abbrev Loc := List (Option D)

/-- what the program's names stand for -/
structure Gm where
  fn : String → Option Addr
  cl : String → Option Addr
  cst : String → V
  K : PySem.W.Frag
abbrev Gm.fA (G : Gm) (x : String) : Addr := (G.fn x).getD 0
abbrev Gm.cA (G : Gm) (x : String) : Addr := (G.cl x).getD 0

/-- an exception: its class by name, its one field if it has any -/
structure Xn where
  cls : String
  fld : Option (Str × D) := none

inductive R (α : Type) where
  | ok (a : α) (s : Sto)
  | ex (c : Xn) (s : Sto)
  | stuck

def R.bind {α β : Type} (r : R α) (f : α → Sto → R β) : R β :=
  match r with
  | .ok a s => f a s
  | .ex c s => .ex c s
  | .stuck => .stuck
@[simp] theorem R.bind_ok {α β : Type} (a : α) (s : Sto) (f : α → Sto → R β) : (R.ok a s).bind f = f a s := rfl
@[simp] theorem R.bind_ex {α β : Type} (c : Xn) (s : Sto) (f : α → Sto → R β) : (R.ex c s : R α).bind f = .ex c s := rfl
@[simp] theorem R.bind_stuck {α β : Type} (f : α → Sto → R β) : (R.stuck : R α).bind f = .stuck := rfl

abbrev ME := Loc → Sto → R D
abbrev MT := Loc → Sto → R Bool
abbrev MA := Loc → Sto → R (List D)
/-- a def: arguments, store -/
abbrev MF := List D → Sto → R D

inductive Out where
  | nx (l : Loc) (s : Sto)
  | rt (d : D) (s : Sto)
  | bk (l : Loc) (s : Sto)
  | ct (l : Loc) (s : Sto)
  | ex (c : Xn) (l : Loc) (s : Sto)
  | stuck
abbrev MS := Loc → Sto → Out

/-- tracked addresses, by place; reserved ones (a comprehension's list while it grows) -/
structure Mu where
  tr : List Addr
  rs : List Addr
instance : Membership Addr Mu := ⟨fun μ a => a ∈ μ.tr ∨ a ∈ μ.rs⟩
theorem Mu.mem {μ : Mu} {a : Addr} : a ∈ μ ↔ a ∈ μ.tr ∨ a ∈ μ.rs := Iff.rfl
abbrev Mu.add (μ : Mu) (p : Addr) : Mu := ⟨μ.tr ++ [p], μ.rs⟩

section
variable (G : Gm) (K : PySem.W.Frag)
mutual
inductive Rp (H : Hp) (μ : Mu) : V → D → Prop
  | non : Rp H μ .non .non
  | bl (b : Bool) : Rp H μ (.bl b) (.bl b)
  | int (i : Int) : Rp H μ (.int i) (.int i)
  | str (x : Str) : Rp H μ (.str x) (.str x)
  | tup {p : Addr} {vs : List V} {ds : List D} : H p = some (.tup vs) → p ∉ μ → RpA H μ vs ds → Rp H μ (.ref p) (.tup ds)
  | tupK {p : Addr} {o : Obj} {its : Array Value} {n : Nat} {vs : List V} {ds : List D} : K.lookup p = some o → o.cls = .type "tuple" → o.data = .seq its n → its.size ≤ sizeLine → Vals vs its.toList → RpA H μ vs ds → Rp H μ (.ref p) (.tup ds)
  | lst {p : Addr} {vs : List V} {ds : List D} : H p = some (.lst vs) → p ∉ μ → RpA H μ vs ds → Rp H μ (.ref p) (.lst ds)
  | scr {p : Addr} {o : Obj} {xs : List Int} : H p = some (.frz o (.lst (xs.map V.int))) → p ∉ μ → Rp H μ (.ref p) (.scr xs)
  | scrK {p : Addr} {o : Obj} {its : Array Value} {n : Nat} {xs : List Int} : K.lookup p = some o → o.cls = .type "list" → o.dict = none → o.data = .seq its n → its.size ≤ sizeLine → Vals (xs.map V.int) its.toList → Rp H μ (.ref p) (.scr xs)
  | ref {n : Nat} {p : Addr} : μ.tr[n]? = some p → Rp H μ (.ref p) (.ref n)
  | fn {x : String} {p : Addr} : G.fn x = some p → Rp H μ (.ref p) (.fn x)
inductive RpA (H : Hp) (μ : Mu) : List V → List D → Prop
  | nil : RpA H μ [] []
  | cons {v : V} {d : D} {vs : List V} {ds : List D} : Rp H μ v d → RpA H μ vs ds → RpA H μ (v :: vs) (d :: ds)
end

/-- the heap has grown: what is known and not tracked stays -/
structure Mono (H : Hp) (μ : Mu) (H' : Hp) (μ' : Mu) : Prop where
  keep : ∀ a o, H a = some o → a ∉ μ → H' a = some o
  notin : ∀ a o, H a = some o → a ∉ μ → a ∉ μ'
  pre : ∀ (n : Nat) (p : Addr), μ.tr[n]? = some p → μ'.tr[n]? = some p
structure Grow (H : Hp) (μ : Mu) (H' : Hp) (μ' : Mu) : Prop where
  keep : ∀ a o, H a = some o → a ∉ μ → H' a = some o
  news : ∀ a, a ∈ μ'.tr → a ∈ μ.tr ∨ H a = none
  pre : ∀ (n : Nat) (p : Addr), μ.tr[n]? = some p → μ'.tr[n]? = some p
  rs : μ'.rs = μ.rs
  res : ∀ a, a ∈ μ.rs → H' a = H a

inductive KVp {κ : Type} (H : Hp) (μ : Mu) : List (κ × V) → List (κ × D) → Prop
  | nil : KVp H μ [] []
  | cons {k : κ} {v : V} {d : D} {vs : List (κ × V)} {ds : List (κ × D)} : Rp G K H μ v d → KVp H μ vs ds → KVp H μ ((k, v) :: vs) ((k, d) :: ds)

def RO (H : Hp) (μ : Mu) (p : Addr) : O → Prop
  | .lst ds => ∃ vs, H p = some (.lst vs) ∧ RpA G K H μ vs ds
  | .dK kvs => ∃ vs, H p = some (.dK vs) ∧ KVp G K H μ vs kvs
  | .dT kvs => ∃ vs, H p = some (.dT vs) ∧ KVp G K H μ vs kvs

structure RS (H : Hp) (μ : Mu) (s : Sto) : Prop where
  len : μ.tr.length = s.length
  nd : μ.tr.Nodup
  at_ : ∀ (n : Nat) (p : Addr) (o : O), μ.tr[n]? = some p → s[n]? = some o → RO G K H μ p o
  rk : ∀ a, a ∈ μ.rs → (∃ o, H a = some o) ∧ a ∉ μ.tr

def RL (H : Hp) (μ : Mu) (σ : L2.St) (l : Loc) : Prop :=
  σ.length = l.length ∧ ∀ (i : Nat) (d : D), l[i]? = some (some d) → ∃ v, σ[i]? = some (some v) ∧ Rp G K H μ v d
end

section
variable {G : Gm} {K : PySem.W.Frag} {H H' H1 H2 : Hp} {μ μ' μ1 μ2 : Mu}

theorem Grow.refl : Grow H μ H μ := ⟨fun _ _ h _ => h, fun _ h => .inl h, fun _ _ h => h, rfl, fun _ _ => rfl⟩
theorem Grow.notin (g : Grow H μ H' μ') {a : Addr} {o : HO} (h : H a = some o) (hn : a ∉ μ) : a ∉ μ' := fun hx => by
  rcases hx with hx | hx
  · rcases g.news a hx with z | z
    · exact hn (.inl z)
    · rw [z] at h; cases h
  · rw [g.rs] at hx; exact hn (.inr hx)
theorem Grow.mono (g : Grow H μ H' μ') : Mono H μ H' μ' := ⟨g.keep, fun _ _ h n => g.notin h n, g.pre⟩
theorem Grow.trans (a : Grow H μ H1 μ1) (b : Grow H1 μ1 H2 μ2) : Grow H μ H2 μ2 := by
  refine ⟨fun x o h hn => b.keep x o (a.keep x o h hn) (a.notin h hn), fun x hx => ?_, fun n p h => b.pre n p (a.pre n p h), b.rs.trans a.rs, fun x hx => ?_⟩
  · rcases b.news x hx with z | z
    · exact a.news x z
    · by_cases hm : x ∈ μ
      · rcases hm with hm | hm
        · exact .inl hm
        · right; rw [← a.res x hm]; exact z
      · right
        cases q : H x with
        | none => rfl
        | some o =>
          have := a.keep x o q hm
          rw [z] at this; cases this
  · rw [b.res x (by rw [a.rs]; exact hx), a.res x hx]
mutual
theorem Rp.mon (g : Mono H μ H' μ') : ∀ {v : V} {d : D}, Rp G K H μ v d → Rp G K H' μ' v d
  | _, _, .non => .non
  | _, _, .bl b => .bl b
  | _, _, .int i => .int i
  | _, _, .str x => .str x
  | _, _, .tup h n r => .tup (g.keep _ _ h n) (g.notin _ _ h n) (RpA.mon g r)
  | _, _, .tupK a b c e f r => .tupK a b c e f (RpA.mon g r)
  | _, _, .lst h n r => .lst (g.keep _ _ h n) (g.notin _ _ h n) (RpA.mon g r)
  | _, _, .scr h n => .scr (g.keep _ _ h n) (g.notin _ _ h n)
  | _, _, .scrK a b c d e f => .scrK a b c d e f
  | _, _, .ref h => .ref (g.pre _ _ h)
  | _, _, .fn h => .fn h
theorem RpA.mon (g : Mono H μ H' μ') : ∀ {vs : List V} {ds : List D}, RpA G K H μ vs ds → RpA G K H' μ' vs ds
  | _, _, .nil => .nil
  | _, _, .cons a r => .cons (Rp.mon g a) (RpA.mon g r)
end
theorem Rp.mono (g : Grow H μ H' μ') {v : V} {d : D} (h : Rp G K H μ v d) : Rp G K H' μ' v d := h.mon g.mono
theorem RpA.mono (g : Grow H μ H' μ') {vs : List V} {ds : List D} (h : RpA G K H μ vs ds) : RpA G K H' μ' vs ds := h.mon g.mono
theorem KVp.mon {κ : Type} (g : Mono H μ H' μ') : ∀ {vs : List (κ × V)} {ds : List (κ × D)}, KVp G K H μ vs ds → KVp G K H' μ' vs ds
  | _, _, .nil => .nil
  | _, _, .cons a r => .cons (a.mon g) (KVp.mon g r)
theorem RL.mon (g : Mono H μ H' μ') {σ : L2.St} {l : Loc} (r : RL G K H μ σ l) : RL G K H' μ' σ l :=
  ⟨r.1, fun i d e => let ⟨v, a, b⟩ := r.2 i d e; ⟨v, a, b.mon g⟩⟩
theorem RL.mono (g : Grow H μ H' μ') {σ : L2.St} {l : Loc} (r : RL G K H μ σ l) : RL G K H' μ' σ l := r.mon g.mono
theorem RO.mon {p : Addr} {o : O} (q : RO G K H μ p o) (g : Mono H μ H' μ') (h : ∀ u, H p = some u → H' p = some u) : RO G K H' μ' p o := by
  cases o with
  | lst ds => obtain ⟨vs, a, b⟩ := q; exact ⟨vs, h _ a, b.mon g⟩
  | dK ds => obtain ⟨vs, a, b⟩ := q; exact ⟨vs, h _ a, b.mon g⟩
  | dT ds => obtain ⟨vs, a, b⟩ := q; exact ⟨vs, h _ a, b.mon g⟩

theorem RpA.length : ∀ {vs : List V} {ds : List D}, RpA G K H μ vs ds → vs.length = ds.length
  | _, _, .nil => rfl
  | _, _, .cons _ r => by rw [List.length_cons, List.length_cons, RpA.length r]
theorem RpA.get : ∀ {vs : List V} {ds : List D} {i : Nat} {d : D}, RpA G K H μ vs ds → ds[i]? = some d → ∃ v, vs[i]? = some v ∧ Rp G K H μ v d
  | _, _, _, _, .nil, e => by simp at e
  | _, _, 0, _, .cons a _, e => by simp at e; subst e; exact ⟨_, rfl, a⟩
  | _, _, i + 1, _, .cons _ r, e => by
    obtain ⟨v, h1, h2⟩ := RpA.get (i := i) r (by simpa using e)
    exact ⟨v, by simpa using h1, h2⟩
theorem RpA.getV : ∀ {vs : List V} {ds : List D} {i : Nat} {v : V}, RpA G K H μ vs ds → vs[i]? = some v → ∃ d, ds[i]? = some d ∧ Rp G K H μ v d
  | _, _, _, _, .nil, e => by simp at e
  | _, _, 0, _, .cons a _, e => by simp at e; subst e; exact ⟨_, rfl, a⟩
  | _, _, i + 1, _, .cons _ r, e => by
    obtain ⟨v, h1, h2⟩ := RpA.getV (i := i) r (by simpa using e)
    exact ⟨v, by simpa using h1, h2⟩
theorem RpA.append : ∀ {vs us : List V} {ds es : List D}, RpA G K H μ vs ds → RpA G K H μ us es → RpA G K H μ (vs ++ us) (ds ++ es)
  | _, _, _, _, .nil, s => s
  | _, _, _, _, .cons a r, s => .cons a (RpA.append r s)
theorem RpA.take : ∀ {vs : List V} {ds : List D} (n : Nat), RpA G K H μ vs ds → RpA G K H μ (vs.take n) (ds.take n)
  | _, _, 0, _ => .nil
  | _, _, _ + 1, .nil => .nil
  | _, _, n + 1, .cons a r => .cons a (RpA.take n r)
theorem RpA.drop : ∀ {vs : List V} {ds : List D} (n : Nat), RpA G K H μ vs ds → RpA G K H μ (vs.drop n) (ds.drop n)
  | _, _, 0, r => r
  | _, _, _ + 1, .nil => .nil
  | _, _, n + 1, .cons _ r => RpA.drop n r
theorem RpA.set : ∀ {vs : List V} {ds : List D} {v : V} {d : D} (n : Nat), RpA G K H μ vs ds → Rp G K H μ v d → RpA G K H μ (vs.set n v) (ds.set n d)
  | _, _, _, _, _, .nil, _ => .nil
  | _, _, _, _, 0, .cons _ r, a => .cons a r
  | _, _, _, _, n + 1, .cons b r, a => .cons b (RpA.set n r a)
theorem RpA.reverse : ∀ {vs : List V} {ds : List D}, RpA G K H μ vs ds → RpA G K H μ vs.reverse ds.reverse
  | _, _, .nil => .nil
  | _, _, .cons a r => by
    rw [List.reverse_cons, List.reverse_cons]
    exact RpA.append (RpA.reverse r) (.cons a .nil)
theorem RpA.replicate {vs : List V} {ds : List D} (r : RpA G K H μ vs ds) : ∀ n : Nat, RpA G K H μ (List.replicate n vs).flatten (List.replicate n ds).flatten
  | 0 => .nil
  | n + 1 => by
    rw [List.replicate_succ, List.replicate_succ, List.flatten_cons, List.flatten_cons]
    exact RpA.append r (RpA.replicate r n)
theorem RpA.ints : ∀ xs : List Int, RpA G K H μ (xs.map V.int) (xs.map D.int)
  | [] => .nil
  | x :: xs => .cons (.int x) (RpA.ints xs)

/-! ### the store -/
theorem RO.some_ {p : Addr} {o : O} (q : RO G K H μ p o) : ∃ u, H p = some u := by
  cases o with
  | lst ds => obtain ⟨vs, a, _⟩ := q; exact ⟨_, a⟩
  | dK ds => obtain ⟨vs, a, _⟩ := q; exact ⟨_, a⟩
  | dT ds => obtain ⟨vs, a, _⟩ := q; exact ⟨_, a⟩
theorem RS.some_ {s : Sto} (r : RS G K H μ s) {n : Nat} {p : Addr} (e : μ.tr[n]? = some p) : ∃ u, H p = some u := by
  have hn : n < s.length := by rw [← r.len]; exact (List.getElem?_eq_some_iff.mp e).1
  exact (r.at_ n p s[n] e (List.getElem?_eq_getElem hn)).some_
theorem RS.mem_some {s : Sto} (r : RS G K H μ s) {p : Addr} (h : p ∈ μ) : ∃ u, H p = some u := by
  rcases h with h | h
  · obtain ⟨n, hn⟩ := List.mem_iff_getElem?.mp h
    exact r.some_ hn
  · exact (r.rk p h).1
theorem RS.notin {s : Sto} (r : RS G K H μ s) {p : Addr} (h : H p = none) : p ∉ μ := fun z => by
  obtain ⟨u, e⟩ := r.mem_some z
  rw [h] at e; cases e
/-- a new object, not tracked -/
theorem RS.galloc {s : Sto} (r : RS G K H μ s) {p : Addr} {o : HO} (h : H p = none) : Grow H μ (upd H p o) μ :=
  ⟨fun a u e _ => by rw [upd_ne (ne_of_none e h)]; exact e, fun _ h => .inl h, fun _ _ h => h, rfl, fun a ha => upd_ne fun z => r.notin h (.inr (z ▸ ha))⟩
/-- a new object, tracked -/
theorem RS.gtrack {s : Sto} (r : RS G K H μ s) {p : Addr} {o : HO} (h : H p = none) : Grow H μ (upd H p o) (μ.add p) :=
  ⟨fun a u e _ => by rw [upd_ne (ne_of_none e h)]; exact e, fun a ha => by
    rcases List.mem_append.mp ha with z | z
    · exact .inl z
    · right; rw [List.mem_singleton] at z; rw [z]; exact h, fun n q e => by
    show (μ.tr ++ [p])[n]? = some q
    rw [List.getElem?_append_left (List.getElem?_eq_some_iff.mp e).1]; exact e, rfl, fun a ha => upd_ne fun z => r.notin h (.inr (z ▸ ha))⟩
/-- a tracked object is changed -/
theorem RS.gwrite {s : Sto} (r : RS G K H μ s) {p : Addr} {o : HO} (h : p ∈ μ.tr) : Grow H μ (upd H p o) μ :=
  ⟨fun a u e hn => by rw [upd_ne (fun z => hn (by rw [z]; exact .inl h))]; exact e, fun _ h => .inl h, fun _ _ h => h, rfl, fun a ha => upd_ne fun z => (r.rk a ha).2 (z ▸ h)⟩
/-- an untracked new object -/
theorem RS.alloc {s : Sto} (r : RS G K H μ s) {p : Addr} {o : HO} (h : H p = none) : RS G K (upd H p o) μ s :=
  ⟨r.len, r.nd, fun n q u e1 e2 => (r.at_ n q u e1 e2).mon (r.galloc h).mono fun u e => by rw [upd_ne (ne_of_none e h)]; exact e,
    fun a ha => ⟨by rw [(r.galloc (o := o) h).res a ha]; exact (r.rk a ha).1, (r.rk a ha).2⟩⟩
/-- a tracked new object -/
theorem RS.track {s : Sto} (r : RS G K H μ s) {p : Addr} {o : HO} {d : O} (h : H p = none) (hd : RO G K (upd H p o) (μ.add p) p d) : RS G K (upd H p o) (μ.add p) (s ++ [d]) := by
  refine ⟨by show (μ.tr ++ [p]).length = _; rw [List.length_append, List.length_append, r.len]; rfl, ?_, fun n q u e1 e2 => ?_, fun a ha => ⟨by rw [(r.gtrack (o := o) h).res a ha]; exact (r.rk a ha).1, fun z => ?_⟩⟩
  · show (μ.tr ++ [p]).Nodup
    rw [List.nodup_append]
    refine ⟨r.nd, by simp, fun a ha b hb => ?_⟩
    rw [List.mem_singleton] at hb
    subst hb
    intro z
    subst z
    exact r.notin h (.inl ha)
  · have e1 : (μ.tr ++ [p])[n]? = some q := e1
    by_cases hn : n < μ.tr.length
    · rw [List.getElem?_append_left hn] at e1
      rw [List.getElem?_append_left (by rw [← r.len]; exact hn)] at e2
      exact (r.at_ n q u e1 e2).mon (r.gtrack h).mono fun u e => by rw [upd_ne (ne_of_none e h)]; exact e
    · have hn2 : n = μ.tr.length := by
        have := (List.getElem?_eq_some_iff.mp e1).1
        rw [List.length_append] at this
        simp at this
        omega
      subst hn2
      rw [List.getElem?_append_right (Nat.le_refl _)] at e1
      rw [r.len, List.getElem?_append_right (Nat.le_refl _)] at e2
      simp at e1 e2
      subst e1 e2
      exact hd
  · rcases List.mem_append.mp z with z | z
    · exact (r.rk a ha).2 z
    · rw [List.mem_singleton] at z
      subst z
      exact r.notin h (.inr ha)
/-- the n-th tracked object is changed -/
theorem RS.write {s : Sto} (r : RS G K H μ s) {n : Nat} {p : Addr} {o : HO} {d : O} (e : μ.tr[n]? = some p) (hd : RO G K (upd H p o) μ p d) : RS G K (upd H p o) μ (s.set n d) := by
  have hm : p ∈ μ.tr := List.mem_iff_getElem?.mpr ⟨n, e⟩
  refine ⟨by rw [List.length_set]; exact r.len, r.nd, fun m q u e1 e2 => ?_, fun a ha => ⟨by rw [(r.gwrite (o := o) hm).res a ha]; exact (r.rk a ha).1, (r.rk a ha).2⟩⟩
  by_cases h : n = m
  · subst h
    rw [e] at e1
    cases e1
    have hn : n < s.length := by rw [← r.len]; exact (List.getElem?_eq_some_iff.mp e).1
    rw [List.getElem?_set_self hn] at e2
    cases e2
    exact hd
  · rw [List.getElem?_set_ne h] at e2
    have hq : q ≠ p := fun z => by
      subst z
      exact h ((List.getElem?_inj (List.getElem?_eq_some_iff.mp e).1 r.nd).mp (e.trans e1.symm))
    exact (r.at_ m q u e1 e2).mon (r.gwrite hm).mono fun u e => by rw [upd_ne hq]; exact e
end

/-! ### what a reading comes to -/
/-- a class as a value -/
def Gm.clv (G : Gm) (c : String) : Option Value := (G.cl c).map Value.ref
/-- an exception's dict -/
def Fld (G : Gm) (K : PySem.W.Frag) (H : Hp) (μ : Mu) (x : Xn) (d : Option Addr) : Prop :=
  match x.fld with
  | none => d = none
  | some (f, a) => ∃ p v, d = some p ∧ H p = some (.xd [(f, v)]) ∧ Rp G K H μ v a

section
variable (G : Gm) (K : PySem.W.Frag)
/-- t's reading comes to r -/
def okP {α β : Type} (t : (β → Hp → Prop) → Prop) (W : Value → Option Addr → Hp → Prop) (H : Hp) (μ : Mu) (Rl : Hp → Mu → β → α → Prop) : R α → Prop
  | .ok a s' => ∀ Q : β → Hp → Prop, (∀ b H' μ', Grow H μ H' μ' → RS G K H' μ' s' → Rl H' μ' b a → Q b H') → t Q
  | .ex x s' => ∀ Q : β → Hp → Prop, (∀ C d H' μ', Grow H μ H' μ' → RS G K H' μ' s' → G.cl x.cls = some C → Fld G K H' μ' x d → W (.ref C) d H') → t Q
  | .stuck => True
/-- what is to hold behind a statement -/
def Post (D : Ends) (W : WX) (H : Hp) (μ : Mu) : Out → Prop
  | .nx l s' => ∀ σ' H' μ', Grow H μ H' μ' → RL G K H' μ' σ' l → RS G K H' μ' s' → D.nx σ' H'
  | .rt d s' => ∀ v H' μ', Grow H μ H' μ' → RS G K H' μ' s' → Rp G K H' μ' v d → D.rt v H'
  | .bk l s' => ∀ σ' H' μ', Grow H μ H' μ' → RL G K H' μ' σ' l → RS G K H' μ' s' → D.bk σ' H'
  | .ct l s' => ∀ σ' H' μ', Grow H μ H' μ' → RL G K H' μ' σ' l → RS G K H' μ' s' → D.ct σ' H'
  | .ex x l s' => ∀ C d σ' H' μ', Grow H μ H' μ' → RL G K H' μ' σ' l → RS G K H' μ' s' → G.cl x.cls = some C → Fld G K H' μ' x d → W (.ref C) d σ' H'
  | .stuck => False
def okS (t : TS) (W : WX) (σ : L2.St) (H : Hp) (μ : Mu) (o : Out) : Prop := ∀ D : Ends, Post G K D W H μ o → t D σ H
end

theorem Post.up {G : Gm} {K : PySem.W.Frag} {D : Ends} {W : WX} {H H' : Hp} {μ μ' : Mu} {o : Out} (g : Grow H μ H' μ') (h : Post G K D W H μ o) : Post G K D W H' μ' o := by
  cases o with
  | nx l s => exact fun σ' H1 μ1 g1 => h σ' H1 μ1 (g.trans g1)
  | rt d s => exact fun v H1 μ1 g1 => h v H1 μ1 (g.trans g1)
  | bk l s => exact fun σ' H1 μ1 g1 => h σ' H1 μ1 (g.trans g1)
  | ct l s => exact fun σ' H1 μ1 g1 => h σ' H1 μ1 (g.trans g1)
  | ex x l s => exact fun C d σ' H1 μ1 g1 => h C d σ' H1 μ1 (g.trans g1)
  | stuck => exact h

section
variable {G : Gm} {K : PySem.W.Frag} {H H' : Hp} {μ μ' : Mu} {α β γ δ : Type} {W : Value → Option Addr → Hp → Prop}
theorem okP.up {t : (β → Hp → Prop) → Prop} {Rl : Hp → Mu → β → α → Prop} {r : R α} (g : Grow H μ H' μ') (h : okP G K t W H' μ' Rl r) : okP G K t W H μ Rl r := by
  cases r with
  | ok a s => exact fun Q k => h Q fun b H1 μ1 g1 => k b H1 μ1 (g.trans g1)
  | ex c s => exact fun Q k => h Q fun b d H1 μ1 g1 => k b d H1 μ1 (g.trans g1)
  | stuck => trivial
theorem okP.bind {t : (β → Hp → Prop) → Prop} {u : β → Hp → (δ → Hp → Prop) → Prop} {Rl : Hp → Mu → β → α → Prop} {Rm : Hp → Mu → δ → γ → Prop} {r : R α} {f : α → Sto → R γ}
    (h : okP G K t W H μ Rl r) (k : ∀ b H1 μ1 a s1, Grow H μ H1 μ1 → RS G K H1 μ1 s1 → Rl H1 μ1 b a → okP G K (u b H1) W H1 μ1 Rm (f a s1)) :
    okP G K (fun Q => t fun b H1 => u b H1 Q) W H μ Rm (r.bind f) := by
  cases r with
  | ok a s =>
    show okP G K _ W H μ Rm (f a s)
    have k' := fun b H1 μ1 => k b H1 μ1 a s
    cases e : f a s with
    | ok c s2 =>
      intro Q q
      refine h _ fun b H1 μ1 g r1 l => ?_
      have z := k' b H1 μ1 g r1 l
      rw [e] at z
      exact z Q fun x H2 μ2 g2 => q x H2 μ2 (g.trans g2)
    | ex c s2 =>
      intro Q q
      refine h _ fun b H1 μ1 g r1 l => ?_
      have z := k' b H1 μ1 g r1 l
      rw [e] at z
      exact z Q fun x d H2 μ2 g2 => q x d H2 μ2 (g.trans g2)
    | stuck => trivial
  | ex c s =>
    intro Q q
    exact h _ fun b d H1 μ1 g => q b d H1 μ1 g
  | stuck => trivial
/-- a value at once -/
theorem okP.now {t : (β → Hp → Prop) → Prop} {Rl : Hp → Mu → β → α → Prop} {a : α} {s : Sto} (h : ∀ Q : β → Hp → Prop, (∀ b H' μ', Grow H μ H' μ' → RS G K H' μ' s → Rl H' μ' b a → Q b H') → t Q) : okP G K t W H μ Rl (.ok a s) := h
end
end DL


namespace DL
open PySem PySem.Spec PyProof.Rows L2

structure JE (X : Cx) (G : Gm) (W : WX) (e : Expr) (t : TE) (m : ME) : Prop where
  pe : Takes X W → PE X e t
  sim : ∀ (σ : L2.St) (H : Hp) (μ : Mu) (l : Loc) (s : Sto), RL G G.K H μ σ l → RS G G.K H μ s → okP G G.K (t σ H) (fun c d H' => W c d σ H') H μ (Rp G G.K) (m l s)
abbrev BEq2 : Hp → Mu → Bool → Bool → Prop := fun _ _ b a => b = a
structure JT (X : Cx) (G : Gm) (W : WX) (e : Expr) (t : TT) (m : MT) : Prop where
  pe : Takes X W → PT X e t
  sim : ∀ (σ : L2.St) (H : Hp) (μ : Mu) (l : Loc) (s : Sto), RL G G.K H μ σ l → RS G G.K H μ s → okP G G.K (t σ H) (fun c d H' => W c d σ H') H μ BEq2 (m l s)
structure JW (X : Cx) (G : Gm) (W : WX) (e : Expr) (t : TT) (m : MT) : Prop where
  pe : Takes X W → PW X e t
  sim : ∀ (σ : L2.St) (H : Hp) (μ : Mu) (l : Loc) (s : Sto), RL G G.K H μ σ l → RS G G.K H μ s → okP G G.K (t σ H) (fun c d H' => W c d σ H') H μ BEq2 (m l s)
structure JA (X : Cx) (G : Gm) (W : WX) (es : List Expr) (t : TA) (m : MA) : Prop where
  pe : Takes X W → PA X es t
  sim : ∀ (σ : L2.St) (H : Hp) (μ : Mu) (l : Loc) (s : Sto), RL G G.K H μ σ l → RS G G.K H μ s → okP G G.K (t σ H) (fun c d H' => W c d σ H') H μ (RpA G G.K) (m l s)

theorem JW.jt {X : Cx} {G : Gm} {W : WX} {e : Expr} {t : TT} {m : MT} (h : JW X G W e t m) : JT X G W e t m := ⟨fun tk => (h.pe tk).pt, h.sim⟩

/-! ### names, constants -/
def mVar (i : Nat) : ME := fun l s => match l[i]? with
  | some (some d) => .ok d s
  | _ => .stuck
def mC (d : D) : ME := fun _ s => .ok d s

section
variable {X : Cx} {G : Gm} {W : WX}
theorem je_var (i : Nat) {x : Str} {pos : Pos} (hN : X.N[i]? = some x := by rfl) (hv : Vis X.env.scope x := by first | exact Or.inl rfl | exact Or.inr (Or.inl rfl) | exact Or.inr (Or.inr rfl)) (hd : (x == ("__debug__" : Str)) = false := by decide)
    (hcd : (x == ("__classdict__" : Str)) = false := by decide) : JE X G W (.Name x pos) (tVar i) (mVar i) := by
  refine ⟨fun tk => pe_var hN hv hd hcd, fun σ H μ l s hl hs => ?_⟩
  unfold mVar
  cases e : l[i]? with
  | none => trivial
  | some o =>
    cases o with
    | none => trivial
    | some d =>
      obtain ⟨v, h1, h2⟩ := hl.2 i d e
      exact fun Q q => ⟨v, h1, q v H μ Grow.refl hs h2⟩
theorem simC {v : V} {d : D} (h : ∀ H μ, Rp G G.K H μ v d) : ∀ (σ : L2.St) (H : Hp) (μ : Mu) (l : Loc) (s : Sto), RL G G.K H μ σ l → RS G G.K H μ s → okP G G.K (tC v σ H) (fun c d H' => W c d σ H') H μ (Rp G G.K) (mC d l s) :=
  fun σ H μ l s hl hs Q q => q v H μ Grow.refl hs (h H μ)
theorem je_int {i : Int} {j pos} : JE X G W (.Constant (.int i) j pos) (tC (.int i)) (mC (.int i)) := ⟨fun tk => pe_int, simC fun _ _ => .int i⟩
theorem je_bl {b : Bool} {j pos} : JE X G W (.Constant (.bool b) j pos) (tC (.bl b)) (mC (.bl b)) := ⟨fun tk => pe_bl, simC fun _ _ => .bl b⟩
theorem je_non {j pos} : JE X G W (.Constant .none j pos) (tC .non) (mC .non) := ⟨fun tk => pe_non, simC fun _ _ => .non⟩
theorem je_str {x : Str} {j pos} : JE X G W (.Constant (.str x) j pos) (tC (.str x)) (mC (.str x)) := ⟨fun tk => pe_str, simC fun _ _ => .str x⟩
/-- a global of the program: r by its value -/
theorem je_glob {x : Str} {v : V} {u : Value} {d : D} {pos : Pos} (hg : Gl X x) (hm : X.mg x = some u) (r : RelV v u) (h : ∀ H μ, Rp G G.K H μ v d) (hd : (x == ("__debug__" : Str)) = false := by decide) : JE X G W (.Name x pos) (tC v) (mC d) :=
  ⟨fun tk => pe_glob hg hm r hd, simC h⟩

/-! ### operators -/
def SimR (G : Gm) (K : PySem.W.Frag) (r : R2) (f : D → D → Sto → R D) : Prop :=
  ∀ (H : Hp) (μ : Mu) (s : Sto) (x y : V) (d e : D) (W : Value → Option Addr → Hp → Prop), RS G K H μ s → Rp G K H μ x d → Rp G K H μ y e → okP G K (r x y H) W H μ (Rp G K) (f d e s)
def mOp (f : D → D → Sto → R D) (ma mb : ME) : ME := fun l s => (ma l s).bind fun d s1 => (mb l s1).bind fun e s2 => f d e s2
theorem sim_op {r : R2} {f : D → D → Sto → R D} {ta tb : TE} {ma mb : ME} {a b : Expr} (hs : SimR G G.K r f) (ha : JE X G W a ta ma) (hb : JE X G W b tb mb) :
    ∀ (σ : L2.St) (H : Hp) (μ : Mu) (l : Loc) (s : Sto), RL G G.K H μ σ l → RS G G.K H μ s → okP G G.K (tOp r ta tb σ H) (fun c d H' => W c d σ H') H μ (Rp G G.K) (mOp f ma mb l s) := by
  intro σ H μ l s hl hs0
  refine (ha.sim σ H μ l s hl hs0).bind fun x H1 μ1 d s1 g1 r1 p1 => ?_
  refine (hb.sim σ H1 μ1 l s1 (hl.mono g1) r1).bind fun y H2 μ2 e s2 g2 r2 p2 => ?_
  exact hs H2 μ2 s2 x y d e _ r2 (p1.mono g2) p2
theorem je_op {op : Operator} {r : R2} {f : D → D → Sto → R D} {ta tb : TE} {ma mb : ME} {a b : Expr} {pos : Pos} (ho : OpR X (binaryOp op) r) (hs : SimR G G.K r f) (ha : JE X G W a ta ma) (hb : JE X G W b tb mb) : JE X G W (.BinOp a op b pos) (tOp r ta tb) (mOp f ma mb) :=
  ⟨fun tk => pe_op ho (ha.pe tk) (hb.pe tk), sim_op hs ha hb⟩
theorem je_cmp {op : CmpOp} {r : R2} {f : D → D → Sto → R D} {ta tb : TE} {ma mb : ME} {a b : Expr} {pos : Pos} (ho : OpR X (compareOp op) r) (hs : SimR G G.K r f) (ha : JE X G W a ta ma) (hb : JE X G W b tb mb)
    (hm : behindInMarks op b = false := by first | exact nomark _ | rfl) : JE X G W (.Compare a [op] [b] pos) (tOp r ta tb) (mOp f ma mb) :=
  ⟨fun tk => pe_cmpR ho (ha.pe tk) (hb.pe tk) hm, sim_op hs ha hb⟩
/-- a test by a bool -/
def mTest (m : ME) : MT := fun l s => (m l s).bind fun d s1 => match d with
  | .bl b => .ok b s1
  | _ => .stuck
theorem sim_test {t : TE} {m : ME} {e : Expr} (h : JE X G W e t m) :
    ∀ (σ : L2.St) (H : Hp) (μ : Mu) (l : Loc) (s : Sto), RL G G.K H μ σ l → RS G G.K H μ s → okP G G.K (tTest t σ H) (fun c d H' => W c d σ H') H μ BEq2 (mTest m l s) := by
  intro σ H μ l s hl hs0
  refine (h.sim σ H μ l s hl hs0).bind fun x H1 μ1 d s1 g1 r1 p1 => ?_
  cases p1 with
  | bl b => exact fun Q q => ⟨b, rfl, q b H1 μ1 Grow.refl r1 rfl⟩
  | _ => trivial
theorem jt_cmp {op : CmpOp} {r : R2} {f : D → D → Sto → R D} {ta tb : TE} {ma mb : ME} {a b : Expr} {pos : Pos} (ho : OpR X (compareOp op) r) (hs : SimR G G.K r f) (ha : JE X G W a ta ma) (hb : JE X G W b tb mb)
    (hm : behindInMarks op b = false := by first | exact nomark _ | rfl) : JT X G W (.Compare a [op] [b] pos) (tTest (tOp r ta tb)) (mTest (mOp f ma mb)) :=
  ⟨fun tk => pt_cmpR ho (ha.pe tk) (hb.pe tk) hm, sim_test (je_cmp (pos := pos) ho hs ha hb hm)⟩
/-- an expression that gives a bool -/
theorem jt_val {e : Expr} {t : TE} {m : ME} (h : JE X G W e t m) (he : ∀ whole, isTrue e X.env whole = (do let v ← whole; standAt e.pos; holding [v] (truthy v)) := by intro _; rfl) : JT X G W e (tB t) (mTest m) :=
  ⟨fun tk => pt_val (h.pe tk) he, sim_test h⟩

theorem OpR.or {f : Value → Value → Sem Value} {r r' : R2} (h : OpR X f r) (h' : OpR X f r') : OpR X f (fun x y H Q => r x y H Q ∨ r' x y H Q) := by
  intro pins s σ H x y v u Q I rx ry q
  rcases q with q | q
  · exact h pins s σ H x y v u Q I rx ry q
  · exact h' pins s σ H x y v u Q I rx ry q
theorem PE.or {e : Expr} {t t' : TE} (h : PE X e t) (h' : PE X e t') : PE X e (fun σ H Q => t σ H Q ∨ t' σ H Q) := by
  refine ⟨fun pins s σ H Q I q => ?_⟩
  rcases q with q | q
  · exact h.run pins s σ H Q I q
  · exact h'.run pins s σ H Q I q

/-! ### and, or, not, if -/
def mAnd (m n : MT) : MT := fun l s => (m l s).bind fun b s1 => match b with
  | true => n l s1
  | false => .ok false s1
def mOr (m n : MT) : MT := fun l s => (m l s).bind fun b s1 => match b with
  | true => .ok true s1
  | false => n l s1
def mNot (m : MT) : MT := fun l s => (m l s).bind fun b s1 => .ok (!b) s1
def mIf (c : MT) (m n : ME) : ME := fun l s => (c l s).bind fun b s1 => match b with
  | true => m l s1
  | false => n l s1
section
variable {a b c : Expr} {rest : List Expr} {pos : Pos} {ta tb : TT} {ma mb : MT} {te tf : TE} {me mf : ME}
theorem jw_and1 (h : JT X G W a ta ma) : JW X G W (.BoolOp .And [a] pos) ta ma := ⟨fun tk => pw_and1 (h.pe tk), h.sim⟩
theorem jw_or1 (h : JT X G W a ta ma) : JW X G W (.BoolOp .Or [a] pos) ta ma := ⟨fun tk => pw_or1 (h.pe tk), h.sim⟩
theorem jw_and (ha : JT X G W a ta ma) (hb : JW X G W (.BoolOp .And (b :: rest) pos) tb mb) : JW X G W (.BoolOp .And (a :: b :: rest) pos) (tAnd ta tb) (mAnd ma mb) := by
  refine ⟨fun tk => pw_and (ha.pe tk) (hb.pe tk), fun σ H μ l s hl hs => (ha.sim σ H μ l s hl hs).bind fun x H1 μ1 d s1 g1 r1 p1 => ?_⟩
  subst p1
  cases x with
  | true => simpa using hb.sim σ H1 μ1 l s1 (hl.mono g1) r1
  | false => exact fun Q q => by simpa using q false H1 μ1 Grow.refl r1 rfl
theorem jw_or (ha : JT X G W a ta ma) (hb : JW X G W (.BoolOp .Or (b :: rest) pos) tb mb) : JW X G W (.BoolOp .Or (a :: b :: rest) pos) (tOr ta tb) (mOr ma mb) := by
  refine ⟨fun tk => pw_or (ha.pe tk) (hb.pe tk), fun σ H μ l s hl hs => (ha.sim σ H μ l s hl hs).bind fun x H1 μ1 d s1 g1 r1 p1 => ?_⟩
  subst p1
  cases x with
  | true => exact fun Q q => by simpa using q true H1 μ1 Grow.refl r1 rfl
  | false => simpa using hb.sim σ H1 μ1 l s1 (hl.mono g1) r1
theorem jt_not (ha : JT X G W a ta ma) : JT X G W (.UnaryOp .Not a pos) (tNot ta) (mNot ma) := by
  refine ⟨fun tk => pt_not (ha.pe tk), fun σ H μ l s hl hs => (ha.sim σ H μ l s hl hs).bind fun x H1 μ1 d s1 g1 r1 p1 => ?_⟩
  subst p1
  exact fun Q q => q (!x) H1 μ1 Grow.refl r1 rfl
theorem je_if {c : Expr} (hc : JT X G W c ta ma) (ha : JE X G W a te me) (hb : JE X G W b tf mf) : JE X G W (.IfExp c a b pos) (tIf ta te tf) (mIf ma me mf) := by
  refine ⟨fun tk => pe_ifExp (hc.pe tk) (ha.pe tk) (hb.pe tk), fun σ H μ l s hl hs => (hc.sim σ H μ l s hl hs).bind fun x H1 μ1 d s1 g1 r1 p1 => ?_⟩
  subst p1
  cases x with
  | true => simpa using ha.sim σ H1 μ1 l s1 (hl.mono g1) r1
  | false => simpa using hb.sim σ H1 μ1 l s1 (hl.mono g1) r1
/-- a and b, a or b as values; all but the last are bools -/
def mAndV (m n : ME) : ME := fun l s => (m l s).bind fun d s1 => match d with
  | .bl true => n l s1
  | .bl false => .ok (.bl false) s1
  | _ => .stuck
def mOrV (m n : ME) : ME := fun l s => (m l s).bind fun d s1 => match d with
  | .bl true => .ok (.bl true) s1
  | .bl false => n l s1
  | _ => .stuck
def mNotV (m : ME) : ME := fun l s => (m l s).bind fun d s1 => match d with
  | .bl b => .ok (.bl (!b)) s1
  | _ => .stuck
theorem je_one {op} (h : JE X G W a te me) : JE X G W (.BoolOp op [a] pos) te me := ⟨fun tk => pe_one (h.pe tk), h.sim⟩
theorem je_and (ha : JE X G W a te me) (hb : JE X G W (.BoolOp .And (b :: rest) pos) tf mf) : JE X G W (.BoolOp .And (a :: b :: rest) pos) (tAndV te tf) (mAndV me mf) := by
  refine ⟨fun tk => pe_and (ha.pe tk) (hb.pe tk), fun σ H μ l s hl hs => (ha.sim σ H μ l s hl hs).bind fun x H1 μ1 d s1 g1 r1 p1 => ?_⟩
  cases p1 with
  | bl k =>
    cases k with
    | true =>
      have z := hb.sim σ H1 μ1 l s1 (hl.mono g1) r1
      have e : (fun Q : VK => ∃ c, V.bl true = V.bl c ∧ if c = true then tf σ H1 Q else Q (.bl false) H1) = tf σ H1 := by
        funext Q
        apply propext
        constructor
        · rintro ⟨c, h, q⟩; cases h; simpa using q
        · exact fun q => ⟨true, rfl, by simpa using q⟩
      show okP G G.K (fun Q : VK => ∃ c, V.bl true = V.bl c ∧ if c = true then tf σ H1 Q else Q (.bl false) H1) _ _ _ _ _
      rw [e]; exact z
    | false => exact fun Q q => ⟨false, rfl, by simpa using q _ H1 μ1 Grow.refl r1 (.bl false)⟩
  | _ => trivial
theorem je_or (ha : JE X G W a te me) (hb : JE X G W (.BoolOp .Or (b :: rest) pos) tf mf) : JE X G W (.BoolOp .Or (a :: b :: rest) pos) (tOrV te tf) (mOrV me mf) := by
  refine ⟨fun tk => pe_or (ha.pe tk) (hb.pe tk), fun σ H μ l s hl hs => (ha.sim σ H μ l s hl hs).bind fun x H1 μ1 d s1 g1 r1 p1 => ?_⟩
  cases p1 with
  | bl k =>
    cases k with
    | false =>
      have z := hb.sim σ H1 μ1 l s1 (hl.mono g1) r1
      have e : (fun Q : VK => ∃ c, V.bl false = V.bl c ∧ if c = true then Q (.bl true) H1 else tf σ H1 Q) = tf σ H1 := by
        funext Q
        apply propext
        constructor
        · rintro ⟨c, h, q⟩; cases h; simpa using q
        · exact fun q => ⟨false, rfl, by simpa using q⟩
      show okP G G.K (fun Q : VK => ∃ c, V.bl false = V.bl c ∧ if c = true then Q (.bl true) H1 else tf σ H1 Q) _ _ _ _ _
      rw [e]; exact z
    | true => exact fun Q q => ⟨true, rfl, by simpa using q _ H1 μ1 Grow.refl r1 (.bl true)⟩
  | _ => trivial
theorem je_not (ha : JE X G W a te me) : JE X G W (.UnaryOp .Not a pos) (tNotV te) (mNotV me) := by
  refine ⟨fun tk => pe_not (ha.pe tk), fun σ H μ l s hl hs => (ha.sim σ H μ l s hl hs).bind fun x H1 μ1 d s1 g1 r1 p1 => ?_⟩
  cases p1 with
  | bl k => exact fun Q q => ⟨k, rfl, q _ H1 μ1 Grow.refl r1 (.bl (!k))⟩
  | _ => trivial
end

/-! ### arguments, tuples, lists -/
def mNil : MA := fun _ s => .ok [] s
def mCons (m : ME) (ms : MA) : MA := fun l s => (m l s).bind fun d s1 => (ms l s1).bind fun ds s2 => .ok (d :: ds) s2
theorem ja_nil : JA X G W [] tNil mNil := ⟨fun tk => pa_nil, fun σ H μ l s hl hs Q q => q [] H μ Grow.refl hs .nil⟩
theorem ja_cons {e : Expr} {es : List Expr} {te : TE} {t : TA} {me : ME} {m : MA} (ha : JE X G W e te me) (hr : JA X G W es t m) (hs : starEach (e :: es) X.env = (false, eval e X.env) :: starEach es X.env := by rfl) : JA X G W (e :: es) (tCons te t) (mCons me m) := by
  refine ⟨fun tk => pa_cons (ha.pe tk) (hr.pe tk) hs, fun σ H μ l s hl hs => (ha.sim σ H μ l s hl hs).bind fun x H1 μ1 d s1 g1 r1 p1 => ?_⟩
  refine (hr.sim σ H1 μ1 l s1 (hl.mono g1) r1).bind fun xs H2 μ2 ds s2 g2 r2 p2 => ?_
  exact fun Q q => q (x :: xs) H2 μ2 Grow.refl r2 (.cons (p1.mono g2) p2)
def mTup (m : MA) : ME := fun l s => (m l s).bind fun ds s1 => if ds.length ≤ 100000 then .ok (.tup ds) s1 else .stuck
def mLst (m : MA) : ME := fun l s => (m l s).bind fun ds s1 => if ds.length ≤ 100000 then .ok (.lst ds) s1 else .stuck
/-- a new list that is tracked -/
def mNew (m : MA) : ME := fun l s => (m l s).bind fun ds s1 => if ds.length ≤ 100000 then .ok (.ref s1.length) (s1 ++ [.lst ds]) else .stuck
theorem le_line {n : Nat} (h : n ≤ 100000) : n ≤ sizeLine := Nat.le_trans h (by decide)
theorem lt_line {n : Nat} (h : n < 100000) : n < sizeLine := Nat.lt_of_lt_of_le h (by decide)
theorem newT {H : Hp} {μ : Mu} {s : Sto} {vs : List V} {ds : List D} (r : RS G G.K H μ s) (p : RpA G G.K H μ vs ds) {Q : VK} (q : ∀ b H' μ', Grow H μ H' μ' → RS G G.K H' μ' s → Rp G G.K H' μ' b (.tup ds) → Q b H') : ∀ a, H a = none → Q (.ref a) (upd H a (.tup vs)) :=
  fun a ha => q _ _ μ (r.galloc ha) (r.alloc ha) (.tup upd_same (r.notin ha) (p.mono (r.galloc ha)))
theorem newL {H : Hp} {μ : Mu} {s : Sto} {vs : List V} {ds : List D} (r : RS G G.K H μ s) (p : RpA G G.K H μ vs ds) {Q : VK} (q : ∀ b H' μ', Grow H μ H' μ' → RS G G.K H' μ' s → Rp G G.K H' μ' b (.lst ds) → Q b H') : ∀ a, H a = none → Q (.ref a) (upd H a (.lst vs)) :=
  fun a ha => q _ _ μ (r.galloc ha) (r.alloc ha) (.lst upd_same (r.notin ha) (p.mono (r.galloc ha)))
theorem newR {H : Hp} {μ : Mu} {s : Sto} {vs : List V} {ds : List D} (r : RS G G.K H μ s) (p : RpA G G.K H μ vs ds) {Q : VK} (q : ∀ b H' μ', Grow H μ H' μ' → RS G G.K H' μ' (s ++ [.lst ds]) → Rp G G.K H' μ' b (.ref s.length) → Q b H') : ∀ a, H a = none → Q (.ref a) (upd H a (.lst vs)) :=
  fun a ha => q _ _ (μ.add a) (r.gtrack ha) (r.track ha ⟨vs, upd_same, p.mono (r.gtrack ha)⟩) (.ref (by show (μ.tr ++ [a])[s.length]? = some a; rw [← r.len, List.getElem?_append_right (Nat.le_refl _), Nat.sub_self]; rfl))
theorem je_tup {es : List Expr} {t : TA} {m : MA} {x1} {pos : Pos} (h : JA X G W es t m) : JE X G W (.Tuple es x1 pos) (tTup t) (mTup m) := by
  refine ⟨fun tk => pe_tup (h.pe tk), fun σ H μ l s hl hs => (h.sim σ H μ l s hl hs).bind fun xs H1 μ1 ds s1 g1 r1 p1 => ?_⟩
  split
  · rename_i hz
    exact fun Q q => ⟨le_line (by rw [p1.length]; exact hz), newT r1 p1 q⟩
  · trivial
theorem je_lst {es : List Expr} {t : TA} {m : MA} {pos : Pos} (h : JA X G W es t m) : JE X G W (.List es pos) (tLst t) (mLst m) := by
  refine ⟨fun tk => pe_lst (h.pe tk), fun σ H μ l s hl hs => (h.sim σ H μ l s hl hs).bind fun xs H1 μ1 ds s1 g1 r1 p1 => ?_⟩
  split
  · rename_i hz
    exact fun Q q => ⟨le_line (by rw [p1.length]; exact hz), newL r1 p1 q⟩
  · trivial
theorem je_new {es : List Expr} {t : TA} {m : MA} {pos : Pos} (h : JA X G W es t m) : JE X G W (.List es pos) (tLst t) (mNew m) := by
  refine ⟨fun tk => pe_lst (h.pe tk), fun σ H μ l s hl hs => (h.sim σ H μ l s hl hs).bind fun xs H1 μ1 ds s1 g1 r1 p1 => ?_⟩
  split
  · rename_i hz
    exact fun Q q => ⟨le_line (by rw [p1.length]; exact hz), newR r1 p1 q⟩
  · trivial
end

/-! ### reading lists and tuples -/
/-- a list's items: frozen or tracked -/
def rdL (s : Sto) : D → Option (List D)
  | .lst xs => some xs
  | .ref n => match s[n]? with
    | some (.lst xs) => some xs
    | _ => none
  | _ => none
/-- .. a list's, a tuple's, the script's -/
def rdS (s : Sto) : D → Option (List D)
  | .lst xs => some xs
  | .tup xs => some xs
  | .scr xs => some (xs.map D.int)
  | .ref n => match s[n]? with
    | some (.lst xs) => some xs
    | _ => none
  | _ => none
section
variable {G : Gm} {K : PySem.W.Frag} {H : Hp} {μ : Mu} {s : Sto} {v : V} {d : D} {ds : List D}
theorem rdL_ok (r : RS G K H μ s) (p : Rp G K H μ v d) (h : rdL s d = some ds) : ∃ a vs, v = .ref a ∧ H a = some (.lst vs) ∧ RpA G K H μ vs ds := by
  cases p with
  | lst h1 h2 h3 =>
    simp only [rdL, Option.some.injEq] at h
    subst h
    exact ⟨_, _, rfl, h1, h3⟩
  | @ref n a h1 =>
    unfold rdL at h
    cases e : s[n]? with
    | none => simp only [e] at h; cases h
    | some o =>
      cases o with
      | lst xs =>
        simp only [e, Option.some.injEq] at h
        subst h
        obtain ⟨vs, q1, q2⟩ := r.at_ n a _ h1 e
        exact ⟨a, vs, rfl, q1, q2⟩
      | dK _ => simp only [e] at h; cases h
      | dT _ => simp only [e] at h; cases h
  | _ => cases h
theorem rdS_ok (r : RS G K H μ s) (p : Rp G K H μ v d) (h : rdS s d = some ds) : ∃ a vs, v = .ref a ∧ (SqL K H a vs ∨ SqT K H a vs) ∧ RpA G K H μ vs ds := by
  cases p with
  | lst h1 h2 h3 =>
    simp only [rdS, Option.some.injEq] at h
    subst h
    exact ⟨_, _, rfl, .inl (SqL.of h1), h3⟩
  | tup h1 h2 h3 =>
    simp only [rdS, Option.some.injEq] at h
    subst h
    exact ⟨_, _, rfl, .inr (SqT.of h1), h3⟩
  | tupK h1 h2 h3 h4 h5 h6 =>
    simp only [rdS, Option.some.injEq] at h
    subst h
    exact ⟨_, _, rfl, .inr (.inr ⟨_, _, _, h1, h2, h3, h4, h5⟩), h6⟩
  | @scr a o xs h1 h2 =>
    simp only [rdS, Option.some.injEq] at h
    subst h
    exact ⟨_, _, rfl, .inl (.inl (.inr ⟨o, h1⟩)), RpA.ints xs⟩
  | @scrK a o its n xs h1 h2 h3 h4 h5 h6 =>
    simp only [rdS, Option.some.injEq] at h
    subst h
    exact ⟨_, _, rfl, .inl (.inr ⟨o, its, n, h1, h2, h3, h4, h5, h6⟩), RpA.ints xs⟩
  | @ref n a h1 =>
    unfold rdS at h
    cases e : s[n]? with
    | none => simp only [e] at h; cases h
    | some o =>
      cases o with
      | lst xs =>
        simp only [e, Option.some.injEq] at h
        subst h
        obtain ⟨vs, q1, q2⟩ := r.at_ n a _ h1 e
        exact ⟨a, vs, rfl, .inl (SqL.of q1), q2⟩
      | dK _ => simp only [e] at h; cases h
      | dT _ => simp only [e] at h; cases h
  | _ => cases h
end
end DL


namespace DL
open PySem PySem.Spec PyProof.Rows L2

/-! ### ints -/
def mulOk (i j : Int) : Bool := decide (i.natAbs < 2 ^ 64) || decide (j.natAbs < 2 ^ 64) || decide (i.natAbs.log2 + j.natAbs.log2 < 1000000)
def divOk (j : Int) : Bool := decide (j ≠ 0) && decide (j.natAbs.log2 < 9000)
def powOk (i j : Int) : Bool := decide (0 ≤ j) && decide (j ≤ 1000000) && decide (i.natAbs < 2 ^ 64)
def subD : D → D → Sto → R D
  | .int i, .int j, s => .ok (.int (i - j)) s
  | _, _, _ => .stuck
def mulD : D → D → Sto → R D
  | .int i, .int j, s => if mulOk i j = true then .ok (.int (i * j)) s else .stuck
  | .lst xs, .int j, s => if xs.length * j.toNat ≤ 100000 ∧ -100000 ≤ j ∧ j ≤ 100000 then .ok (.lst (List.replicate j.toNat xs).flatten) s else .stuck
  | _, _, _ => .stuck
/-- the new list is tracked -/
def mulN : D → D → Sto → R D
  | .lst xs, .int j, s => if xs.length * j.toNat ≤ 100000 ∧ -100000 ≤ j ∧ j ≤ 100000 then .ok (.ref s.length) (s ++ [.lst (List.replicate j.toNat xs).flatten]) else .stuck
  | _, _, _ => .stuck
def fdivD : D → D → Sto → R D
  | .int i, .int j, s => if divOk j = true then .ok (.int (i.fdiv j)) s else .stuck
  | _, _, _ => .stuck
def modD : D → D → Sto → R D
  | .int i, .int j, s => if j = 0 then .stuck else .ok (.int (i.fmod j)) s
  | _, _, _ => .stuck
def powD : D → D → Sto → R D
  | .int i, .int j, s => if powOk i j = true then .ok (.int (i ^ j.toNat)) s else .stuck
  | _, _, _ => .stuck
def shlD : D → D → Sto → R D
  | .int i, .int j, s => if powOk i j = true then .ok (.int (i * 2 ^ j.toNat)) s else .stuck
  | _, _, _ => .stuck
def shrD : D → D → Sto → R D
  | .int i, .int j, s => if 0 ≤ j then .ok (.int (i / 2 ^ j.toNat)) s else .stuck
  | _, _, _ => .stuck
def andD : D → D → Sto → R D
  | .int i, .int j, s => .ok (.int (Builtin.bitAnd i j)) s
  | _, _, _ => .stuck
/-- a + b -/
def addD (x y : D) (s : Sto) : R D := match x, y with
  | .int i, .int j => .ok (.int (i + j)) s
  | .str a, .str b => if a.length + b.length ≤ 100000 then .ok (.str (a ++ b)) s else .stuck
  | .tup xs, .tup ys => if xs ≠ [] ∧ xs.length + ys.length ≤ 100000 then .ok (.tup (xs ++ ys)) s else .stuck
  | x, y => match rdL s x, rdL s y with
    | some xs, some ys => if xs.length + ys.length ≤ 100000 then .ok (.lst (xs ++ ys)) s else .stuck
    | _, _ => .stuck

section
variable {X : Cx} {G : Gm} {K : PySem.W.Frag}
theorem op_mulA : OpR X (binaryOp .Mult) (fun x y H Q => rI CMul (fun i j => .int (i * j)) x y H Q ∨ rI CMulW (fun i j => .int (i * j)) x y H Q ∨ rRep x y H Q) := DL.OpR.or op_mul (DL.OpR.or op_mulW op_rep)
def CDivA (_ j : Int) : Prop := j ≠ 0 ∧ j.natAbs.log2 < 9000
theorem op_fdivA : OpR X (binaryOp .FloorDiv) (rI CDivA fun i j => .int (i.fdiv j)) := opI fun _ _ _ _ _ _ _ hc q => floordiv_int hc.1 q (.inl (PyProof.noPylong_of_log2 hc.2))
def rAddA (K : PySem.W.Frag) : R2 := fun x y H Q => rI0 (fun i j => .int (i + j)) x y H Q ∨ (∃ i j, x = .str i ∧ y = .str j ∧ i.length + j.length ≤ sizeLine ∧ Q (.str (i ++ j)) H) ∨ rCatT K x y H Q ∨ rCat x y H Q
theorem op_addA (hK : X.K = K) : OpR X (binaryOp .Add) (rAddA K) := hK ▸ DL.OpR.or op_add (DL.OpR.or op_add_str (DL.OpR.or op_catT op_cat))
theorem op_eqK (hK : X.K = K) (hu : X.A.units + 64 < cLine) : OpR X (compareOp .Eq) (rEqD K) := hK ▸ op_eqD hu
theorem op_neK (hK : X.K = K) (hu : X.A.units + 64 < cLine) : OpR X (compareOp .NotEq) (rNeD K) := hK ▸ op_neD hu

theorem now {t : VK → Prop} {W : Value → Option Addr → Hp → Prop} {H : Hp} {μ : Mu} {s : Sto} {v : V} {d : D} (r : RS G K H μ s) (p : Rp G K H μ v d) (h : ∀ Q : VK, Q v H → t Q) : okP G K t W H μ (Rp G K) (.ok d s) :=
  fun Q q => h Q (q v H μ Grow.refl r p)

theorem s_sub : SimR G K (rI0 fun i j => .int (i - j)) subD := by
  intro H μ s x y d e W r p q
  cases p <;> cases q <;> first | exact trivial | skip
  exact now r (.int _) fun Q z => ⟨_, _, rfl, rfl, z⟩
theorem newTG {H : Hp} {μ : Mu} {s : Sto} {vs : List V} {ds : List D} (r : RS G K H μ s) (p : RpA G K H μ vs ds) {Q : VK} (q : ∀ b H' μ', Grow H μ H' μ' → RS G K H' μ' s → Rp G K H' μ' b (.tup ds) → Q b H') : ∀ a, H a = none → Q (.ref a) (upd H a (.tup vs)) :=
  fun a ha => q _ _ μ (r.galloc ha) (r.alloc ha) (.tup upd_same (r.notin ha) (p.mono (r.galloc ha)))
theorem newLG {H : Hp} {μ : Mu} {s : Sto} {vs : List V} {ds : List D} (r : RS G K H μ s) (p : RpA G K H μ vs ds) {Q : VK} (q : ∀ b H' μ', Grow H μ H' μ' → RS G K H' μ' s → Rp G K H' μ' b (.lst ds) → Q b H') : ∀ a, H a = none → Q (.ref a) (upd H a (.lst vs)) :=
  fun a ha => q _ _ μ (r.galloc ha) (r.alloc ha) (.lst upd_same (r.notin ha) (p.mono (r.galloc ha)))
theorem newRG {H : Hp} {μ : Mu} {s : Sto} {vs : List V} {ds : List D} (r : RS G K H μ s) (p : RpA G K H μ vs ds) {Q : VK} (q : ∀ b H' μ', Grow H μ H' μ' → RS G K H' μ' (s ++ [.lst ds]) → Rp G K H' μ' b (.ref s.length) → Q b H') : ∀ a, H a = none → Q (.ref a) (upd H a (.lst vs)) :=
  fun a ha => q _ _ (μ.add a) (r.gtrack ha) (r.track ha ⟨vs, upd_same, p.mono (r.gtrack ha)⟩) (.ref (by show (μ.tr ++ [a])[s.length]? = some a; rw [← r.len, List.getElem?_append_right (Nat.le_refl _), Nat.sub_self]; rfl))
theorem mulOk_or {i j : Int} (h : mulOk i j = true) : CMul i j ∨ CMulW i j := by
  unfold mulOk at h
  simp only [Bool.or_eq_true, decide_eq_true_eq] at h
  rcases h with (h | h) | h
  · left; left; omega
  · left; right; omega
  · exact .inr h
theorem s_mul : SimR G K (fun x y H Q => rI CMul (fun i j => .int (i * j)) x y H Q ∨ rI CMulW (fun i j => .int (i * j)) x y H Q ∨ rRep x y H Q) mulD := by
  intro H μ s x y d e W r p q
  cases p <;> cases q <;> first | exact trivial | skip
  · simp only [mulD]
    split
    · rename_i h
      rcases mulOk_or h with h | h
      · exact now r (.int _) fun Q z => .inl ⟨_, _, rfl, rfl, h, z⟩
      · exact now r (.int _) fun Q z => .inr (.inl ⟨_, _, rfl, rfl, h, z⟩)
    · trivial
  · rename_i a vs ds h1 h2 h3 j
    simp only [mulD]
    split
    · rename_i h
      obtain ⟨z1, z2, z3⟩ := h
      exact fun Q q => .inr (.inr ⟨_, j, vs, rfl, rfl, h1, by omega, by omega, le_line (by rw [h3.length]; exact z1), newLG r (h3.replicate _) q⟩)
    · trivial
theorem s_mulN : SimR G K (fun x y H Q => rI CMul (fun i j => .int (i * j)) x y H Q ∨ rI CMulW (fun i j => .int (i * j)) x y H Q ∨ rRep x y H Q) mulN := by
  intro H μ s x y d e W r p q
  cases p <;> cases q <;> first | exact trivial | skip
  rename_i a vs ds h1 h2 h3 j
  simp only [mulN]
  split
  · rename_i h
    obtain ⟨z1, z2, z3⟩ := h
    exact fun Q q => .inr (.inr ⟨_, j, vs, rfl, rfl, h1, by omega, by omega, le_line (by rw [h3.length]; exact z1), newRG r (h3.replicate _) q⟩)
  · trivial
theorem s_fdiv : SimR G K (rI CDivA fun i j => .int (i.fdiv j)) fdivD := by
  intro H μ s x y d e W r p q
  cases p <;> cases q <;> first | exact trivial | skip
  simp only [fdivD]
  split
  · rename_i h
    unfold divOk at h
    simp only [Bool.and_eq_true, decide_eq_true_eq] at h
    exact now r (.int _) fun Q z => ⟨_, _, rfl, rfl, h, z⟩
  · trivial
theorem s_mod : SimR G K (rI (fun _ j => j ≠ 0) fun i j => .int (i.fmod j)) modD := by
  intro H μ s x y d e W r p q
  cases p <;> cases q <;> first | exact trivial | skip
  simp only [modD]
  split
  · trivial
  · rename_i h
    exact now r (.int _) fun Q z => ⟨_, _, rfl, rfl, h, z⟩
theorem powOk_of {i j : Int} (h : powOk i j = true) : CPow i j := by
  unfold powOk at h
  simp only [Bool.and_eq_true, decide_eq_true_eq] at h
  exact ⟨h.1.1, h.1.2, h.2⟩
theorem s_pow : SimR G K (rI CPow fun i j => .int (i ^ j.toNat)) powD := by
  intro H μ s x y d e W r p q
  cases p <;> cases q <;> first | exact trivial | skip
  simp only [powD]
  split
  · rename_i h
    exact now r (.int _) fun Q z => ⟨_, _, rfl, rfl, powOk_of h, z⟩
  · trivial
theorem s_shl : SimR G K (rI CPow fun i j => .int (i * 2 ^ j.toNat)) shlD := by
  intro H μ s x y d e W r p q
  cases p <;> cases q <;> first | exact trivial | skip
  simp only [shlD]
  split
  · rename_i h
    exact now r (.int _) fun Q z => ⟨_, _, rfl, rfl, powOk_of h, z⟩
  · trivial
theorem s_shr : SimR G K (rI (fun _ j => 0 ≤ j) fun i j => .int (i / 2 ^ j.toNat)) shrD := by
  intro H μ s x y d e W r p q
  cases p <;> cases q <;> first | exact trivial | skip
  simp only [shrD]
  split
  · rename_i h
    exact now r (.int _) fun Q z => ⟨_, _, rfl, rfl, h, z⟩
  · trivial
theorem s_and : SimR G K (rI0 fun i j => .int (Builtin.bitAnd i j)) andD := by
  intro H μ s x y d e W r p q
  cases p <;> cases q <;> first | exact trivial | skip
  exact now r (.int _) fun Q z => ⟨_, _, rfl, rfl, z⟩
theorem addLists {H : Hp} {μ : Mu} {s : Sto} {x y : V} {d e : D} {W : Value → Option Addr → Hp → Prop} (r : RS G K H μ s) (p : Rp G K H μ x d) (q : Rp G K H μ y e) :
    okP G K (rAddA K x y H) W H μ (Rp G K) (match rdL s d, rdL s e with
      | some xs, some ys => if xs.length + ys.length ≤ 100000 then .ok (.lst (xs ++ ys)) s else .stuck
      | _, _ => .stuck) := by
  cases e1 : rdL s d with
  | none => trivial
  | some xs =>
    cases e2 : rdL s e with
    | none => trivial
    | some ys =>
      dsimp only
      split
      · rename_i hz
        obtain ⟨a, vs, rfl, h1, p1⟩ := rdL_ok r p e1
        obtain ⟨b, us, rfl, h2, p2⟩ := rdL_ok r q e2
        exact fun Q k => .inr (.inr (.inr ⟨a, b, vs, us, rfl, rfl, h1, h2, le_line (by rw [p1.length, p2.length]; exact hz), newLG r (p1.append p2) k⟩))
      · trivial
theorem SqT_of {H : Hp} {μ : Mu} {v : V} {ds : List D} (p : Rp G K H μ v (.tup ds)) : ∃ a vs, v = .ref a ∧ SqT K H a vs ∧ RpA G K H μ vs ds := by
  cases p with
  | tup h1 h2 h3 => exact ⟨_, _, rfl, SqT.of h1, h3⟩
  | tupK h1 h2 h3 h4 h5 h6 => exact ⟨_, _, rfl, .inr ⟨_, _, _, h1, h2, h3, h4, h5⟩, h6⟩
theorem RpA.nil_iff {H : Hp} {μ : Mu} {vs : List V} {ds : List D} (p : RpA G K H μ vs ds) : vs = [] ↔ ds = [] := by
  cases p <;> simp
theorem s_add : SimR G K (rAddA K) addD := by
  intro H μ s x y d e W r p q
  unfold addD
  split
  · cases p; cases q
    exact now r (.int _) fun Q z => .inl ⟨_, _, rfl, rfl, z⟩
  · cases p; cases q
    split
    · rename_i h
      exact now r (.str _) fun Q z => .inr (.inl ⟨_, _, rfl, rfl, le_line h, z⟩)
    · trivial
  · split
    · rename_i xs ys h
      obtain ⟨hn, hz⟩ := h
      obtain ⟨a, vs, rfl, h1, p1⟩ := SqT_of p
      obtain ⟨b, us, rfl, h2, p2⟩ := SqT_of q
      refine fun Q k => .inr (.inr (.inl ⟨a, b, vs, us, rfl, rfl, h1, h2, fun z => hn (p1.nil_iff.mp z), le_line (by rw [p1.length, p2.length]; exact hz), fun z => ?_, fun _ => newTG r (p1.append p2) k⟩))
      have : ys = [] := p2.nil_iff.mp z
      subst this
      rw [List.append_nil] at k
      exact k _ _ μ Grow.refl r p
    · trivial
  · exact addLists r p q

/-! ### unary -/
def mUn (f : D → Sto → R D) (m : ME) : ME := fun l s => (m l s).bind fun d s1 => f d s1
def negD : D → Sto → R D
  | .int i, s => .ok (.int (-i)) s
  | _, _ => .stuck
theorem je_neg {W : WX} {e : Expr} {t : TE} {m : ME} {pos : Pos} (h : JE X G W e t m) : JE X G W (.UnaryOp .USub e pos) (tUn (rU fun i => .int (-i)) t) (mUn negD m) := by
  refine ⟨fun tk => pe_un un_neg (h.pe tk), fun σ H μ l s hl hs => (h.sim σ H μ l s hl hs).bind fun x H1 μ1 d s1 g1 r1 p1 => ?_⟩
  cases p1 <;> first | exact trivial | skip
  exact now r1 (.int _) fun Q z => ⟨_, rfl, z⟩

/-! ### comparisons -/
def cmpD (p : Int → Int → Bool) : D → D → Sto → R D
  | .int i, .int j, s => .ok (.bl (p i j)) s
  | _, _, _ => .stuck
theorem s_cmp {p : Int → Int → Bool} : SimR G K (rI0 fun i j => .bl (p i j)) (cmpD p) := by
  intro H μ s x y d e W r p q
  cases p <;> cases q <;> first | exact trivial | skip
  exact now r (.bl _) fun Q z => ⟨_, _, rfl, rfl, z⟩
abbrev ltD := cmpD fun i j => decide (i < j)
abbrev leD := cmpD fun i j => decide (i ≤ j)
abbrev gtD := cmpD fun i j => decide (j < i)
abbrev geD := cmpD fun i j => decide (j ≤ i)
def isND : D → D → Sto → R D
  | .non, .non, s => .ok (.bl true) s
  | _, .non, s => .ok (.bl false) s
  | _, _, _ => .stuck
def notND : D → D → Sto → R D
  | .non, .non, s => .ok (.bl false) s
  | _, .non, s => .ok (.bl true) s
  | _, _, _ => .stuck
theorem s_isN : SimR G K (fun x y H Q => y = .non ∧ Q (.bl (decide (x = .non))) H) isND := by
  intro H μ s x y d e W r p q
  cases q <;> cases p <;> first | exact trivial | skip
  all_goals first
    | exact now r (.bl true) fun Q z => ⟨rfl, by simpa using z⟩
    | exact now r (.bl false) fun Q z => ⟨rfl, by simpa using z⟩
theorem s_notN : SimR G K (fun x y H Q => y = .non ∧ Q (.bl (!decide (x = .non))) H) notND := by
  intro H μ s x y d e W r p q
  cases q <;> cases p <;> first | exact trivial | skip
  all_goals first
    | exact now r (.bl true) fun Q z => ⟨rfl, by simpa using z⟩
    | exact now r (.bl false) fun Q z => ⟨rfl, by simpa using z⟩
end

/-! ### a < b < c -/
def mChain (f g : D → D → Sto → R D) (ma mb mc : ME) : ME := fun l s => (ma l s).bind fun x s1 => (mb l s1).bind fun y s2 => (f x y s2).bind fun z s3 => match z with
  | .bl true => (mc l s3).bind fun u s4 => g y u s4
  | .bl false => .ok (.bl false) s3
  | _ => .stuck
section
variable {X : Cx} {G : Gm} {W : WX} {a b c : Expr} {ta tb tc : TE} {ma mb mc : ME} {op op' : CmpOp} {r r' : R2} {f g : D → D → Sto → R D} {pos : Pos}
theorem sim_chain (hs : SimR G G.K r f) (hs' : SimR G G.K r' g) (ha : JE X G W a ta ma) (hb : JE X G W b tb mb) (hc : JE X G W c tc mc) :
    ∀ (σ : L2.St) (H : Hp) (μ : Mu) (l : Loc) (s : Sto), RL G G.K H μ σ l → RS G G.K H μ s → okP G G.K (tChain r r' ta tb tc σ H) (fun c d H' => W c d σ H') H μ (Rp G G.K) (mChain f g ma mb mc l s) := by
  intro σ H μ l s hl hs0
  refine (ha.sim σ H μ l s hl hs0).bind fun x H1 μ1 d s1 g1 r1 p1 => ?_
  refine (hb.sim σ H1 μ1 l s1 (hl.mono g1) r1).bind (u := fun y H2 Q => r x y H2 fun z H3 => ∃ k, z = .bl k ∧ (if k = true then tc σ H3 fun w' H4 => r' y w' H4 Q else Q (.bl false) H3)) fun y H2 μ2 e s2 g2 r2 p2 => ?_
  refine (hs H2 μ2 s2 x y d e _ r2 (p1.mono g2) p2).bind (u := fun z H3 Q => ∃ k, z = .bl k ∧ (if k = true then tc σ H3 fun w' H4 => r' y w' H4 Q else Q (.bl false) H3)) fun z H3 μ3 zd s3 g3 r3 p3 => ?_
  cases p3 <;> first | exact trivial | skip
  rename_i k
  cases k with
  | false => exact fun Q q => ⟨false, rfl, by simpa using q _ H3 μ3 Grow.refl r3 (.bl false)⟩
  | true =>
    have z := (hc.sim σ H3 μ3 l s3 (((hl.mono g1).mono g2).mono g3) r3).bind (u := fun w' H4 Q => r' y w' H4 Q) fun u H4 μ4 ud s4 g4 r4 p4 => hs' H4 μ4 s4 y u e ud _ r4 ((p2.mono g3).mono g4) p4
    have e : (fun Q : VK => ∃ k, V.bl true = V.bl k ∧ (if k = true then tc σ H3 fun w' H4 => r' y w' H4 Q else Q (.bl false) H3)) = fun Q : VK => tc σ H3 fun w' H4 => r' y w' H4 Q := by
      funext Q
      apply propext
      constructor
      · rintro ⟨c, h, q⟩; cases h; simpa using q
      · exact fun q => ⟨true, rfl, by simpa using q⟩
    show okP G G.K (fun Q : VK => ∃ k, V.bl true = V.bl k ∧ (if k = true then tc σ H3 fun w' H4 => r' y w' H4 Q else Q (.bl false) H3)) _ _ _ _ _
    rw [e]
    exact z
theorem je_chain (ho : OpR X (compareOp op) r) (hs : SimR G G.K r f) (ho' : OpR X (compareOp op') r') (hs' : SimR G G.K r' g) (ha : JE X G W a ta ma) (hb : JE X G W b tb mb) (hc : JE X G W c tc mc)
    (hm : lastMarks [op, op'] [b, c] = false := by with_unfolding_all rfl) : JE X G W (.Compare a [op, op'] [b, c] pos) (tChain r r' ta tb tc) (mChain f g ma mb mc) := ⟨fun tk => pe_chain ho ho' (ha.pe tk) (hb.pe tk) (hc.pe tk) hm, sim_chain hs hs' ha hb hc⟩
theorem jt_chain (ho : OpR X (compareOp op) r) (hs : SimR G G.K r f) (ho' : OpR X (compareOp op') r') (hs' : SimR G G.K r' g) (ha : JE X G W a ta ma) (hb : JE X G W b tb mb) (hc : JE X G W c tc mc)
    (hm : lastMarks [op, op'] [b, c] = false := by with_unfolding_all rfl) : JT X G W (.Compare a [op, op'] [b, c] pos) (tTest (tChain r r' ta tb tc)) (mTest (mChain f g ma mb mc)) :=
  ⟨fun tk => pt_chain ho ho' (ha.pe tk) (hb.pe tk) (hc.pe tk) hm, sim_test (je_chain (pos := pos) ho hs ho' hs' ha hb hc hm)⟩
end

/-! ### == -/
mutual
def toPy (s : Sto) : D → Option PyData
  | .non => some .none
  | .bl b => some (.bool b)
  | .int i => some (.int i)
  | .str x => if x.length ≤ 100000 then some (.str x) else none
  | .tup xs => (toPyA s xs).map .tuple
  | .lst xs => (toPyA s xs).map .list
  | .scr _ => none
  | .ref _ => none
  | .fn _ => none
def toPyA (s : Sto) : List D → Option (List PyData)
  | [] => some []
  | x :: xs => match toPy s x, toPyA s xs with
    | some y, some ys => some (y :: ys)
    | _, _ => none
end
/-- a tracked list at the top -/
def toPyR (s : Sto) : D → Option PyData
  | .ref n => match s[n]? with
    | some (.lst xs) => (toPyA s xs).map .list
    | _ => none
  | d => toPy s d
def eqB (s : Sto) (d e : D) : Option Bool := match toPyR s d, toPyR s e with
  | some a, some b => if SeqAt.shaped a = true ∧ SeqAt.shaped b = true then some (PyData.eqv a b) else none
  | _, _ => none
def eqD (d e : D) (s : Sto) : R D := match eqB s d e with
  | some b => .ok (.bl b) s
  | none => .stuck
def neD (d e : D) (s : Sto) : R D := match eqB s d e with
  | some b => .ok (.bl (!b)) s
  | none => .stuck
section
variable {X : Cx} {G : Gm} {K : PySem.W.Frag} {H : Hp} {μ : Mu} {s : Sto}
mutual
theorem toPy_dp : ∀ {v : V} {d : D} {a : PyData}, Rp G K H μ v d → toPy s d = some a → Dp K H v a
  | _, _, _, .non, h => by simp only [toPy, Option.some.injEq] at h; subst h; exact .non
  | _, _, _, .bl b, h => by simp only [toPy, Option.some.injEq] at h; subst h; exact .bl b
  | _, _, _, .int i, h => by simp only [toPy, Option.some.injEq] at h; subst h; exact .int i
  | _, _, _, .str x, h => by
    simp only [toPy] at h
    split at h
    · cases h; exact .str x
    · cases h
  | _, _, _, .tup h1 h2 h3, h => by
    simp only [toPy, Option.map_eq_some_iff] at h
    obtain ⟨ys, h, rfl⟩ := h
    exact .tup (SqT.of h1) (toPyA_dp h3 h)
  | _, _, _, .tupK h1 h2 h3 h4 h5 h6, h => by
    simp only [toPy, Option.map_eq_some_iff] at h
    obtain ⟨ys, h, rfl⟩ := h
    exact .tup (.inr ⟨_, _, _, h1, h2, h3, h4, h5⟩) (toPyA_dp h6 h)
  | _, _, _, .lst h1 h2 h3, h => by
    simp only [toPy, Option.map_eq_some_iff] at h
    obtain ⟨ys, h, rfl⟩ := h
    exact .lst (SqL.of h1) (toPyA_dp h3 h)
  | _, _, _, .scr _ _, h => by simp [toPy] at h
  | _, _, _, .scrK _ _ _ _ _ _, h => by simp [toPy] at h
  | _, _, _, .ref _, h => by simp [toPy] at h
  | _, _, _, .fn _, h => by simp [toPy] at h
theorem toPyA_dp : ∀ {vs : List V} {ds : List D} {as : List PyData}, RpA G K H μ vs ds → toPyA s ds = some as → DpAll K H vs as
  | _, _, _, .nil, h => by simp only [toPyA, Option.some.injEq] at h; subst h; exact .nil
  | _, _, _, .cons (d := d) (ds := ds) a r, h => by
    simp only [toPyA] at h
    cases e1 : toPy s d with
    | none => rw [e1] at h; cases h
    | some y =>
      cases e2 : toPyA s ds with
      | none => rw [e1, e2] at h; cases h
      | some ys =>
        rw [e1, e2] at h
        cases h
        exact .cons (toPy_dp a e1) (toPyA_dp r e2)
end
theorem toPyR_dp {v : V} {d : D} {a : PyData} (r : RS G K H μ s) (p : Rp G K H μ v d) (h : toPyR s d = some a) : Dp K H v a := by
  cases d with
  | ref n =>
    cases p with
    | @ref n q h1 =>
      unfold toPyR at h
      cases e : s[n]? with
      | none => simp only [e] at h; cases h
      | some o =>
        cases o with
        | lst xs =>
          simp only [e, Option.map_eq_some_iff] at h
          obtain ⟨ys, h, rfl⟩ := h
          obtain ⟨vs, q1, q2⟩ := r.at_ n q _ h1 e
          exact .lst (SqL.of q1) (toPyA_dp q2 h)
        | dK _ => simp only [e] at h; cases h
        | dT _ => simp only [e] at h; cases h
  | _ => exact toPy_dp (s := s) p h
theorem s_eq : SimR G K (rEqD K) eqD := by
  intro H μ s x y d e W r p q
  unfold eqD eqB
  cases e1 : toPyR s d with
  | none => trivial
  | some a =>
    cases e2 : toPyR s e with
    | none => trivial
    | some b =>
      dsimp only
      by_cases h : SeqAt.shaped a = true ∧ SeqAt.shaped b = true
      · rw [if_pos h]
        exact now r (.bl _) fun Q z => ⟨a, b, toPyR_dp r p e1, toPyR_dp r q e2, h.1, h.2, z⟩
      · rw [if_neg h]; trivial
theorem s_ne : SimR G K (rNeD K) neD := by
  intro H μ s x y d e W r p q
  unfold neD eqB
  cases e1 : toPyR s d with
  | none => trivial
  | some a =>
    cases e2 : toPyR s e with
    | none => trivial
    | some b =>
      dsimp only
      by_cases h : SeqAt.shaped a = true ∧ SeqAt.shaped b = true
      · rw [if_pos h]
        exact now r (.bl _) fun Q z => ⟨a, b, toPyR_dp r p e1, toPyR_dp r q e2, h.1, h.2, z⟩
      · rw [if_neg h]; trivial
end
end DL


namespace DL
open PySem PySem.Spec PyProof.Rows L2

/-! ### xs[i] -/
def ixD (d e : D) (s : Sto) : R D := match e with
  | .int i => match d with
    | .str x => if x.length ≤ 100000 then match atI x.cps.toList i with
        | some c => .ok (.str ⟨#[c]⟩) s
        | none => .stuck
      else .stuck
    | d => match rdS s d with
      | some ds => match atI ds i with
        | some v => .ok v s
        | none => .stuck
      | none => .stuck
  | _ => .stuck
section
variable {X : Cx} {G : Gm} {K : PySem.W.Frag} {H : Hp} {μ : Mu} {s : Sto} {W : WX}
theorem atI_rel {vs : List V} {ds : List D} {i : Int} {d : D} (r : RpA G K H μ vs ds) (h : atI ds i = some d) : ∃ v, atI vs i = some v ∧ Rp G K H μ v d := by
  unfold atI at h ⊢
  rw [r.length]
  cases e : ixN ds.length i with
  | none => rw [e] at h; cases h
  | some j =>
    rw [e] at h
    exact r.get h
theorem s_ix : SimR G K (rIx K) ixD := by
  intro H μ s x y d e W r p q
  unfold ixD
  cases e with
  | int i =>
    cases q
    have key : okP G K (rIx K x (.int i) H) W H μ (Rp G K) (match rdS s d with
      | some ds => match atI ds i with
        | some v => .ok v s
        | none => .stuck
      | none => .stuck) := by
      cases e1 : rdS s d with
      | none => trivial
      | some ds =>
        dsimp only
        cases e2 : atI ds i with
        | none => trivial
        | some z =>
          obtain ⟨a, vs, rfl, h1, p1⟩ := rdS_ok r p e1
          obtain ⟨v, h2, h3⟩ := atI_rel p1 e2
          rcases h1 with h1 | h1
          · exact now r h3 fun Q q => .inl ⟨a, vs, i, v, rfl, rfl, h1, h2, q⟩
          · exact now r h3 fun Q q => .inr (.inl ⟨a, vs, i, v, rfl, rfl, h1, h2, q⟩)
    cases d with
    | str z =>
      cases p
      dsimp only
      split
      · rename_i hz
        cases e2 : atI z.cps.toList i with
        | none => trivial
        | some c => exact now r (.str _) fun Q q => .inr (.inr ⟨z, i, c, rfl, rfl, le_line hz, e2, q⟩)
      · trivial
    | _ => exact key
  | _ => trivial
theorem je_ix {a b : Expr} {ta tb : TE} {ma mb : ME} {pos : Pos} (ha : JE X G W a ta ma) (hb : JE X G W b tb mb) (hp : PlainIx b := by exact fun _ _ => rfl) (hK : X.K = G.K := by rfl) : JE X G W (.Subscript a b pos) (tOp (rIx G.K) ta tb) (mOp ixD ma mb) :=
  ⟨fun tk => pe_ix (hK ▸ ix_seq) (ha.pe tk) (hb.pe tk) hp, sim_op s_ix ha hb⟩

/-! ### xs[a:b] -/
theorem getItem_tuple_whole {prog : Program} {w : World} {A : Around} {E : Value → Shared → Prop} {s : Shared} {t sl : Addr} {items : Array Value} {vl vu : Value} {lo hi : Option Int} {Q : Value → Shared → Prop} (ht : IsTup s.heap t items) (hs : s.heap.IsSliceOf sl vl vu .none) (pl : IsPart vl lo) (pu : IsPart vu hi)
    (hw : HT.sIx items.size 0 lo = 0 ∧ HT.sIx items.size items.size hi = items.size) (h : Q (.ref t) s) : wpAny (model prog w) A (getItem (.ref t) (.ref sl)) Q E s := by
  obtain ⟨os, hos, hcs, hds⟩ := id hs
  have hTs : s.TypeIs (.ref sl) "slice" := ⟨os, hos, hcs⟩
  unfold getItem
  try with_reducible refine wpAny_holding ?_
  first | refine wpAny_bind (wpAny_pure ?_) | skip
  refine wpAny_bind (wpAny_sequenceKey ht.typeIs (by decide) ?_)
  refine wpAny_bind (wpAny_callSpecial?_slot (name := Str.ofString "__getitem__") ht.typeIs PyProof.Rows.slot_tuple_getitem
    (wpAny_call_entry PyProof.Rows.slot_tuple_getitem ht.typeIs entry_tuple_getitem ?_ (args_tuple_getitem _ _)))
  show wpAny _ _ (Builtin.Tuple.tupleItemsOf (.ref t) >>= _) _ _ s
  refine wpAny_bind (tupleItemsOf_ ht ?_)
  refine wpAny_bind (wpAny_typeOf hTs ?_)
  rw [if_pos (by decide)]
  refine wpAny_bind (HT.sliceApplied_gen hs pl pu ?_)
  have hyes : (((HT.sIx items.size 0 lo : Nat) : Int) == 0 && (1 : Int) == 1 && (HT.sIx items.size items.size hi - HT.sIx items.size 0 lo) == items.size) = true := by
    rw [hw.1, hw.2]; simp
  show wpAny _ _ (if (((HT.sIx items.size 0 lo : Nat) : Int) == 0 && (1 : Int) == 1 && (HT.sIx items.size items.size hi - HT.sIx items.size 0 lo) == items.size) = true then _ else _) _ _ s
  rw [if_pos hyes]
  refine wpAny_bind (wpAny_bind (wpAny_typeOf ht.typeIs (wpAny_pure ?_)))
  rw [if_pos (by decide)]
  first
    | exact wpAny_bind (wpAny_pure (wpAny_bind (wpAny_pure (wpAny_pure ⟨_, rfl, wpAny_pure h⟩))))
    | exact wpAny_pure ⟨_, rfl, wpAny_pure h⟩
    | exact wpAny_bind (wpAny_rule (wpAny_pure ⟨_, rfl, wpAny_pure h⟩))
def rSlW (K : PySem.W.Frag) : V → Option Int → Option Int → Hp → VK → Prop := fun x lo hi H Q => ∃ a xs, x = .ref a ∧ SqT K H a xs ∧ (HT.sIx xs.length 0 lo = 0 ∧ HT.sIx xs.length xs.length hi = xs.length) ∧ Q (.ref a) H
theorem sl_tupW : SlR X (rSlW X.K) := by
  intro pins s σ H x v vl vu lo hi sl Q I rx hs pl pu h
  obtain ⟨a, xs, rfl, hx, hw, q⟩ := h
  cases rx
  obtain ⟨its, r, ht, hz⟩ := I.tuple hx
  have hlen : its.toArray.size = xs.length := by rw [List.size_toArray]; exact r.length.symm
  refine ⟨"tuple", _, PyProof.Rows.slot_tuple_getitem.lookup, ht.typeIs, ?_⟩
  exact getItem_tuple_whole ht hs pl pu (by rw [hlen]; exact hw) ⟨.ref a, H, I, rfl, q⟩
def rSlA (K : PySem.W.Frag) : V → Option Int → Option Int → Hp → VK → Prop := fun x lo hi H Q => rSlL K x lo hi H Q ∨ rSlT K x lo hi H Q ∨ rSlW K x lo hi H Q ∨ rSlS x lo hi H Q
theorem sl_any (hK : X.K = K) : SlR X (rSlA K) := hK ▸ sl_list.or (sl_tup.or (sl_tupW.or sl_str))
def cutD (xs : List D) (lo hi : Option Int) : List D := (xs.drop (HT.sIx xs.length 0 lo)).take (HT.sIx xs.length xs.length hi - HT.sIx xs.length 0 lo)
theorem RpA.cut {vs : List V} {ds : List D} (r : RpA G K H μ vs ds) (lo hi : Option Int) : RpA G K H μ (cutV vs lo hi) (cutD ds lo hi) := by
  unfold cutV cutD
  rw [r.length]
  exact (r.drop _).take _
abbrev MO := Loc → Sto → R (Option Int)
structure JO (X : Cx) (G : Gm) (W : WX) (e : Option Expr) (t : TO) (m : MO) : Prop where
  pe : Takes X W → PO X e t
  sim : ∀ (σ : L2.St) (H : Hp) (μ : Mu) (l : Loc) (s : Sto), RL G G.K H μ σ l → RS G G.K H μ s → okP G G.K (t σ H) (fun c d H' => W c d σ H') H μ (fun _ _ b a => b = a) (m l s)
def mNoPart : MO := fun _ s => .ok none s
def mPart (m : ME) : MO := fun l s => (m l s).bind fun d s1 => match d with
  | .int i => .ok (some i) s1
  | _ => .stuck
theorem jo_none : JO X G W none tNoPart mNoPart := ⟨fun tk => po_none, fun σ H μ l s hl hs Q q => q none H μ Grow.refl hs rfl⟩
theorem jo_some {e : Expr} {t : TE} {m : ME} (h : JE X G W e t m) : JO X G W (some e) (tPart t) (mPart m) := by
  refine ⟨fun tk => po_some (h.pe tk), fun σ H μ l s hl hs => (h.sim σ H μ l s hl hs).bind fun x H1 μ1 d s1 g1 r1 p1 => ?_⟩
  cases p1 with
  | int i => exact fun Q q => ⟨i, rfl, q _ H1 μ1 Grow.refl r1 rfl⟩
  | _ => trivial
def slD (d : D) (lo hi : Option Int) (s : Sto) : R D := match d with
  | .str x => if x.length ≤ 100000 then .ok (.str (cutS x lo hi)) s else .stuck
  | .tup xs => .ok (.tup (cutD xs lo hi)) s
  | d => match rdL s d with
    | some xs => .ok (.lst (cutD xs lo hi)) s
    | none => .stuck
/-- the new list tracked -/
def slN (d : D) (lo hi : Option Int) (s : Sto) : R D := match rdL s d with
    | some xs => .ok (.ref s.length) (s ++ [.lst (cutD xs lo hi)])
    | none => .stuck
def mSl (f : D → Option Int → Option Int → Sto → R D) (m : ME) (ml mh : MO) : ME := fun l s => (m l s).bind fun d s1 => (ml l s1).bind fun lo s2 => (mh l s2).bind fun hi s3 => f d lo hi s3
theorem cutD_whole {xs : List D} {lo hi : Option Int} (h : HT.sIx xs.length 0 lo = 0 ∧ HT.sIx xs.length xs.length hi = xs.length) : cutD xs lo hi = xs := by
  unfold cutD
  rw [h.1, h.2, List.drop_zero, Nat.sub_zero, List.take_length]
theorem je_slF {f : D → Option Int → Option Int → Sto → R D} {e : Expr} {lo hi : Option Expr} {t : TE} {tl th : TO} {m : ME} {ml mh : MO} {p2 pos : Pos}
    (hf : ∀ (H : Hp) (μ : Mu) (s : Sto) (v : V) (d : D) (lo hi : Option Int) (W : Value → Option Addr → Hp → Prop), RS G G.K H μ s → Rp G G.K H μ v d → okP G G.K (rSlA G.K v lo hi H) W H μ (Rp G G.K) (f d lo hi s))
    (h : JE X G W e t m) (hl : JO X G W lo tl ml) (hh : JO X G W hi th mh) (hK : X.K = G.K) : JE X G W (.Subscript e (.Slice lo hi none p2) pos) (tSl (rSlA G.K) t tl th) (mSl f m ml mh) := by
  refine ⟨fun tk => pe_slice (sl_any hK) (h.pe tk) (hl.pe tk) (hh.pe tk), fun σ H μ l s hl0 hs => (h.sim σ H μ l s hl0 hs).bind fun x H1 μ1 d s1 g1 r1 p1 => ?_⟩
  refine (hl.sim σ H1 μ1 l s1 (hl0.mono g1) r1).bind fun lo H2 μ2 lo' s2 g2 r2 p2 => ?_
  subst p2
  refine (hh.sim σ H2 μ2 l s2 ((hl0.mono g1).mono g2) r2).bind fun hi H3 μ3 hi' s3 g3 r3 p3 => ?_
  subst p3
  exact hf H3 μ3 s3 x d lo hi _ r3 ((p1.mono g2).mono g3)
theorem s_sl (H : Hp) (μ : Mu) (s : Sto) (v : V) (d : D) (lo hi : Option Int) (W : Value → Option Addr → Hp → Prop) (r : RS G K H μ s) (p : Rp G K H μ v d) : okP G K (rSlA K v lo hi H) W H μ (Rp G K) (slD d lo hi s) := by
  have key : okP G K (rSlA K v lo hi H) W H μ (Rp G K) (match rdL s d with
    | some xs => .ok (.lst (cutD xs lo hi)) s
    | none => .stuck) := by
    cases e : rdL s d with
    | none => trivial
    | some xs =>
      obtain ⟨a, vs, rfl, h1, p1⟩ := rdL_ok r p e
      exact fun Q q => .inl ⟨a, vs, rfl, SqL.of h1, newLG r (p1.cut lo hi) q⟩
  unfold slD
  cases d with
  | str x =>
    cases p
    dsimp only
    split
    · rename_i hz
      exact now r (.str _) fun Q q => .inr (.inr (.inr ⟨x, rfl, le_line hz, q⟩))
    · trivial
  | tup xs =>
    obtain ⟨a, vs, rfl, h1, p1⟩ := SqT_of p
    dsimp only
    by_cases hw : HT.sIx vs.length 0 lo = 0 ∧ HT.sIx vs.length vs.length hi = vs.length
    · rw [cutD_whole (by rw [← p1.length]; exact hw)]
      exact now r p fun Q q => .inr (.inr (.inl ⟨a, vs, rfl, h1, hw, q⟩))
    · exact fun Q q => .inr (.inl ⟨a, vs, rfl, h1, hw, newTG r (p1.cut lo hi) q⟩)
  | _ => exact key
theorem s_slN (H : Hp) (μ : Mu) (s : Sto) (v : V) (d : D) (lo hi : Option Int) (W : Value → Option Addr → Hp → Prop) (r : RS G K H μ s) (p : Rp G K H μ v d) : okP G K (rSlA K v lo hi H) W H μ (Rp G K) (slN d lo hi s) := by
  unfold slN
  cases e : rdL s d with
  | none => trivial
  | some xs =>
    obtain ⟨a, vs, rfl, h1, p1⟩ := rdL_ok r p e
    exact fun Q q => .inl ⟨a, vs, rfl, SqL.of h1, newRG r (p1.cut lo hi) q⟩
theorem je_sl {e : Expr} {lo hi : Option Expr} {t : TE} {tl th : TO} {m : ME} {ml mh : MO} {p2 pos : Pos} (h : JE X G W e t m) (hl : JO X G W lo tl ml) (hh : JO X G W hi th mh) (hK : X.K = G.K := by rfl) : JE X G W (.Subscript e (.Slice lo hi none p2) pos) (tSl (rSlA G.K) t tl th) (mSl slD m ml mh) := je_slF s_sl h hl hh hK
theorem je_slN {e : Expr} {lo hi : Option Expr} {t : TE} {tl th : TO} {m : ME} {ml mh : MO} {p2 pos : Pos} (h : JE X G W e t m) (hl : JO X G W lo tl ml) (hh : JO X G W hi th mh) (hK : X.K = G.K := by rfl) : JE X G W (.Subscript e (.Slice lo hi none p2) pos) (tSl (rSlA G.K) t tl th) (mSl slN m ml mh) := je_slF s_slN h hl hh hK

/-! ### built-in functions -/
def SimC (G : Gm) (K : PySem.W.Frag) (r : List V → Hp → VK → Prop) (f : List D → Sto → R D) : Prop :=
  ∀ (H : Hp) (μ : Mu) (s : Sto) (vs : List V) (ds : List D) (W : Value → Option Addr → Hp → Prop), RS G K H μ s → RpA G K H μ vs ds → okP G K (r vs H) W H μ (Rp G K) (f ds s)
def mCB (f : List D → Sto → R D) (m : MA) : ME := fun l s => (m l s).bind f
theorem sim_cb {r : List V → Hp → VK → Prop} {f : List D → Sto → R D} {es : List Expr} {t : TA} {m : MA} (hs : SimC G G.K r f) (ha : JA X G W es t m) :
    ∀ (σ : L2.St) (H : Hp) (μ : Mu) (l : Loc) (s : Sto), RL G G.K H μ σ l → RS G G.K H μ s → okP G G.K (tCB r t σ H) (fun c d H' => W c d σ H') H μ (Rp G G.K) (mCB f m l s) :=
  fun σ H μ l s hl hs0 => (ha.sim σ H μ l s hl hs0).bind fun xs H1 μ1 ds s1 g1 r1 p1 => hs H1 μ1 s1 xs ds _ r1 p1
section
variable {x : Str} {p pos : Pos} {e : Expr} {es : List Expr} {t : TA} {m : MA} {id T : String} {r : List V → Hp → VK → Prop} {f : List D → Sto → R D}
theorem je_cb (hc : CallR X (.builtin id) r) (hs : SimC G G.K r f) (hm : X.mg x = none) (ha : JA X G W (e :: es) t m) (hg : Gl X x := by rfl) (hv : bootBuiltins x = some (.builtin id) := by decide +kernel) (hn : x ≠ "__name__" := by decide) (hdb : (x == ("__debug__" : Str)) = false := by decide)
    (he : starEach (e :: es) X.env = (false, eval e X.env) :: starEach es X.env := by rfl) (hpl : (backTo pos (starEach es X.env)).any (·.1) = false := by rfl) : JE X G W (.Call (.Name x p) (e :: es) [] pos) (tCB r t) (mCB f m) :=
  ⟨fun tk => pe_callB hc hg hm hv (ha.pe tk) hn hdb he hpl, sim_cb hs ha⟩
theorem je_ct (hc : CallR X (.type T) r) (hs : SimC G G.K r f) (hm : X.mg x = none) (ha : JA X G W (e :: es) t m) (hg : Gl X x := by rfl) (hv : bootBuiltins x = some (.type T) := by decide +kernel) (hn : x ≠ "__name__" := by decide) (hdb : (x == ("__debug__" : Str)) = false := by decide)
    (he : starEach (e :: es) X.env = (false, eval e X.env) :: starEach es X.env := by rfl) (hpl : (backTo pos (starEach es X.env)).any (·.1) = false := by rfl) : JE X G W (.Call (.Name x p) (e :: es) [] pos) (tCB r t) (mCB f m) :=
  ⟨fun tk => pe_callTy hc hg hm hv (ha.pe tk) hn hdb he hpl, sim_cb hs ha⟩
end

theorem CallR.or {f : Value} {r r' : List V → Hp → VK → Prop} (h : CallR X f r) (h' : CallR X f r') : CallR X f (fun xs H Q => r xs H Q ∨ r' xs H Q) := by
  intro pins s σ H xs us Q I rx q
  rcases q with q | q
  · exact h pins s σ H xs us Q I rx q
  · exact h' pins s σ H xs us Q I rx q

def absF : List D → Sto → R D
  | [.int i], s => .ok (.int (if i < 0 then -i else i)) s
  | _, _ => .stuck
theorem sc_abs : SimC G K (fun xs H Q => ∃ i, xs = [.int i] ∧ Q (.int (if i < 0 then -i else i)) H) absF := by
  intro H μ s vs ds W r p
  unfold absF
  split
  · cases p with | cons a b => cases a; cases b; exact now r (.int _) fun Q q => ⟨_, rfl, q⟩
  · trivial
def intF : List D → Sto → R D
  | [.int i], s => .ok (.int i) s
  | [.bl b], s => .ok (.int (if b then 1 else 0)) s
  | _, _ => .stuck
theorem sc_int : SimC G K (fun xs H Q => (∃ i, xs = [.int i] ∧ Q (.int i) H) ∨ ∃ k, xs = [.bl k] ∧ Q (.int (if k then 1 else 0)) H) intF := by
  intro H μ s vs ds W r p
  unfold intF
  split
  · cases p with | cons a b => cases a; cases b; exact now r (.int _) fun Q q => .inl ⟨_, rfl, q⟩
  · cases p with | cons a b => cases a; cases b; exact now r (.int _) fun Q q => .inr ⟨_, rfl, q⟩
  · trivial
def max2F : List D → Sto → R D
  | [.int i, .int j], s => .ok (.int (if j > i then j else i)) s
  | _, _ => .stuck
theorem sc_max2 : SimC G K (fun xs H Q => ∃ i j, xs = [.int i, .int j] ∧ Q (.int (if j > i then j else i)) H) max2F := by
  intro H μ s vs ds W r p
  unfold max2F
  split
  · cases p with | cons a b => cases a; cases b with | cons a b => cases a; cases b; exact now r (.int _) fun Q q => ⟨_, _, rfl, q⟩
  · trivial
def min2F : List D → Sto → R D
  | [.int i, .int j], s => .ok (.int (if j < i then j else i)) s
  | _, _ => .stuck
theorem sc_min2 : SimC G K (fun xs H Q => ∃ i j, xs = [.int i, .int j] ∧ Q (.int (if j < i then j else i)) H) min2F := by
  intro H μ s vs ds W r p
  unfold min2F
  split
  · cases p with | cons a b => cases a; cases b with | cons a b => cases a; cases b; exact now r (.int _) fun Q q => ⟨_, _, rfl, q⟩
  · trivial
theorem RpA.one {vs : List V} {d : D} (p : RpA G K H μ vs [d]) : ∃ v, vs = [v] ∧ Rp G K H μ v d := by
  cases p with | cons a b => cases b; exact ⟨_, rfl, a⟩
theorem RpA.two {vs : List V} {d e : D} (p : RpA G K H μ vs [d, e]) : ∃ v u, vs = [v, u] ∧ Rp G K H μ v d ∧ Rp G K H μ u e := by
  cases p with | cons a b => cases b with | cons c b => cases b; exact ⟨_, _, rfl, a, c⟩
def lenF : List D → Sto → R D
  | [.str x], s => if x.length ≤ 100000 then .ok (.int x.length) s else .stuck
  | [d], s => match rdS s d with
    | some xs => .ok (.int xs.length) s
    | none => .stuck
  | _, _ => .stuck
def rLenA (K : PySem.W.Frag) : List V → Hp → VK → Prop := fun xs H Q => (∃ z, xs = [.str z] ∧ z.length ≤ sizeLine ∧ Q (.int z.length) H) ∨ (∃ p ys, xs = [.ref p] ∧ (SqL K H p ys ∨ SqT K H p ys) ∧ Q (.int ys.length) H)
theorem call_lenA (hK : X.K = K) : CallR X (.builtin "len") (rLenA K) := hK ▸ DL.CallR.or call_len_str call_len_seq
def rTupleA (K : PySem.W.Frag) : List V → Hp → VK → Prop := fun xs H Q => ∃ p ys, xs = [.ref p] ∧ ((SqL K H p ys ∧ ∀ l, H l = none → Q (.ref l) (upd H l (.tup ys))) ∨ (SqT K H p ys ∧ Q (.ref p) H))
def rListA (K : PySem.W.Frag) : List V → Hp → VK → Prop := fun xs H Q => ∃ p ys, xs = [.ref p] ∧ (SqL K H p ys ∨ SqT K H p ys) ∧ ∀ l, H l = none → Q (.ref l) (upd H l (.lst ys))
theorem call_tupleK (hK : X.K = K) : CallR X (.type "tuple") (rTupleA K) := hK ▸ call_tuple_of
theorem call_listK (hK : X.K = K) : CallR X (.type "list") (rListA K) := hK ▸ call_list_of
theorem cr_allK (hK : X.K = K) (hc : X.calm = true) : CallR X (.builtin "all") (rAll K) := hK ▸ cr_all hc
theorem cr_anyK (hK : X.K = K) (hc : X.calm = true) : CallR X (.builtin "any") (rAny K) := hK ▸ cr_any hc
theorem cr_sumK (hK : X.K = K) (hc : X.calm = true) : CallR X (.builtin "sum") (rSum K) := hK ▸ cr_sum hc
theorem call_isiK2 (hK : X.K = K) : CallR X (.builtin "isinstance") (rIsi K) := hK ▸ call_isi
theorem sc_len : SimC G K (rLenA K) lenF := by
  intro H μ s vs ds W r p
  unfold lenF
  split
  · obtain ⟨v, rfl, p0⟩ := p.one
    cases p0
    split
    · rename_i hz
      exact now r (.int _) fun Q q => .inl ⟨_, rfl, le_line hz, q⟩
    · trivial
  · rename_i d hd
    obtain ⟨v, rfl, p0⟩ := p.one
    cases e : rdS _ d with
    | none => trivial
    | some xs =>
      obtain ⟨a, vs, rfl, h1, p1⟩ := rdS_ok r p0 e
      exact now r (.int _) fun Q q => .inr ⟨a, vs, rfl, h1, by rw [p1.length]; exact q⟩
  · trivial
def tupleF : List D → Sto → R D
  | [.tup xs], s => .ok (.tup xs) s
  | [d], s => match rdL s d with
    | some xs => .ok (.tup xs) s
    | none => .stuck
  | _, _ => .stuck
theorem sc_tuple : SimC G K (rTupleA K) tupleF := by
  intro H μ s vs ds W r p
  unfold tupleF
  split
  · obtain ⟨v, rfl, p0⟩ := p.one
    obtain ⟨a, vs, rfl, h1, p1⟩ := SqT_of p0
    exact now r p0 fun Q q => ⟨a, vs, rfl, .inr ⟨h1, q⟩⟩
  · rename_i d hd
    obtain ⟨v, rfl, p0⟩ := p.one
    cases e : rdL _ d with
    | none => trivial
    | some xs =>
      obtain ⟨a, vs, rfl, h1, p1⟩ := rdL_ok r p0 e
      exact fun Q q => ⟨a, vs, rfl, .inl ⟨SqL.of h1, newTG r p1 q⟩⟩
  · trivial
def listF : List D → Sto → R D
  | [d], s => match rdS s d with
    | some xs => .ok (.lst xs) s
    | none => .stuck
  | _, _ => .stuck
def listN : List D → Sto → R D
  | [d], s => match rdS s d with
    | some xs => .ok (.ref s.length) (s ++ [.lst xs])
    | none => .stuck
  | _, _ => .stuck
theorem sc_list : SimC G K (rListA K) listF := by
  intro H μ s vs ds W r p
  unfold listF
  split
  · rename_i d
    obtain ⟨v, rfl, p0⟩ := p.one
    cases e : rdS _ d with
    | none => trivial
    | some xs =>
      obtain ⟨a, vs, rfl, h1, p1⟩ := rdS_ok r p0 e
      exact fun Q q => ⟨a, vs, rfl, h1, newLG r p1 q⟩
  · trivial
theorem sc_listN : SimC G K (rListA K) listN := by
  intro H μ s vs ds W r p
  unfold listN
  split
  · rename_i d
    obtain ⟨v, rfl, p0⟩ := p.one
    cases e : rdS _ d with
    | none => trivial
    | some xs =>
      obtain ⟨a, vs, rfl, h1, p1⟩ := rdS_ok r p0 e
      exact fun Q q => ⟨a, vs, rfl, h1, newRG r p1 q⟩
  · trivial
/-- all boolsD, all intsD -/
def boolsD : List D → Option (List Bool)
  | [] => some []
  | .bl b :: r => (boolsD r).map (b :: ·)
  | _ :: _ => none
def intsD : List D → Option (List Int)
  | [] => some []
  | .int b :: r => (intsD r).map (b :: ·)
  | _ :: _ => none
theorem boolsD_rel : ∀ {vs : List V} {ds : List D} {bs : List Bool}, RpA G K H μ vs ds → boolsD ds = some bs → vs = bs.map V.bl
  | _, _, bs, .nil, h => by simp only [boolsD, Option.some.injEq] at h; subst h; rfl
  | _, _, bs, .cons (ds := ds) a r, h => by
    cases a <;> first | (simp [boolsD] at h; done) | skip
    simp only [boolsD, Option.map_eq_some_iff] at h
    obtain ⟨cs, h, rfl⟩ := h
    rw [List.map_cons, ← boolsD_rel r h]
theorem intsD_rel : ∀ {vs : List V} {ds : List D} {bs : List Int}, RpA G K H μ vs ds → intsD ds = some bs → vs = bs.map V.int
  | _, _, bs, .nil, h => by simp only [intsD, Option.some.injEq] at h; subst h; rfl
  | _, _, bs, .cons (ds := ds) a r, h => by
    cases a <;> first | (simp [intsD] at h; done) | skip
    simp only [intsD, Option.map_eq_some_iff] at h
    obtain ⟨cs, h, rfl⟩ := h
    rw [List.map_cons, ← intsD_rel r h]
def allF : List D → Sto → R D
  | [d], s => match (rdL s d).bind boolsD with
    | some bs => .ok (.bl (bs.all id)) s
    | none => .stuck
  | _, _ => .stuck
def anyF : List D → Sto → R D
  | [d], s => match (rdL s d).bind boolsD with
    | some bs => .ok (.bl (bs.any id)) s
    | none => .stuck
  | _, _ => .stuck
theorem sc_all : SimC G K (rAll K) allF := by
  intro H μ s vs ds W r p
  unfold allF
  split
  · rename_i d
    obtain ⟨v, rfl, p0⟩ := p.one
    cases e : (rdL _ d).bind boolsD with
    | none => trivial
    | some bs =>
      obtain ⟨xs, e1, e2⟩ := Option.bind_eq_some_iff.mp e
      obtain ⟨a, vs, rfl, h1, p1⟩ := rdL_ok r p0 e1
      have := boolsD_rel p1 e2
      subst this
      exact now r (.bl _) fun Q q => ⟨a, bs, rfl, SqL.of h1, q⟩
  · trivial
theorem sc_any : SimC G K (rAny K) anyF := by
  intro H μ s vs ds W r p
  unfold anyF
  split
  · rename_i d
    obtain ⟨v, rfl, p0⟩ := p.one
    cases e : (rdL _ d).bind boolsD with
    | none => trivial
    | some bs =>
      obtain ⟨xs, e1, e2⟩ := Option.bind_eq_some_iff.mp e
      obtain ⟨a, vs, rfl, h1, p1⟩ := rdL_ok r p0 e1
      have := boolsD_rel p1 e2
      subst this
      exact now r (.bl _) fun Q q => ⟨a, bs, rfl, SqL.of h1, q⟩
  · trivial
def sumF : List D → Sto → R D
  | [d], s => match (rdL s d).bind intsD with
    | some bs => .ok (.int bs.sum) s
    | none => .stuck
  | _, _ => .stuck
theorem sc_sum : SimC G K (rSum K) sumF := by
  intro H μ s vs ds W r p
  unfold sumF
  split
  · rename_i d
    obtain ⟨v, rfl, p0⟩ := p.one
    cases e : (rdL _ d).bind intsD with
    | none => trivial
    | some bs =>
      obtain ⟨xs, e1, e2⟩ := Option.bind_eq_some_iff.mp e
      obtain ⟨a, vs, rfl, h1, p1⟩ := rdL_ok r p0 e1
      have := intsD_rel p1 e2
      subst this
      exact now r (.int _) fun Q q => ⟨a, bs, rfl, SqL.of h1, q⟩
  · trivial

/-! ### isinstance -/
/-- the type's name of a value -/
def tyD : D → Option String
  | .non => some "NoneType"
  | .bl _ => some "bool"
  | .int _ => some "int"
  | .str _ => some "str"
  | .tup _ => some "tuple"
  | .lst _ => some "list"
  | .scr _ => some "list"
  | _ => none
def isiF (T : String) (d : D) (s : Sto) : R D := match tyD d with
  | some a => .ok (.bl (a == T || (a == "bool" && T == "int"))) s
  | none => .stuck
def mIsi (T : String) (m : ME) : ME := fun l s => (m l s).bind fun d s1 => isiF T d s1
theorem tyx {v : V} {d : D} {a : String} (p : Rp G K H μ v d) (h : tyD d = some a) : TyX K H v (.type a) := by
  cases p <;> simp only [tyD, Option.some.injEq, reduceCtorEq] at h <;> subst h
  · exact .base .non
  · exact .base (.bl _)
  · exact .base (.int _)
  · exact .base (.str _)
  · exact .base (.tup (by assumption))
  · exact .kTuple (by assumption) (by assumption)
  · exact .base (.lst (by assumption))
  · exact .base (.frz (by assumption))
  · exact .kList (by assumption) (by assumption)
/-- isinstance(x, T), T the name of a built-in type -/
theorem je_isi {e : Expr} {te : TE} {me : ME} {T : String} {x : Str} {p p2 pos : Pos} (hT : T = "int" ∨ T = "bool" ∨ T = "str" ∨ T = "tuple" ∨ T = "list") (hm : X.mg "isinstance" = none) (hm2 : X.mg x = none) (h : JE X G W e te me) (hv2 : bootBuiltins x = some (.type T) := by decide +kernel)
    (hg : Gl X "isinstance" := by rfl) (hg2 : Gl X x := by rfl) (hn2 : x ≠ "__name__" := by decide) (hd2 : (x == ("__debug__" : Str)) = false := by decide)
    (he1 : starEach [.Name x p2] X.env = (false, eval (.Name x p2) X.env) :: starEach [] X.env := by rfl) (he : starEach [e, .Name x p2] X.env = (false, eval e X.env) :: starEach [.Name x p2] X.env := by rfl) (hpl : (backTo pos (starEach [.Name x p2] X.env)).any (·.1) = false := by rfl) (hK : X.K = G.K := by rfl) :
    JE X G W (.Call (.Name "isinstance" p) [e, .Name x p2] [] pos) (tCB (rIsi G.K) (tCons te (tCons (tC (.ty T)) tNil))) (mIsi T me) := by
  refine ⟨fun tk => pe_callB (call_isiK2 hK) hg hm (by decide +kernel) (pa_cons (h.pe tk) (pa_cons (pe_bltn hg2 hm2 hv2 (v := .ty T) rfl hn2 hd2) pa_nil he1) he) (by decide) (by decide) he hpl, fun σ H μ l s hl hs => (h.sim σ H μ l s hl hs).bind fun v H1 μ1 d s1 g1 r1 p1 => ?_⟩
  unfold isiF
  cases e1 : tyD d with
  | none => trivial
  | some a =>
    have hk : kitB a T = some (a == T || (a == "bool" && T == "int")) := by
      cases d <;> simp only [tyD, Option.some.injEq, reduceCtorEq] at e1 <;> subst e1 <;> rcases hT with rfl | rfl | rfl | rfl | rfl <;> decide +kernel
    exact now r1 (.bl _) fun Q q => ⟨v, .ty T, .type a, .type T, _, rfl, .ty T, tyx p1 e1, kit_ty hk, q⟩

/-! ### calls of defs -/
/-- the promise: what the mirror says -/
def spD (G : Gm) (K : PySem.W.Frag) (n : Nat) (f : MF) : Sp := fun vs H Q E => vs.length = n ∧ ∃ (μ : Mu) (ds : List D) (s : Sto), RpA G K H μ vs ds ∧ RS G K H μ s ∧
  match f ds s with
  | .ok d s' => ∀ v H' μ', Grow H μ H' μ' → RS G K H' μ' s' → Rp G K H' μ' v d → Q v H'
  | .ex x s' => ∀ C dd H' μ', Grow H μ H' μ' → RS G K H' μ' s' → G.cl x.cls = some C → Fld G K H' μ' x dd → E (.ref C) dd H'
  | .stuck => False
def mCall (n : Nat) (f : MF) (m : MA) : ME := fun l s => (m l s).bind fun ds s1 => if ds.length = n then f ds s1 else .stuck
theorem okP_call {n : Nat} {f : MF} {vs : List V} {ds : List D} {σ : L2.St} (r : RS G K H μ s) (p : RpA G K H μ vs ds) (hn : ds.length = n) : okP G K (fun Q => spD G K n f vs H Q (WE W σ)) (fun c d H' => W c d σ H') H μ (Rp G K) (f ds s) := by
  cases e : f ds s with
  | ok d s' => exact fun Q q => ⟨by rw [p.length]; exact hn, μ, ds, s, p, r, by rw [e]; exact fun v H' μ' g r' p' => q v H' μ' g r' p'⟩
  | ex x s' => exact fun Q q => ⟨by rw [p.length]; exact hn, μ, ds, s, p, r, by rw [e]; exact fun C dd H' μ' g r' hc hf => q C dd H' μ' g r' hc hf⟩
  | stuck => trivial
end
end DL


namespace DL
open PySem PySem.Spec PyProof.Rows L2

/-- a def of the program: what it is worth -/
structure FnD (P : Program) (w : World) (K : PySem.W.Frag) (mg : Str → Option Value) (base : Heap) (G : Gm) (k : Nat) (x : String) (n : Nat) (f : MF) : Prop where
  ex : ∃ (a : Addr) (fd : FuncData) (ps : List Str), FnOk P w K mg base (L2.CX P w) k a fd ps (spD G K n f) ∧ mg x = some (.ref a) ∧ G.fn x = some a ∧ PySem.W.keepIn K (.ref a) = true ∧ Binds K fd ps []
theorem FnD.mono {P : Program} {w : World} {K : PySem.W.Frag} {mg : Str → Option Value} {base : Heap} {G : Gm} {j k : Nat} {x : String} {n : Nat} {f : MF} (F : FnD P w K mg base G j x n f) (h : j ≤ k) : FnD P w K mg base G k x n f := by
  obtain ⟨a, fd, ps, h1, h2⟩ := F.ex
  exact ⟨a, fd, ps, h1.mono h, h2⟩
section
variable {X : Cx} {G : Gm} {K : PySem.W.Frag} {H : Hp} {μ : Mu} {s : Sto} {W : WX} {k : Nat}
theorem je_call {x : String} {n : Nat} {f : MF} {e : Expr} {es : List Expr} {t : TA} {m : MA} {p pos : Pos} (F : FnD X.prog X.w G.K X.mg X.base G k x n f) (hr : Room k X.A) (ha : JA X G W (e :: es) t m) (hg : Gl X (x : Str) := by rfl)
    (hdb : ((x : Str) == ("__debug__" : Str)) = false := by decide) (he : starEach (e :: es) X.env = (false, eval e X.env) :: starEach es X.env := by rfl) (hpl : (backTo pos (starEach es X.env)).any (·.1) = false := by rfl) (hK : X.K = G.K := by rfl) :
    JE X G W (.Call (.Name x p) (e :: es) [] pos) (tCallS (spD G G.K n f) (WE W) t) (mCall n f m) := by
  obtain ⟨a, fd, ps, F1, h1, _, h2, h3⟩ := F.ex
  rw [← hK] at h2 h3
  have F1 : FnOk X.prog X.w X.K X.mg X.base (L2.CX X.prog X.w) k a fd ps (spD G G.K n f) := by rw [hK]; exact F1
  refine ⟨fun tk => pe_callS F1 hr hg h1 h2 h3 (passAt tk) (ha.pe tk) hdb he hpl, fun σ H μ l s hl hs => (ha.sim σ H μ l s hl hs).bind fun xs H1 μ1 ds s1 g1 r1 p1 => ?_⟩
  split
  · rename_i hn
    exact okP_call r1 p1 hn
  · trivial
/-- a def as a value -/
theorem je_fn {x : String} {n : Nat} {f : MF} {pos : Pos} (F : FnD X.prog X.w G.K X.mg X.base G k x n f) (hg : Gl X (x : Str) := by rfl) (hd : ((x : Str) == ("__debug__" : Str)) = false := by decide) : JE X G W (.Name x pos) (tC (.ref (G.fA x))) (mC (.fn x)) := by
  obtain ⟨a, fd, ps, F1, h1, h4, h2, h3⟩ := F.ex
  have e : G.fA x = a := by unfold Gm.fA; rw [h4]; rfl
  rw [e]
  exact ⟨fun tk => pe_glob hg h1 rfl hd, simC fun _ _ => .fn h4⟩
/-- a constant of the program's top -/
structure GlD (K : PySem.W.Frag) (mg : Str → Option Value) (G : Gm) (x : String) (d : D) : Prop where
  ex : ∃ u, mg x = some u ∧ RelV (G.cst x) u ∧ ∀ H μ, Rp G K H μ (G.cst x) d
theorem je_glb {x : String} {d : D} {pos : Pos} (F : GlD G.K X.mg G x d) (hg : Gl X (x : Str) := by rfl) (hd : ((x : Str) == ("__debug__" : Str)) = false := by decide) : JE X G W (.Name x pos) (tC (G.cst x)) (mC d) := by
  obtain ⟨u, h1, h2, h3⟩ := F.ex
  exact ⟨fun tk => pe_glob hg h1 h2 hd, simC h3⟩
/-- a call of a name of the def's own that holds one of some defs -/
def mCallV (i : Nat) (fs : List (String × Nat × MF)) (m : MA) : ME := fun l s => match l[i]? with
  | some (some (.fn x)) => match fs.lookup x with
    | some (n, f) => mCall n f m l s
    | none => .stuck
  | _ => .stuck
def tCallV (i : Nat) (C : Addr → Sp → Prop) (E : L2.St → XK) (t : TA) : TE := fun σ H Q => ∃ a sp, C a sp ∧ σ[i]? = some (some (.ref a)) ∧ t σ H fun vs H1 => sp vs H1 Q (E σ)
theorem pe_callV {C : Addr → Sp → Prop} {E : L2.St → XK} {i : Nat} {x : Str} {e : Expr} {es : List Expr} {t : TA} {p pos : Pos} (hC : ∀ a sp, C a sp → ∃ fd ps, FnOk X.prog X.w X.K X.mg X.base (L2.CX X.prog X.w) k a fd ps sp ∧ PySem.W.keepIn X.K (.ref a) = true ∧ Binds X.K fd ps []) (hr : Room k X.A) (hN : X.N[i]? = some x) (hv : Vis X.env.scope x)
    (hx : ∀ σ, PassesAt (L2.CX X.prog X.w) X σ (E σ)) (ha : PA X (e :: es) t)
    (hdb : (x == ("__debug__" : Str)) = false := by decide) (hcd : (x == ("__classdict__" : Str)) = false := by decide)
    (he : starEach (e :: es) X.env = (false, eval e X.env) :: starEach es X.env := by rfl) (hpl : (backTo pos (starEach es X.env)).any (·.1) = false := by rfl) : PE X (.Call (.Name x p) (e :: es) [] pos) (tCallV i C E t) := by
  refine ⟨fun pins s σ H Q I h => ?_⟩
  obtain ⟨a, sp, hc, hs, ht⟩ := h
  obtain ⟨fd, ps, F, hk, hb⟩ := hC a sp hc
  refine wpAny_Call_Name_kw (thn ((pe_var (pos := p) hN hv hdb hcd).run pins s σ H (fun v H1 => v = .ref a ∧ H1 = H) I ⟨.ref a, hs, rfl, rfl⟩) fun u s1 ⟨v, H1, I1, r1, q1⟩ => ?_)
  obtain ⟨rfl, rfl⟩ := q1
  cases r1
  refine PySem.W.callWith_K (h₀ := X.base) I.ok.mod.kin hk (thn (ha.run pos pins s1 σ _ _ I1 ht) fun us s2 ⟨vs, H2, I2, r, q⟩ => ⟨I2.kIn, ?_⟩) he hpl
  exact run_fnS F hr hb (hx σ) I2 r q
inductive FsOk (P : Program) (w : World) (K : PySem.W.Frag) (mg : Str → Option Value) (base : Heap) (G : Gm) (k : Nat) : List (String × Nat × MF) → Prop
  | nil : FsOk P w K mg base G k []
  | cons {x : String} {n : Nat} {f : MF} {fs : List (String × Nat × MF)} : FnD P w K mg base G k x n f → FsOk P w K mg base G k fs → FsOk P w K mg base G k ((x, n, f) :: fs)
theorem FsOk.get {P : Program} {w : World} {K : PySem.W.Frag} {mg : Str → Option Value} {base : Heap} {G : Gm} {k : Nat} : ∀ {fs : List (String × Nat × MF)} {x : String} {n : Nat} {f : MF}, FsOk P w K mg base G k fs → fs.lookup x = some (n, f) → FnD P w K mg base G k x n f
  | _, _, _, _, .nil, h => by simp at h
  | (y, m, g) :: fs, x, n, f, .cons a r, h => by
    rw [List.lookup_cons] at h
    split at h
    · rename_i e
      have e := eq_of_beq e
      cases h
      subst e
      exact a
    · exact FsOk.get r h
theorem je_callV {i : Nat} {fs : List (String × Nat × MF)} {x : Str} {e : Expr} {es : List Expr} {t : TA} {m : MA} {p pos : Pos} (F : FsOk X.prog X.w G.K X.mg X.base G k fs) (hr : Room k X.A) (ha : JA X G W (e :: es) t m) (hN : X.N[i]? = some x := by rfl) (hv : Vis X.env.scope x := by first | exact Or.inl rfl | exact Or.inr (Or.inl rfl) | exact Or.inr (Or.inr rfl))
    (hdb : (x == ("__debug__" : Str)) = false := by decide) (hcd : (x == ("__classdict__" : Str)) = false := by decide)
    (he : starEach (e :: es) X.env = (false, eval e X.env) :: starEach es X.env := by rfl) (hpl : (backTo pos (starEach es X.env)).any (·.1) = false := by rfl) (hK : X.K = G.K := by rfl) :
    JE X G W (.Call (.Name x p) (e :: es) [] pos) (tCallV i (fun a sp => ∃ y n f, fs.lookup y = some (n, f) ∧ G.fn y = some a ∧ sp = spD G G.K n f) (WE W) t) (mCallV i fs m) := by
  refine ⟨fun tk => pe_callV (fun a sp ⟨y, n, f, h1, h2, h3⟩ => ?_) hr hN hv (passAt tk) (ha.pe tk) hdb hcd he hpl, fun σ H μ l s hl hs => ?_⟩
  · obtain ⟨b, fd, ps, F1, _, h5, h6, h7⟩ := (F.get h1).ex
    rw [h2] at h5
    cases h5
    subst h3
    rw [hK]
    exact ⟨fd, ps, F1, h6, h7⟩
  · unfold mCallV
    cases e1 : l[i]? with
    | none => trivial
    | some o =>
      cases o with
      | none => trivial
      | some d =>
        obtain ⟨v, hv1, hv2⟩ := hl.2 i d e1
        cases hv2 <;> first | trivial | skip
        rename_i y a hy
        dsimp only
        cases e2 : fs.lookup y with
        | none => trivial
        | some nf =>
          obtain ⟨n, f⟩ := nf
          dsimp only
          have z : okP G G.K (fun Q => t σ H fun vs H1 => spD G G.K n f vs H1 Q (WE W σ)) (fun c d H' => W c d σ H') H μ (Rp G G.K) (mCall n f m l s) := by
            refine (ha.sim σ H μ l s hl hs).bind fun xs H1 μ1 ds s1 g1 r1 p1 => ?_
            split
            · rename_i hn
              exact okP_call r1 p1 hn
            · trivial
          cases e3 : mCall n f m l s with
          | ok d s' => rw [e3] at z; exact fun Q q => ⟨a, _, ⟨y, n, f, e2, hy, rfl⟩, hv1, z Q q⟩
          | ex x s' => rw [e3] at z; exact fun Q q => ⟨a, _, ⟨y, n, f, e2, hy, rfl⟩, hv1, z Q q⟩
          | stuck => trivial

/-! ### what a loop walks -/
def RI (G : Gm) (K : PySem.W.Frag) (H : Hp) (μ : Mu) (J : It) (ds : List D) : Prop := ∀ H' μ', Mono H μ H' μ' → ∀ s, RS G K H' μ' s → ∀ i : Nat,
  (∀ d, ds[i]? = some d → J.go i H' ∧ ∀ x H'', J.yld i H' x H'' → Grow H' μ' H'' μ' ∧ RS G K H'' μ' s ∧ Rp G K H'' μ' x d) ∧ (ds.length ≤ i → J.stop i H')
abbrev MI := Loc → Sto → R (List D)
structure JI (X : Cx) (G : Gm) (W : WX) (tg it : Expr) (t : TI) (m : MI) : Prop where
  pe : Takes X W → PI X tg it t
  sim : ∀ (σ : L2.St) (H : Hp) (μ : Mu) (l : Loc) (s : Sto), RL G G.K H μ σ l → RS G G.K H μ s → okP G G.K (t σ H) (fun c d H' => W c d σ H') H μ (RI G G.K) (m l s)
theorem PI.or {tg it : Expr} {t t' : TI} (h : PI X tg it t) (h' : PI X tg it t') : PI X tg it (fun σ H R => t σ H R ∨ t' σ H R) := by
  refine ⟨fun pins s σ H R I q => ?_⟩
  rcases q with q | q
  · exact h.run pins s σ H R I q
  · exact h'.run pins s σ H R I q
theorem fresh_step {H : Hp} {μ : Mu} {s : Sto} (r : RS G K H μ s) {T : Addr} {vs : List V} {ds : List D} (hT : H T = none) (p : RpA G K H μ vs ds) : Grow H μ (upd H T (.tup vs)) μ ∧ RS G K (upd H T (.tup vs)) μ s ∧ Rp G K (upd H T (.tup vs)) μ (.ref T) (.tup ds) :=
  ⟨r.galloc hT, r.alloc hT, .tup upd_same (r.notin hT) (p.mono (r.galloc hT))⟩
/-- a list or tuple that stands -/
def stands : D → Option (List D)
  | .lst xs => some xs
  | .tup xs => some xs
  | .scr xs => some (xs.map D.int)
  | _ => none
def mIter (m : ME) : MI := fun l s => (m l s).bind fun d s1 => match stands d with
  | some xs => .ok xs s1
  | none => .stuck
theorem standsL {v : V} {d : D} {ds : List D} (p : Rp G K H μ v d) (hn : ∀ ys, d ≠ .tup ys) (h : stands d = some ds) : ∃ a vs, v = .ref a ∧ (∀ H' μ', Mono H μ H' μ' → SqL K H' a vs) ∧ RpA G K H μ vs ds := by
  cases p with
  | lst h1 h2 h3 =>
    simp only [stands, Option.some.injEq] at h
    subst h
    exact ⟨_, _, rfl, fun H' μ' g => SqL.of (g.keep _ _ h1 h2), h3⟩
  | tup _ _ _ => exact absurd rfl (hn _)
  | tupK _ _ _ _ _ _ => exact absurd rfl (hn _)
  | @scr a o xs h1 h2 =>
    simp only [stands, Option.some.injEq] at h
    subst h
    exact ⟨_, _, rfl, fun H' μ' g => .inl (.inr ⟨o, g.keep _ _ h1 h2⟩), RpA.ints xs⟩
  | @scrK a o its n xs h1 h2 h3 h4 h5 h6 =>
    simp only [stands, Option.some.injEq] at h
    subst h
    exact ⟨_, _, rfl, fun H' μ' g => .inr ⟨o, its, n, h1, h2, h3, h4, h5, h6⟩, RpA.ints xs⟩
  | _ => simp [stands] at h
theorem standsT {v : V} {ds : List D} (p : Rp G K H μ v (.tup ds)) : ∃ a vs, v = .ref a ∧ (∀ H' μ', Mono H μ H' μ' → SqT K H' a vs) ∧ RpA G K H μ vs ds := by
  cases p with
  | tup h1 h2 h3 => exact ⟨_, _, rfl, fun H' μ' g => SqT.of (g.keep _ _ h1 h2), h3⟩
  | tupK h1 h2 h3 h4 h5 h6 => exact ⟨_, _, rfl, fun H' μ' g => .inr ⟨_, _, _, h1, h2, h3, h4, h5⟩, h6⟩
theorem Mono.refl : Mono H μ H μ := ⟨fun _ _ h _ => h, fun _ _ _ h => h, fun _ _ h => h⟩
theorem RI.list {a : Addr} {vs : List V} {ds : List D} (h : ∀ H' μ', Mono H μ H' μ' → SqL K H' a vs) (p : RpA G K H μ vs ds) : RI G K H μ (Itl K a) ds := by
  intro H' μ' g s r i
  refine ⟨fun d e => ?_, fun hi => ⟨vs, h H' μ' g, by rw [p.length]; exact hi⟩⟩
  obtain ⟨v, h1, h2⟩ := p.get e
  refine ⟨⟨vs, v, h H' μ' g, h1⟩, fun x H'' hy => ?_⟩
  obtain ⟨rfl, hy⟩ := hy
  have := hy vs (h _ μ' g)
  rw [h1] at this
  cases this
  exact ⟨Grow.refl, r, h2.mon g⟩
theorem RI.tuple {a : Addr} {vs : List V} {ds : List D} (h : ∀ H' μ', Mono H μ H' μ' → SqT K H' a vs) (p : RpA G K H μ vs ds) : RI G K H μ (Itt K a) ds := by
  intro H' μ' g s r i
  refine ⟨fun d e => ?_, fun hi => ⟨vs, h H' μ' g, by rw [p.length]; exact hi⟩⟩
  obtain ⟨v, h1, h2⟩ := p.get e
  refine ⟨⟨vs, v, h H' μ' g, h1⟩, fun x H'' hy => ?_⟩
  obtain ⟨rfl, hy⟩ := hy
  have := hy vs (h _ μ' g)
  rw [h1] at this
  cases this
  exact ⟨Grow.refl, r, h2.mon g⟩
def rangeD (lo : Int) (n : Nat) : List D := (List.range n).map fun (i : Nat) => .int (lo + (i : Int))
theorem RI.range {lo : Int} {n : Nat} : RI G K H μ (Itr lo n) (rangeD lo n) := by
  intro H' μ' g s r i
  refine ⟨fun d e => ?_, fun hi => by show n ≤ i; simpa [rangeD] using hi⟩
  have hi : i < n := by
    have := (List.getElem?_eq_some_iff.mp e).1
    simpa [rangeD] using this
  have hd : d = .int (lo + (i : Int)) := by
    unfold rangeD at e
    rw [List.getElem?_map, List.getElem?_range hi] at e
    exact (Option.some.inj e).symm
  subst hd
  refine ⟨hi, fun x H'' hy => ?_⟩
  obtain ⟨rfl, rfl⟩ := hy
  exact ⟨Grow.refl, r, .int _⟩
theorem ji_any {tg e : Expr} {t : TE} {m : ME} (h : JE X G W e t m) (hK : X.K = G.K := by rfl) : JI X G W tg e (fun σ H R => iList G.K t σ H R ∨ iTup G.K t σ H R) (mIter m) := by
  refine ⟨fun tk => hK ▸ PI.or (pi_list (h.pe tk)) (pi_tup (h.pe tk)), fun σ H μ l s hl hs => ?_⟩
  have z := h.sim σ H μ l s hl hs
  unfold mIter
  cases e1 : m l s with
  | stuck => trivial
  | ex x s1 =>
    rw [e1] at z
    exact fun Q q => .inl (z _ fun C d H' μ' g => q C d H' μ' g)
  | ok d s1 =>
    rw [e1] at z
    show okP G G.K _ _ H μ _ (match stands d with
      | some xs => .ok xs s1
      | none => .stuck)
    cases e2 : stands d with
    | none => trivial
    | some xs =>
      intro Q q
      by_cases hk : (∃ ys, d = .tup ys)
      · obtain ⟨ys, rfl⟩ := hk
        simp only [stands, Option.some.injEq] at e2
        subst e2
        refine .inr (z _ fun v H' μ' g r p => ?_)
        obtain ⟨a, vs, rfl, h1, p1⟩ := standsT p
        exact ⟨a, rfl, ⟨vs, h1 H' μ' Mono.refl⟩, q _ H' μ' g r (RI.tuple h1 p1)⟩
      · refine .inl (z _ fun v H' μ' g r p => ?_)
        obtain ⟨a, vs, rfl, h1, p1⟩ := standsL p (fun ys e => hk ⟨ys, e⟩) e2
        exact ⟨a, rfl, ⟨vs, h1 H' μ' Mono.refl⟩, q _ H' μ' g r (RI.list h1 p1)⟩
/-- small enough for a range; not to be reckoned out -/
noncomputable def intB (i : Int) : Bool := @decide (-(2 ^ 62) ≤ i ∧ i < 2 ^ 62) (Classical.propDecidable _)
noncomputable def mRng1 (m : MA) : MI := fun l s => (m l s).bind fun ds s1 => match ds with
  | [.int j] => if intB j = true then .ok (rangeD 0 j.toNat) s1 else .stuck
  | _ => .stuck
noncomputable def mRng2 (m : MA) : MI := fun l s => (m l s).bind fun ds s1 => match ds with
  | [.int i, .int j] => if intB i = true ∧ intB j = true then .ok (rangeD i (j - i).toNat) s1 else .stuck
  | _ => .stuck
theorem intB_of {i : Int} (h : intB i = true) : -(2 ^ 62) ≤ i ∧ i < 2 ^ 62 := by
  unfold intB at h
  simpa using h
theorem ji_rng1 {tg a : Expr} {t : TA} {m : MA} {p pos : Pos} (hm : X.mg "range" = none) (h : JA X G W [a] t m) (hg : Gl X "range" := by rfl) (hs : starEach [a] X.env = [(false, eval a X.env)] := by rfl) : JI X G W tg (.Call (.Name "range" p) [a] [] pos) (iRng1 t) (mRng1 m) := by
  refine ⟨fun tk => pi_range1 hg hm (h.pe tk) hs, fun σ H μ l s hl hs => (h.sim σ H μ l s hl hs).bind fun xs H1 μ1 ds s1 g1 r1 p1 => ?_⟩
  split
  · split
    · rename_i j hj
      obtain ⟨v, rfl, p0⟩ := p1.one
      cases p0
      have := intB_of hj
      exact fun Q q => ⟨_, rfl, this.1, this.2, q _ H1 μ1 Grow.refl r1 RI.range⟩
    · trivial
  · trivial
theorem ji_rng2 {tg a b : Expr} {t : TA} {m : MA} {p pos : Pos} (hm : X.mg "range" = none) (h : JA X G W [a, b] t m) (hg : Gl X "range" := by rfl) (hs : starEach [a, b] X.env = [(false, eval a X.env), (false, eval b X.env)] := by rfl) (hs2 : starEach [b] X.env = [(false, eval b X.env)] := by rfl) : JI X G W tg (.Call (.Name "range" p) [a, b] [] pos) (iRng2 t) (mRng2 m) := by
  refine ⟨fun tk => pi_range2 hg hm (h.pe tk) hs hs2, fun σ H μ l s hl hs => (h.sim σ H μ l s hl hs).bind fun xs H1 μ1 ds s1 g1 r1 p1 => ?_⟩
  split
  · split
    · rename_i j hj
      obtain ⟨v, u, rfl, p0, p2⟩ := p1.two
      cases p0
      cases p2
      have h1 := intB_of hj.1
      have h2 := intB_of hj.2
      exact fun Q q => ⟨_, _, rfl, ⟨h1.1, h1.2, h2.1, h2.2⟩, q _ H1 μ1 Grow.refl r1 RI.range⟩
    · trivial
  · trivial
/-- pairs -/
def zipD : List D → List D → List D
  | x :: xs, y :: ys => .tup [x, y] :: zipD xs ys
  | _, _ => []
theorem zipD_get : ∀ {xs ys : List D} {i : Nat} {d : D}, (zipD xs ys)[i]? = some d → ∃ x y, xs[i]? = some x ∧ ys[i]? = some y ∧ d = .tup [x, y]
  | [], _, i, d, h => by simp [zipD] at h
  | _ :: _, [], i, d, h => by simp [zipD] at h
  | x :: xs, y :: ys, 0, d, h => by
    simp [zipD] at h
    exact ⟨x, y, by simp, by simp, h.symm⟩
  | x :: xs, y :: ys, i + 1, d, h => by
    simp only [zipD, List.getElem?_cons_succ] at h ⊢
    exact zipD_get h
theorem zipD_len : ∀ {xs ys : List D} {i : Nat}, (zipD xs ys).length ≤ i → xs.length ≤ i ∨ ys.length ≤ i
  | [], _, i, _ => .inl (Nat.zero_le _)
  | _ :: _, [], i, _ => .inr (Nat.zero_le _)
  | x :: xs, y :: ys, 0, h => by simp [zipD] at h
  | x :: xs, y :: ys, i + 1, h => by
    simp only [zipD, List.length_cons, Nat.add_le_add_iff_right] at h ⊢
    exact zipD_len h
theorem RI.zipL {a b : Addr} {vs us : List V} {ds es : List D} (h : ∀ H' μ', Mono H μ H' μ' → SqL K H' a vs) (p : RpA G K H μ vs ds) (h' : ∀ H' μ', Mono H μ H' μ' → SqL K H' b us) (p' : RpA G K H μ us es) : RI G K H μ (Itz K a b) (zipD ds es) := by
  intro H' μ' g s r i
  refine ⟨fun d e => ?_, fun hi => ⟨vs, us, h H' μ' g, h' H' μ' g, by rw [p.length, p'.length]; exact zipD_len hi⟩⟩
  obtain ⟨x, y, e1, e2, rfl⟩ := zipD_get e
  obtain ⟨v, h1, h2⟩ := p.get e1
  obtain ⟨u, h3, h4⟩ := p'.get e2
  refine ⟨⟨vs, us, v, u, h H' μ' g, h' H' μ' g, h1, h3⟩, fun z H'' hy => ?_⟩
  obtain ⟨T, a1, b1, rfl, hT, rfl, k1, k2⟩ := hy
  have q1 := k1 vs (h _ μ' g)
  have q2 := k2 us (h' _ μ' g)
  rw [h1] at q1
  rw [h3] at q2
  cases q1
  cases q2
  exact fresh_step r hT (.cons (h2.mon g) (.cons (h4.mon g) .nil))
theorem RI.zipT {a b : Addr} {vs us : List V} {ds es : List D} (h : ∀ H' μ', Mono H μ H' μ' → SqT K H' a vs) (p : RpA G K H μ vs ds) (h' : ∀ H' μ', Mono H μ H' μ' → SqT K H' b us) (p' : RpA G K H μ us es) : RI G K H μ (RZ.ItzT K a b) (zipD ds es) := by
  intro H' μ' g s r i
  refine ⟨fun d e => ?_, fun hi => ⟨vs, us, h H' μ' g, h' H' μ' g, by rw [p.length, p'.length]; exact zipD_len hi⟩⟩
  obtain ⟨x, y, e1, e2, rfl⟩ := zipD_get e
  obtain ⟨v, h1, h2⟩ := p.get e1
  obtain ⟨u, h3, h4⟩ := p'.get e2
  refine ⟨⟨vs, us, v, u, h H' μ' g, h' H' μ' g, h1, h3⟩, fun z H'' hy => ?_⟩
  obtain ⟨T, a1, b1, rfl, hT, rfl, k1, k2⟩ := hy
  have q1 := k1 vs (h _ μ' g)
  have q2 := k2 us (h' _ μ' g)
  rw [h1] at q1
  rw [h3] at q2
  cases q1
  cases q2
  exact fresh_step r hT (.cons (h2.mon g) (.cons (h4.mon g) .nil))
def mZip (m : MA) : MI := fun l s => (m l s).bind fun ds s1 => match ds with
  | [.tup xs, .tup ys] => .ok (zipD xs ys) s1
  | [.lst xs, .lst ys] => .ok (zipD xs ys) s1
  | _ => .stuck
theorem ji_zip {elts : List Expr} {kk : Nat} {tpos : Pos} {a b : Expr} {t : TA} {m : MA} {p pos : Pos} (hm : X.mg "zip" = none) (h : JA X G W [a, b] t m) (hg : Gl X "zip" := by rfl)
    (hs : starEach [a, b] X.env = (false, eval a X.env) :: starEach [b] X.env := by rfl) (hpl : (backTo pos (starEach [b] X.env)).any (·.1) = false := by rfl) (hK : X.K = G.K := by rfl) : JI X G W (.Tuple elts kk tpos) (.Call (.Name "zip" p) [a, b] [] pos) (RZ.iZipA G.K t) (mZip m) := by
  refine ⟨fun tk => hK ▸ RZ.pi_zipA hg hm (h.pe tk) hs hpl, fun σ H μ l s hl hs => (h.sim σ H μ l s hl hs).bind fun xs H1 μ1 ds s1 g1 r1 p1 => ?_⟩
  split
  · obtain ⟨v, u, rfl, p0, p2⟩ := p1.two
    obtain ⟨a, vs, rfl, h1, q1⟩ := standsT p0
    obtain ⟨b, us, rfl, h2, q2⟩ := standsT p2
    exact fun Q q => ⟨a, b, vs, us, rfl, .inr ⟨h1 _ _ Mono.refl, h2 _ _ Mono.refl, q _ H1 μ1 Grow.refl r1 (RI.zipT h1 q1 h2 q2)⟩⟩
  · obtain ⟨v, u, rfl, p0, p2⟩ := p1.two
    obtain ⟨a, vs, rfl, h1, q1⟩ := standsL p0 (fun _ e => by cases e) rfl
    obtain ⟨b, us, rfl, h2, q2⟩ := standsL p2 (fun _ e => by cases e) rfl
    exact fun Q q => ⟨a, b, vs, us, rfl, .inl ⟨h1 _ _ Mono.refl, h2 _ _ Mono.refl, q _ H1 μ1 Grow.refl r1 (RI.zipL h1 q1 h2 q2)⟩⟩
  · trivial
def enumD (i : Nat) : List D → List D
  | [] => []
  | x :: xs => .tup [.int (i : Int), x] :: enumD (i + 1) xs
theorem enumD_get : ∀ {xs : List D} {n i : Nat} {d : D}, (enumD n xs)[i]? = some d → ∃ x, xs[i]? = some x ∧ d = .tup [.int ((n + i : Nat) : Int), x]
  | [], n, i, d, h => by simp [enumD] at h
  | x :: xs, n, 0, d, h => by
    simp [enumD] at h
    exact ⟨x, by simp, h.symm⟩
  | x :: xs, n, i + 1, d, h => by
    simp only [enumD, List.getElem?_cons_succ] at h ⊢
    obtain ⟨y, h1, h2⟩ := enumD_get h
    exact ⟨y, h1, by rw [h2, show n + 1 + i = n + (i + 1) by omega]⟩
theorem enumD_len : ∀ {xs : List D} {n : Nat}, (enumD n xs).length = xs.length
  | [], _ => rfl
  | x :: xs, n => by rw [enumD, List.length_cons, List.length_cons, enumD_len]
theorem RI.enum {a : Addr} {vs : List V} {ds : List D} (h : ∀ H' μ', Mono H μ H' μ' → SqL K H' a vs) (p : RpA G K H μ vs ds) : RI G K H μ (Ite K a) (enumD 0 ds) := by
  intro H' μ' g s r i
  refine ⟨fun d e => ?_, fun hi => ⟨vs, h H' μ' g, by rw [p.length]; rw [enumD_len] at hi; exact hi⟩⟩
  obtain ⟨x, e1, rfl⟩ := enumD_get e
  obtain ⟨v, h1, h2⟩ := p.get e1
  refine ⟨⟨vs, v, h H' μ' g, h1⟩, fun z H'' hy => ?_⟩
  obtain ⟨T, a1, rfl, hT, rfl, k1⟩ := hy
  have q1 := k1 vs (h _ μ' g)
  rw [h1] at q1
  cases q1
  rw [Nat.zero_add]
  exact fresh_step r hT (.cons (.int _) (.cons (h2.mon g) .nil))
def mEnum (m : MA) : MI := fun l s => (m l s).bind fun ds s1 => match ds with
  | [.lst xs] => .ok (enumD 0 xs) s1
  | _ => .stuck
theorem ji_enum {elts : List Expr} {kk : Nat} {tpos : Pos} {a : Expr} {t : TA} {m : MA} {p pos : Pos} (hm : X.mg "enumerate" = none) (h : JA X G W [a] t m) (hg : Gl X "enumerate" := by rfl)
    (hs : starEach [a] X.env = [(false, eval a X.env)] := by rfl) (hK : X.K = G.K := by rfl) : JI X G W (.Tuple elts kk tpos) (.Call (.Name "enumerate" p) [a] [] pos) (iEnum G.K t) (mEnum m) := by
  refine ⟨fun tk => hK ▸ pi_enum hg hm (h.pe tk) hs, fun σ H μ l s hl hs => (h.sim σ H μ l s hl hs).bind fun xs H1 μ1 ds s1 g1 r1 p1 => ?_⟩
  split
  · obtain ⟨v, rfl, p0⟩ := p1.one
    obtain ⟨a, vs, rfl, h1, q1⟩ := standsL p0 (fun _ e => by cases e) rfl
    exact fun Q q => ⟨a, vs, rfl, h1 _ _ Mono.refl, q _ H1 μ1 Grow.refl r1 (RI.enum h1 q1)⟩
  · trivial
end
end DL


namespace DL
open PySem PySem.Spec PyProof.Rows L2

/-! ### targets -/
abbrev MG := D → Loc → Sto → R Loc
abbrev MGs := List D → Loc → Sto → R Loc
structure JG (X : Cx) (G : Gm) (W : WX) (tg : Expr) (t : TG) (m : MG) : Prop where
  pe : Takes X W → PG X tg t
  sim : ∀ (σ : L2.St) (H : Hp) (μ : Mu) (l : Loc) (s : Sto) (v : V) (d : D), RL G G.K H μ σ l → RS G G.K H μ s → Rp G G.K H μ v d →
    okP G G.K (fun Q : L2.St → Hp → Prop => t v σ H Q) (fun c d H' => W c d σ H') H μ (RL G G.K) (m d l s)
structure JGs (X : Cx) (G : Gm) (W : WX) (tg : List Expr) (t : TGs) (m : MGs) : Prop where
  pe : Takes X W → PGs X tg t
  sim : ∀ (σ : L2.St) (H : Hp) (μ : Mu) (l : Loc) (s : Sto) (vs : List V) (ds : List D), RL G G.K H μ σ l → RS G G.K H μ s → RpA G G.K H μ vs ds →
    okP G G.K (fun Q : L2.St → Hp → Prop => t vs σ H Q) (fun c d H' => W c d σ H') H μ (RL G G.K) (m ds l s)
def mgName (i : Nat) : MG := fun d l s => .ok (l.set i (some d)) s
def mgNil : MGs := fun ds l s => match ds with
  | [] => .ok l s
  | _ => .stuck
section
variable {X : Cx} {G : Gm} {K : PySem.W.Frag} {H : Hp} {μ : Mu} {s : Sto} {W : WX} {k : Nat}
theorem RL.set {σ : L2.St} {l : Loc} {i : Nat} {v : V} {d : D} (r : RL G K H μ σ l) (p : Rp G K H μ v d) : RL G K H μ (σ.set i (some v)) (l.set i (some d)) := by
  refine ⟨by rw [List.length_set, List.length_set]; exact r.1, fun j e h => ?_⟩
  by_cases hij : i = j
  · subst hij
    have hlt : i < l.length := by
      have := (List.getElem?_eq_some_iff.mp h).1
      rwa [List.length_set] at this
    rw [List.getElem?_set_self hlt] at h
    cases h
    exact ⟨v, List.getElem?_set_self (by rw [r.1]; exact hlt), p⟩
  · rw [List.getElem?_set_ne hij] at h
    obtain ⟨u, h1, h2⟩ := r.2 j e h
    exact ⟨u, by rw [List.getElem?_set_ne hij]; exact h1, h2⟩
theorem jg_name {i : Nat} {x : Str} {pos : Pos} (hN : X.N.Nodup) (hi : X.N[i]? = some x := by rfl) (hx : L2.Loc X.env.scope x := by first | exact Or.inl rfl | exact Or.inr rfl) (hf : X.fn x = true ∨ X.env.scope.names.lookup x = some .local := by first | exact .inl rfl | exact .inr rfl | assumption) : JG X G W (.Name x pos) (gName i) (mgName i) :=
  ⟨fun tk => pg_name hN hi hx hf, fun σ H μ l s v d hl hs hp Q q => q _ H μ Grow.refl hs (hl.set hp)⟩
theorem jgs_nil : JGs X G W [] gNil mgNil := by
  refine ⟨fun tk => pgs_nil, fun σ H μ l s vs ds hl hs hp => ?_⟩
  cases hp with
  | nil => exact fun Q q => ⟨rfl, q σ H μ Grow.refl hs hl⟩
  | cons a b => trivial
theorem okP.ws {β α : Type} {t : (β → Hp → Prop) → Prop} {W W' : Value → Option Addr → Hp → Prop} {Rl : Hp → Mu → β → α → Prop} {r : R α} (h : okP G K t W H μ Rl r) (hw : ∀ c d H, W' c d H → W c d H) : okP G K t W' H μ Rl r := by
  cases r with
  | ok a s => exact h
  | ex c s => exact fun Q q => h Q fun C d H' μ' g r c f => hw _ _ _ (q C d H' μ' g r c f)
  | stuck => trivial
/-- what is stored raises nothing -/
def noEx {α : Type} (r : R α) : R α := match r with
  | .ok a s => .ok a s
  | _ => .stuck
def mgCons (m : MG) (ms : MGs) : MGs := fun ds l s => match ds with
  | d :: ds => (m d l s).bind fun l1 s1 => noEx (ms ds l1 s1)
  | [] => .stuck
theorem okP.noEx {β α : Type} {t : (β → Hp → Prop) → Prop} {W W' : Value → Option Addr → Hp → Prop} {Rl : Hp → Mu → β → α → Prop} {r : R α} (h : okP G K t W H μ Rl r) : okP G K t W' H μ Rl (noEx r) := by
  cases r with
  | ok a s => exact h
  | ex c s => trivial
  | stuck => trivial
theorem jgs_cons {e : Expr} {es : List Expr} {t : TG} {u : TGs} {m : MG} {ms : MGs} (h1 : JG X G W e t m) (h2 : JGs X G W es u ms) (hs : (assignEach (e :: es) X.env).map (·.2) = assign e X.env :: (assignEach es X.env).map (·.2) := by rfl) : JGs X G W (e :: es) (gCons t u) (mgCons m ms) := by
  refine ⟨fun tk => pgs_cons (h1.pe tk) (h2.pe tk) hs, fun σ H μ l s vs ds hl hs hp => ?_⟩
  cases hp with
  | nil => trivial
  | @cons v d vs ds a b =>
    have z : okP G G.K (fun Q : L2.St → Hp → Prop => t v σ H fun σ' H' => u vs σ' H' Q) (fun c d H' => W c d σ H') H μ (RL G G.K) ((m d l s).bind fun l1 s1 => noEx (ms ds l1 s1)) :=
      (h1.sim σ H μ l s v d hl hs a).bind fun σ1 H1 μ1 l1 s1 g1 r1 p1 => (h2.sim σ1 H1 μ1 l1 s1 vs ds p1 r1 (b.mono g1)).noEx
    show okP G G.K (fun Q : L2.St → Hp → Prop => gCons t u (v :: vs) σ H Q) _ H μ _ ((m d l s).bind fun l1 s1 => noEx (ms ds l1 s1))
    generalize ((m d l s).bind fun l1 s1 => noEx (ms ds l1 s1)) = r at z ⊢
    cases r with
    | ok l2 s2 => exact fun Q q => ⟨v, vs, rfl, z Q q⟩
    | ex c s2 => exact fun Q q => ⟨v, vs, rfl, z Q q⟩
    | stuck => trivial
def mgTup (n : Nat) (ms : MGs) : MG := fun d l s => match d with
  | .tup ds => if ds.length = n then ms ds l s else .stuck
  | _ => .stuck
theorem jg_tup {es : List Expr} {kk : Nat} {t : TGs} {n : Nat} {ms : MGs} {pos : Pos} (hc : X.calm = true) (h : JGs X G W es t ms) (hn : (assignEach es X.env).length = n := by rfl) (hst : (assignEach es X.env).findIdx? (·.1) = none := by rfl) (hK : X.K = G.K := by rfl) : JG X G W (.Tuple es kk pos) (gTup G.K n t) (mgTup n ms) := by
  refine ⟨fun tk => hK ▸ pg_tup hc (h.pe tk) hn hst, fun σ H μ l s v d hl hs hp => ?_⟩
  unfold mgTup
  split
  · rename_i ds
    split
    · rename_i hz
      obtain ⟨a, vs, rfl, h1, p1⟩ := SqT_of hp
      have z := h.sim σ H μ l s vs ds hl hs p1
      cases e : ms ds l s with
      | ok l2 s2 => rw [e] at z; exact fun Q q => ⟨a, vs, rfl, h1, by rw [p1.length]; exact hz, z Q q⟩
      | ex c s2 => rw [e] at z; exact fun Q q => ⟨a, vs, rfl, h1, by rw [p1.length]; exact hz, z Q q⟩
      | stuck => trivial
    · trivial
  · trivial
/-- a, b = a list -/
def mgLst (n : Nat) (ms : MGs) : MG := fun d l s => match rdL s d with
  | some ds => if ds.length = n then ms ds l s else .stuck
  | none => .stuck
theorem jg_lst {es : List Expr} {kk : Nat} {t : TGs} {n : Nat} {ms : MGs} {pos : Pos} (hc : X.calm = true) (h : JGs X G W es t ms) (hn : (assignEach es X.env).length = n := by rfl) (hst : (assignEach es X.env).findIdx? (·.1) = none := by rfl) (hK : X.K = G.K := by rfl) : JG X G W (.Tuple es kk pos) (gLst G.K n t) (mgLst n ms) := by
  refine ⟨fun tk => hK ▸ pg_lst hc (h.pe tk) hn hst, fun σ H μ l s v d hl hs hp => ?_⟩
  unfold mgLst
  cases e1 : rdL s d with
  | none => trivial
  | some ds =>
    dsimp only
    split
    · rename_i hz
      obtain ⟨a, vs, rfl, h1, p1⟩ := rdL_ok hs hp e1
      have z := h.sim σ H μ l s vs ds hl hs p1
      cases e : ms ds l s with
      | ok l2 s2 => rw [e] at z; exact fun Q q => ⟨a, vs, rfl, SqL.of h1, by rw [p1.length]; exact hz, z Q q⟩
      | ex c s2 => rw [e] at z; exact fun Q q => ⟨a, vs, rfl, SqL.of h1, by rw [p1.length]; exact hz, z Q q⟩
      | stuck => trivial
    · trivial
/-- o[i] = v -/
def setD (o i v : D) (s : Sto) : R Unit := match o, i with
  | .ref n, .int k => match s[n]? with
    | some (.lst xs) => match ixN xs.length k with
      | some j => .ok () (s.set n (.lst (xs.set j v)))
      | none => .stuck
    | _ => .stuck
  | _, _ => .stuck
def SimSet (G : Gm) (K : PySem.W.Frag) (r : TSet) (f : D → D → D → Sto → R Unit) : Prop :=
  ∀ (H : Hp) (μ : Mu) (s : Sto) (x y z : V) (o i v : D) (W : Value → Option Addr → Hp → Prop), RS G K H μ s → Rp G K H μ x o → Rp G K H μ y i → Rp G K H μ z v → okP G K (fun Q : Unit → Hp → Prop => r x y z H (Q ())) W H μ (fun _ _ _ _ => True) (f o i v s)
theorem s_set : SimSet G K rSetL setD := by
  intro H μ s x y z o i v W r p q t
  cases o <;> first | trivial | skip
  rename_i n
  cases i <;> first | trivial | skip
  rename_i k
  cases p
  rename_i a ha
  cases q
  unfold setD
  dsimp only
  cases e : s[n]? with
  | none => trivial
  | some u =>
    cases u with
    | lst xs =>
      dsimp only
      cases e2 : ixN xs.length k with
      | none => trivial
      | some j =>
        obtain ⟨vs, q1, q2⟩ := r.at_ n a _ ha e
        have hm : a ∈ μ.tr := List.mem_iff_getElem?.mpr ⟨n, ha⟩
        have g : Grow H μ (upd H a (.lst (vs.set j z))) μ := r.gwrite hm
        exact fun Q q => ⟨a, vs, k, j, rfl, rfl, q1, by rw [q2.length]; exact e2, q () _ μ g (r.write ha ⟨_, upd_same, (q2.set j t).mono g⟩) trivial⟩
    | dK _ => trivial
    | dT _ => trivial
def mgSub (f : D → D → D → Sto → R Unit) (mo mi : ME) : MG := fun v l s => (mo l s).bind fun o s1 => (mi l s1).bind fun i s2 => (f o i v s2).bind fun _ s3 => .ok l s3
theorem jg_sub {o i : Expr} {to ti : TE} {mo mi : ME} {f : D → D → D → Sto → R Unit} {r : TSet} {pos : Pos} (hset : PSet X r) (hsim : SimSet G G.K r f) (ho : JE X G W o to mo) (hi : JE X G W i ti mi)
    (ha : ∀ v, assign (.Subscript o i pos) X.env v = (do
      let ov ← holding [v] (eval o X.env)
      let iv ← holding [v, ov] (eval i X.env)
      standAt pos
      holding [v, ov, iv] (setItem ov iv v)
      release [v, ov, iv] []) := by intro _; rfl) : JG X G W (.Subscript o i pos) (gSub to ti r) (mgSub f mo mi) := by
  refine ⟨fun tk => pg_sub (ho.pe tk) (hi.pe tk) hset ha, fun σ H μ l s v d hl hs hp => ?_⟩
  refine (ho.sim σ H μ l s hl hs).bind (u := fun x H1 Q => ti σ H1 fun i H2 => r x i v H2 fun H3 => Q σ H3) fun x H1 μ1 od s1 g1 r1 p1 => ?_
  refine (hi.sim σ H1 μ1 l s1 (hl.mono g1) r1).bind (u := fun i H2 Q => r x i v H2 fun H3 => Q σ H3) fun y H2 μ2 id s2 g2 r2 p2 => ?_
  refine (hsim H2 μ2 s2 x y v od id d _ r2 (p1.mono g2) p2 ((hp.mono g1).mono g2)).bind (t := fun Q : Unit → Hp → Prop => r x y v H2 (Q ())) (u := fun _ H3 Q => Q σ H3) fun _ H3 μ3 _ s3 g3 r3 _ => ?_
  exact fun Q q => q σ H3 μ3 Grow.refl r3 (((hl.mono g1).mono g2).mono g3)

/-! ### methods of built-in types -/
def isTy (T : String) (s : Sto) : D → Bool
  | .str _ => T == "str"
  | .int _ => T == "int"
  | .lst _ => T == "list"
  | .scr _ => T == "list"
  | .ref n => match s[n]? with
    | some (.lst _) => T == "list"
    | some (.dK _) => T == "dict"
    | some (.dT _) => T == "dict"
    | none => false
  | _ => false
theorem isTy_ok {T : String} {v : V} {d : D} (r : RS G K H μ s) (p : Rp G K H μ v d) (h : isTy T s d = true) : tyV K T v H := by
  cases d with
  | str x => cases p; exact eq_of_beq h
  | int x => cases p; exact eq_of_beq h
  | lst x => cases p; exact .inl ⟨eq_of_beq h, _, SqL.of (by assumption)⟩
  | scr x =>
    cases p with
    | scr h1 h2 => exact .inl ⟨eq_of_beq h, _, .inl (.inr ⟨_, h1⟩)⟩
    | scrK h1 h2 h3 h4 h5 h6 => exact .inl ⟨eq_of_beq h, _, .inr ⟨_, _, _, h1, h2, h3, h4, h5, h6⟩⟩
  | ref n =>
    cases p
    rename_i a ha
    unfold isTy at h
    cases e : s[n]? with
    | none => simp only [e] at h; cases h
    | some o =>
      cases o with
      | lst xs =>
        simp only [e] at h
        obtain ⟨vs, q1, q2⟩ := r.at_ n a _ ha e
        exact .inl ⟨eq_of_beq h, _, SqL.of q1⟩
      | dK xs =>
        simp only [e] at h
        obtain ⟨vs, q1, q2⟩ := r.at_ n a _ ha e
        exact .inr (.inr (.inl ⟨eq_of_beq h, .inl ⟨_, q1⟩⟩))
      | dT xs =>
        simp only [e] at h
        obtain ⟨vs, q1, q2⟩ := r.at_ n a _ ha e
        exact .inr (.inr (.inl ⟨eq_of_beq h, .inr ⟨_, q1⟩⟩))
  | _ => cases h
def SimM (G : Gm) (K : PySem.W.Frag) (r : V → List V → Hp → VK → Prop) (f : D → List D → Sto → R D) : Prop :=
  ∀ (H : Hp) (μ : Mu) (s : Sto) (x : V) (vs : List V) (d : D) (ds : List D) (W : Value → Option Addr → Hp → Prop), RS G K H μ s → Rp G K H μ x d → RpA G K H μ vs ds → okP G K (r x vs H) W H μ (Rp G K) (f d ds s)
def mMeth (T : String) (f : D → List D → Sto → R D) (mo : ME) (ma : MA) : ME := fun l s => (mo l s).bind fun d s1 => if isTy T s1 d = true then (ma l s1).bind fun ds s2 => f d ds s2 else .stuck
section
variable {o e : Expr} {es : List Expr} {to : TE} {t : TA} {mo : ME} {ma : MA} {name : Str} {apos cpos : Pos} {T id : String} {r : V → List V → Hp → VK → Prop} {f : D → List D → Sto → R D}
theorem okP_and {P : Prop} {u : VK → Prop} {W : Value → Option Addr → Hp → Prop} {ret : R D} (hp : P) (z : okP G K u W H μ (Rp G K) ret) : okP G K (fun Q => P ∧ u Q) W H μ (Rp G K) ret := by
  cases ret with
  | ok a s => exact fun Q q => ⟨hp, z Q q⟩
  | ex a s => exact fun Q q => ⟨hp, z Q q⟩
  | stuck => trivial
theorem je_meth (pa : PlainAttrs T) (slot : Slot T name id) (hty : typeOf (.builtin id) = pure (.type "method_descriptor")) (hm : MtR X id r) (hs : SimM G G.K r f) (ho : JE X G W o to mo) (ha : JA X G W (e :: es) t ma)
    (hbase : attributeBase o name X.env (eval o X.env) = eval o X.env := by rfl)
    (hfew : ((backTo cpos (starEach (e :: es) X.env)).all (fun x => !x.1) && (backToKw cpos (keywordEach [] X.env)).all (fun x => x.1.isSome)
      && decide ((e :: es).length + ([] : List Keyword).length + (if ([] : List Keyword).isEmpty then 0 else 1) < 30)) = true := by rfl)
    (hline : (apos.endLine == cpos.line) = true := by rfl) (hst : starEach (e :: es) X.env = (false, eval e X.env) :: starEach es X.env := by rfl) (hplain : (backTo cpos (starEach es X.env)).any (·.1) = false := by rfl) (hK : X.K = G.K := by rfl) :
    JE X G W (.Call (.Attribute o name apos) (e :: es) [] cpos) (tBM G.K T r to t) (mMeth T f mo ma) := by
  refine ⟨fun tk => hK ▸ pe_bm pa slot hty hm (ho.pe tk) (ha.pe tk) hbase hfew hline hst hplain, fun σ H μ l s hl hs0 => (ho.sim σ H μ l s hl hs0).bind fun x H1 μ1 d s1 g1 r1 p1 => ?_⟩
  split
  · rename_i ht
    refine okP_and (isTy_ok r1 p1 ht) ?_
    exact (ha.sim σ H1 μ1 l s1 (hl.mono g1) r1).bind fun vs H2 μ2 ds s2 g2 r2 p2 => hs H2 μ2 s2 x vs d ds _ r2 (p1.mono g2) p2
  · trivial
theorem je_meth0 (pa : PlainAttrs T) (slot : Slot T name id) (hty : typeOf (.builtin id) = pure (.type "method_descriptor")) (hm : MtR X id r) (hs : SimM G G.K r f) (ho : JE X G W o to mo)
    (hbase : attributeBase o name X.env (eval o X.env) = eval o X.env := by rfl) (hline : (apos.endLine == cpos.line) = true := by rfl) (hK : X.K = G.K := by rfl) :
    JE X G W (.Call (.Attribute o name apos) [] [] cpos) (tBM0 G.K T r to) (mMeth T f mo mNil) := by
  refine ⟨fun tk => hK ▸ pe_bm0 pa slot hty hm (ho.pe tk) hbase hline, fun σ H μ l s hl hs0 => (ho.sim σ H μ l s hl hs0).bind fun x H1 μ1 d s1 g1 r1 p1 => ?_⟩
  split
  · rename_i ht
    refine okP_and (isTy_ok r1 p1 ht) ?_
    exact hs H1 μ1 s1 x [] d [] _ r1 p1 .nil
  · trivial
end
def appendM (o : D) (ds : List D) (s : Sto) : R D := match o, ds with
  | .ref n, [d] => match s[n]? with
    | some (.lst xs) => if xs.length < 100000 then .ok .non (s.set n (.lst (xs ++ [d]))) else .stuck
    | _ => .stuck
  | _, _ => .stuck
theorem sm_append : SimM G K rAppend appendM := by
  intro H μ s x vs d ds W r p q
  unfold appendM
  split
  · rename_i n e
    cases p
    rename_i a ha
    obtain ⟨v, rfl, q0⟩ := q.one
    cases e1 : s[n]? with
    | none => trivial
    | some u =>
      cases u with
      | lst xs =>
        dsimp only
        split
        · rename_i hz
          obtain ⟨vs, q1, q2⟩ := r.at_ n a _ ha e1
          have hm : a ∈ μ.tr := List.mem_iff_getElem?.mpr ⟨n, ha⟩
          have g : Grow H μ (upd H a (.lst (vs ++ [v]))) μ := r.gwrite hm
          exact fun Q k => ⟨a, vs, v, rfl, rfl, q1, lt_line (by rw [q2.length]; exact hz), k _ _ μ g (r.write ha ⟨_, upd_same, (q2.append (.cons q0 .nil)).mono g⟩) .non⟩
        · trivial
      | dK _ => trivial
      | dT _ => trivial
  · trivial
end

/-! ### comprehensions -/
def wipeD (l : Loc) : List Nat → Loc
  | [] => l
  | v :: vs => (wipeD l vs).set v none
def lcL (tg : MG) (tt : MT) (me : ME) : List D → MA
  | [], _, s => .ok [] s
  | d :: ds, l, s => (tg d l s).bind fun l1 s1 => (tt l1 s1).bind fun b s2 => match b with
    | true => (me l1 s2).bind fun y s3 => (lcL tg tt me ds l s3).bind fun ys s4 => .ok (y :: ys) s4
    | false => lcL tg tt me ds l s2
def mLc (own : List Nat) (mi : MI) (tg : MG) (tt : MT) (me : ME) : ME := fun l s => (mi l s).bind fun ds s1 => (noEx (lcL tg tt me ds (wipeD l own) s1)).bind fun ys s2 => if ys.length ≤ 100000 then .ok (.lst ys) s2 else .stuck
/-- the new list tracked -/
def mLcN (own : List Nat) (mi : MI) (tg : MG) (tt : MT) (me : ME) : ME := fun l s => (mi l s).bind fun ds s1 => (noEx (lcL tg tt me ds (wipeD l own) s1)).bind fun ys s2 => if ys.length ≤ 100000 then .ok (.ref s2.length) (s2 ++ [.lst ys]) else .stuck
/-- the tests of a comprehension -/
structure JTs (X : Cx) (G : Gm) (W : WX) (ifs : List Expr) (t : TT) (m : MT) : Prop where
  pe : Takes X W → PTs X ifs t
  sim : ∀ (σ : L2.St) (H : Hp) (μ : Mu) (l : Loc) (s : Sto), RL G G.K H μ σ l → RS G G.K H μ s → okP G G.K (t σ H) (fun c d H' => W c d σ H') H μ BEq2 (m l s)
def mYes : MT := fun _ s => .ok true s
abbrev W0 : WX := fun _ _ _ _ => False
section
variable {X : Cx} {G : Gm} {K : PySem.W.Frag} {H : Hp} {μ : Mu} {s : Sto} {W : WX} {k : Nat}
theorem jts_nil : JTs X G W [] tYes mYes := ⟨fun tk => pts_nil, fun σ H μ l s hl hs Q q => q true H μ Grow.refl hs rfl⟩
theorem jts_one {c : Expr} {t : TT} {m : MT} (h : JT X G W c t m) : JTs X G W [c] t m := ⟨fun tk => pts_one (h.pe tk), h.sim⟩
theorem RL.wipe {σ : L2.St} {l : Loc} (r : RL G K H μ σ l) : ∀ vs : List Nat, RL G K H μ (wipe σ vs) (wipeD l vs)
  | [] => r
  | v :: vs => by
    have ih := RL.wipe r vs
    unfold wipeD L2.wipe
    refine ⟨by rw [List.length_set, List.length_set]; exact ih.1, fun j e h => ?_⟩
    by_cases hij : v = j
    · subst hij
      have hlt : v < (wipeD l vs).length := by
        have := (List.getElem?_eq_some_iff.mp h).1
        rwa [List.length_set] at this
      rw [List.getElem?_set_self hlt] at h
      cases h
    · rw [List.getElem?_set_ne hij] at h
      obtain ⟨u, h1, h2⟩ := ih.2 j e h
      exact ⟨u, by rw [List.getElem?_set_ne hij]; exact h1, h2⟩
/-- the target stores the own names alone -/
def Keeps (g : TG) (vs : List Nat) : Prop := ∀ (v : V) (σ : L2.St) (H : Hp) (Q : L2.St → Hp → Prop), g v σ H Q → g v σ H fun σ2 H2 => wipe σ2 vs = wipe σ vs ∧ Q σ2 H2
theorem wipe_set {σ : L2.St} {i : Nat} {x : Option V} : ∀ {vs : List Nat}, i ∈ vs → wipe (σ.set i x) vs = wipe σ vs
  | [], h => by simp at h
  | v :: vs, h => by
    unfold L2.wipe
    by_cases hm : i ∈ vs
    · rw [wipe_set hm]
    · have e : v = i := by
        rcases List.mem_cons.mp h with h | h
        · exact h.symm
        · exact absurd h hm
      subst e
      have key : ∀ (ws : List Nat), v ∉ ws → wipe (σ.set v x) ws = (wipe σ ws).set v x := by
        intro ws
        induction ws with
        | nil => intro _; rfl
        | cons w ws ih =>
          intro hn
          unfold L2.wipe
          rw [ih (fun z => hn (List.mem_cons_of_mem _ z))]
          exact List.set_comm _ _ (fun z => hn (by rw [z]; exact List.mem_cons_self))
      rw [key vs hm, List.set_set]
theorem keeps_name {i : Nat} {vs : List Nat} (h : i ∈ vs) : Keeps (gName i) vs := fun v σ H Q q => ⟨wipe_set h, q⟩
theorem keeps_tup {n : Nat} {t : TGs} {vs : List Nat} (h : ∀ (us : List V) (σ : L2.St) (H : Hp) (Q : L2.St → Hp → Prop), t us σ H Q → t us σ H fun σ2 H2 => wipe σ2 vs = wipe σ vs ∧ Q σ2 H2) : Keeps (gTup K n t) vs :=
  fun v σ H Q ⟨a, xs, e, hq, hl, q⟩ => ⟨a, xs, e, hq, hl, h xs σ H Q q⟩
def KeepsS (t : TGs) (vs : List Nat) : Prop := ∀ (us : List V) (σ : L2.St) (H : Hp) (Q : L2.St → Hp → Prop), t us σ H Q → t us σ H fun σ2 H2 => wipe σ2 vs = wipe σ vs ∧ Q σ2 H2
theorem keeps_nil {vs : List Nat} : KeepsS gNil vs := fun us σ H Q ⟨e, q⟩ => ⟨e, rfl, q⟩
theorem keeps_cons {i : Nat} {u : TGs} {vs : List Nat} (h : i ∈ vs) (hu : KeepsS u vs) : KeepsS (gCons (gName i) u) vs := fun us σ H Q ⟨v, r, e, q⟩ => ⟨v, r, e, by
  have z := hu r (σ.set i (some v)) H Q q
  rw [wipe_set h] at z
  exact z⟩
theorem wipe_wipe {σ : L2.St} : ∀ vs : List Nat, wipe (wipe σ vs) vs = wipe σ vs := by
  have key : ∀ (ws vs : List Nat), (∀ i ∈ ws, i ∈ vs) → wipe (wipe σ ws) vs = wipe σ vs := by
    intro ws
    induction ws with
    | nil => intro vs _; rfl
    | cons w ws ih =>
      intro vs h
      show wipe ((wipe σ ws).set w none) vs = _
      rw [wipe_set (h w List.mem_cons_self)]
      exact ih vs fun i hi => h i (List.mem_cons_of_mem _ hi)
  exact fun vs => key vs vs fun _ h => h
theorem Keeps.two {g : TG} {vs : List Nat} (h : Keeps g vs) {v : V} {σ : L2.St} {H : Hp} {Q : L2.St → Hp → Prop} (q : g v (wipe σ vs) H Q) : g v (wipe σ vs) H fun σ2 H2 => wipe σ2 vs = wipe σ vs ∧ Q σ2 H2 := by
  have z := h v (wipe σ vs) H Q q
  rw [wipe_wipe] at z
  exact z
theorem Grow.none_back {H1 : Hp} {μ1 : Mu} {s1 : Sto} (g : Grow H μ H1 μ1) (r : RS G K H1 μ1 s1) {a : Addr} (h : H1 a = none) : H a = none := by
  cases q : H a with
  | none => rfl
  | some o =>
    exfalso
    by_cases hm : a ∈ μ
    · rcases hm with hm | hm
      · obtain ⟨n, hn⟩ := List.mem_iff_getElem?.mp hm
        obtain ⟨u, e⟩ := r.some_ (g.pre n a hn)
        rw [h] at e; cases e
      · have := g.res a hm
        rw [h, q] at this; cases this
    · have := g.keep a o q hm
      rw [h] at this; cases this
theorem Grow.over {H1 H' H4 H5 : Hp} {μ1 μ' μ4 : Mu} {s1 : Sto} {Da : Addr} (r1 : RS G K H1 μ1 s1) (g1 : Grow H1 μ1 H' ⟨μ'.tr, μ1.rs⟩) (hr : μ'.rs = Da :: μ1.rs) (hD : H1 Da = none) (gg : Grow H' μ' H4 μ4) (hh : ∀ a, a ≠ Da → H5 a = H4 a) : Grow H1 μ1 H5 ⟨μ4.tr, μ1.rs⟩ := by
  refine ⟨fun a o h hn => ?_, fun a ha => ?_, fun n p h => gg.pre n p (g1.pre n p h), rfl, fun a ha => ?_⟩
  · have hne : a ≠ Da := ne_of_none h hD
    have h1 := g1.keep a o h hn
    have h2 : a ∉ μ' := fun z => by
      rcases z with z | z
      · exact g1.notin h hn (.inl z)
      · rw [hr] at z
        rcases List.mem_cons.mp z with z | z
        · exact hne z
        · exact hn (.inr z)
    rw [hh a hne]
    exact gg.keep a o h1 h2
  · rcases gg.news a ha with z | z
    · exact g1.news a z
    · by_cases hm : a ∈ μ1
      · rcases hm with hm | hm
        · exact .inl hm
        · right; rw [← g1.res a hm]; exact z
      · right
        cases q : H1 a with
        | none => rfl
        | some o =>
          have := g1.keep a o q hm
          rw [z] at this; cases this
  · have hne : a ≠ Da := fun z => by
      obtain ⟨⟨o, e⟩, _⟩ := r1.rk a ha
      rw [z, hD] at e; cases e
    rw [hh a hne, gg.res a (by rw [hr]; exact List.mem_cons_of_mem _ ha)]
    exact g1.res a ha
theorem RS.rwrite {Da : Addr} {o : HO} (r : RS G K H μ s) (h : Da ∈ μ.rs) : RS G K (upd H Da o) μ s ∧ Mono H μ (upd H Da o) μ := by
  have m : Mono H μ (upd H Da o) μ := ⟨fun a u e hn => by rw [upd_ne (show a ≠ Da from fun z => hn (.inr (z ▸ h)))]; exact e, fun _ _ _ n => n, fun _ _ e => e⟩
  refine ⟨⟨r.len, r.nd, fun n p u e1 e2 => (r.at_ n p u e1 e2).mon m fun u e => ?_, fun a ha => ?_⟩, m⟩
  · have hp : p ∈ μ.tr := List.mem_iff_getElem?.mpr ⟨n, e1⟩
    rw [upd_ne (show p ≠ Da from fun z => (r.rk Da h).2 (z ▸ hp))]
    exact e
  · obtain ⟨⟨u, e⟩, n⟩ := r.rk a ha
    by_cases z : a = Da
    · exact ⟨⟨o, by rw [z, upd_same]⟩, n⟩
    · exact ⟨⟨u, by rw [upd_ne z]; exact e⟩, n⟩
theorem bind_ok_inv {α β : Type} {r : R α} {f : α → Sto → R β} {b : β} {s : Sto} (h : r.bind f = .ok b s) : ∃ a s1, r = .ok a s1 ∧ f a s1 = .ok b s := by
  cases r with
  | ok a s1 => exact ⟨a, s1, rfl, h⟩
  | ex c s1 => cases h
  | stuck => cases h
/-- a comprehension's list while it grows: D is reserved -/
theorem lc_run {wi : TI} {g : TG} {tt : TT} {te : TE} {vs : List Nat} {mi : MI} {tg : MG} {mt : MT} {me : ME} {σ : L2.St} {l : Loc}
    (hkeep : Keeps g vs)
    (hi : okP G K (wi σ H) (fun c d H' => W c d σ H') H μ (RI G K) (mi l s))
    (hg : ∀ (σ : L2.St) (H : Hp) (μ : Mu) (l : Loc) (s : Sto) (v : V) (d : D), RL G K H μ σ l → RS G K H μ s → Rp G K H μ v d → okP G K (fun Q : L2.St → Hp → Prop => g v σ H Q) (fun _ _ _ => False) H μ (RL G K) (tg d l s))
    (ht : ∀ (σ : L2.St) (H : Hp) (μ : Mu) (l : Loc) (s : Sto), RL G K H μ σ l → RS G K H μ s → okP G K (tt σ H) (fun _ _ _ => False) H μ BEq2 (mt l s))
    (he : ∀ (σ : L2.St) (H : Hp) (μ : Mu) (l : Loc) (s : Sto), RL G K H μ σ l → RS G K H μ s → okP G K (te σ H) (fun _ _ _ => False) H μ (Rp G K) (me l s))
    (hl : RL G K H μ σ l) (f : List D → Sto → R D)
    (hf : ∀ (H' : Hp) (μ' : Mu) (s' : Sto) (Da : Addr) (ys : List D) (us : List V) (d : D) (s2 : Sto), f ys s' = .ok d s2 → Grow H μ H' μ' → RS G K H' ⟨μ'.tr, Da :: μ'.rs⟩ s' → H' Da = some (.lst us) → H Da = none → RpA G K H' ⟨μ'.tr, Da :: μ'.rs⟩ us ys → ∃ μ2, Grow H μ H' μ2 ∧ RS G K H' μ2 s2 ∧ Rp G K H' μ2 (.ref Da) d)
    (hfx : ∀ ys s' c s2, f ys s' ≠ .ex c s2) (hfl : ∀ ys s' d s2, f ys s' = .ok d s2 → ys.length ≤ 100000) :
    okP G K (tLc wi g tt te vs σ H) (fun c d H' => W c d σ H') H μ (Rp G K) ((mi l s).bind fun ds s1 => (noEx (lcL tg mt me ds (wipeD l vs) s1)).bind f) := by
  cases e1 : mi l s with
  | stuck => trivial
  | ex c s1 =>
    rw [e1] at hi
    exact fun Q q => hi _ fun C d H' μ' g r cc ff => q C d H' μ' g r cc ff
  | ok ds s1 =>
    rw [e1] at hi
    show okP G K (tLc wi g tt te vs σ H) (fun c d H' => W c d σ H') H μ (Rp G K) ((noEx (lcL tg mt me ds (wipeD l vs) s1)).bind f)
    cases e2 : lcL tg mt me ds (wipeD l vs) s1 with
    | stuck => trivial
    | ex c s2 => trivial
    | ok ys s2 =>
      show okP G K (tLc wi g tt te vs σ H) (fun c d H' => W c d σ H') H μ (Rp G K) (f ys s2)
      cases e3 : f ys s2 with
      | stuck => trivial
      | ex c s3 => exact absurd e3 (hfx _ _ _ _)
      | ok d s3 =>
        intro Q q
        have hlen := hfl _ _ _ _ e3
        refine hi _ fun J H1 μ1 g1 r1 ri Da hD => ?_
        have hDn : Da ∉ μ1 := r1.notin hD
        have hm1 : ∀ {H' : Hp} {μ' : Mu}, Grow H1 μ1 H' ⟨μ'.tr, μ1.rs⟩ → μ'.rs = Da :: μ1.rs → Mono H1 μ1 H' μ' := fun {H' μ'} g hr => by
          refine ⟨g.keep, fun a o h n z => ?_, g.pre⟩
          rcases z with z | z
          · exact g.notin h n (.inl z)
          · rw [hr] at z
            rcases List.mem_cons.mp z with z | z
            · exact ne_of_none h hD z
            · exact n (.inr z)
        refine ⟨fun i m H' => ∃ (μ' : Mu) (s' : Sto) (us : List V) (acc rest : List D), Grow H1 μ1 H' ⟨μ'.tr, μ1.rs⟩ ∧ μ'.rs = Da :: μ1.rs ∧ RS G K H' μ' s' ∧ H' Da = some (.lst us) ∧ RpA G K H' μ' us acc ∧
          lcL tg mt me (ds.drop i) (wipeD l vs) s' = .ok rest s2 ∧ ys = acc ++ rest ∧ i + m = ds.length, ⟨ds.length, ?_⟩, fun i m H' hW => ?_⟩
        · have m0 : Mono H1 μ1 (upd H1 Da (.lst [])) ⟨μ1.tr, Da :: μ1.rs⟩ := by
            refine ⟨fun a o h _ => by rw [upd_ne (ne_of_none h hD)]; exact h, fun a o h n z => ?_, fun _ _ h => h⟩
            rcases z with z | z
            · exact n (.inl z)
            · rcases List.mem_cons.mp z with z | z
              · exact ne_of_none h hD z
              · exact n (.inr z)
          refine ⟨⟨μ1.tr, Da :: μ1.rs⟩, s1, [], [], ys, r1.galloc hD, rfl, ⟨r1.len, r1.nd, fun n p u a b => (r1.at_ n p u a b).mon m0 fun u e => by rw [upd_ne (ne_of_none e hD)]; exact e, fun a ha => ?_⟩, upd_same, .nil, e2, rfl, by omega⟩
          rcases List.mem_cons.mp ha with z | z
          · exact ⟨⟨_, by rw [z, upd_same]⟩, fun w => hDn (.inl (z ▸ w))⟩
          · obtain ⟨⟨o, e⟩, n⟩ := r1.rk a z
            exact ⟨⟨o, by rw [upd_ne (ne_of_none e hD)]; exact e⟩, n⟩
        · obtain ⟨μ', s', us, acc, rest, g', hr, rs', hus, racc, hrun, hys, him⟩ := hW
          have mono' := hm1 g' hr
          obtain ⟨rgo, rstop⟩ := ri H' μ' mono' s' rs' i
          by_cases hi2 : ds.length ≤ i
          · left
            refine ⟨rstop hi2, ?_⟩
            rw [List.drop_of_length_le hi2] at hrun
            simp only [lcL, R.ok.injEq] at hrun
            obtain ⟨rfl, rfl⟩ := hrun
            rw [List.append_nil] at hys
            subst hys
            have em : (⟨μ'.tr, Da :: μ1.rs⟩ : Mu) = μ' := by rw [← hr]
            obtain ⟨μ2, k1, k2, k3⟩ := hf H' ⟨μ'.tr, μ1.rs⟩ s' Da ys us d s3 e3 (g1.trans g') (by show RS G K H' ⟨μ'.tr, Da :: μ1.rs⟩ s'; rw [em]; exact rs') hus (g1.none_back r1 hD) (by show RpA G K H' ⟨μ'.tr, Da :: μ1.rs⟩ us ys; rw [em]; exact racc)
            exact q _ H' μ2 k1 k2 k3
          · right
            have hlt : i < ds.length := by omega
            rw [List.drop_eq_getElem_cons hlt] at hrun
            simp only [lcL] at hrun
            obtain ⟨l1, t1, h1, hrun⟩ := bind_ok_inv hrun
            obtain ⟨b, t2, h2, hrun⟩ := bind_ok_inv hrun
            have hgo := rgo ds[i] (List.getElem?_eq_getElem hlt)
            refine ⟨hgo.1, fun H5 => ∃ (μ' : Mu) (s' : Sto) (us : List V) (acc rest : List D), Grow H1 μ1 H5 ⟨μ'.tr, μ1.rs⟩ ∧ μ'.rs = Da :: μ1.rs ∧ RS G K H5 μ' s' ∧ H5 Da = some (.lst us) ∧ RpA G K H5 μ' us acc ∧
              lcL tg mt me (ds.drop (i + 1)) (wipeD l vs) s' = .ok rest s2 ∧ ys = acc ++ rest, fun H5 h5 => ?_, fun x H'' hy => ?_⟩
            · obtain ⟨a, b, c, dd, e, f1, f2, f3, f4, f5, f6, f7⟩ := h5
              exact ⟨m - 1, by omega, a, b, c, dd, e, f1, f2, f3, f4, f5, f6, f7, by omega⟩
            · obtain ⟨gy, ry, py⟩ := hgo.2 x H'' hy
              have hlw : RL G K H'' μ' (wipe σ vs) (wipeD l vs) := (((hl.mono g1).mon mono').mono gy).wipe vs
              have hDr : Da ∈ μ'.rs := by rw [hr]; exact List.mem_cons_self
              have zg := hg (wipe σ vs) H'' μ' (wipeD l vs) s' x ds[i] hlw ry py
              rw [h1] at zg
              refine hkeep.two (zg _ fun σ2 H2 μ2 g2 r2 p2 => ?_)
              have zt := ht σ2 H2 μ2 l1 t1 p2 r2
              rw [h2] at zt
              refine zt _ fun b' H3 μ3 g3 r3 hb => ?_
              subst hb
              have gg3 : Grow H' μ' H3 μ3 := (gy.trans g2).trans g3
              cases b' with
              | false =>
                rw [if_neg Bool.false_ne_true]
                dsimp only at hrun
                refine ⟨μ3, t2, us, acc, rest, Grow.over r1 g' hr hD gg3 fun _ _ => rfl, gg3.rs.trans hr, r3, ?_, racc.mono gg3, hrun, hys⟩
                rw [gg3.res Da hDr]; exact hus
              | true =>
                rw [if_pos rfl]
                dsimp only at hrun
                obtain ⟨y, t3, h3, hrun⟩ := bind_ok_inv hrun
                obtain ⟨ys', t4, h4, hrun⟩ := bind_ok_inv hrun
                simp only [R.ok.injEq] at hrun
                obtain ⟨rfl, rfl⟩ := hrun
                have ze := he σ2 H3 μ3 l1 t2 (p2.mono g3) r3
                rw [h3] at ze
                refine ze _ fun v H4 μ4 g4 r4 p4 => ?_
                have gg4 : Grow H' μ' H4 μ4 := gg3.trans g4
                have hr4 : μ4.rs = Da :: μ1.rs := gg4.rs.trans hr
                have hus4 : H4 Da = some (.lst us) := by rw [gg4.res Da hDr]; exact hus
                refine ⟨us, hus4, lt_line ?_, ?_⟩
                · rw [racc.length]
                  have : ys.length = acc.length + (ys'.length + 1) := by rw [hys, List.length_append, List.length_cons]
                  omega
                · obtain ⟨r5, m5⟩ := r4.rwrite (Da := Da) (o := .lst (us ++ [v])) (by rw [hr4]; exact List.mem_cons_self)
                  refine ⟨μ4, t3, us ++ [v], acc ++ [y], ys', Grow.over r1 g' hr hD gg4 fun a ha => upd_ne ha, hr4, r5, upd_same, ((racc.mono gg4).append (.cons p4 .nil)).mon m5, h4, ?_⟩
                  rw [hys, List.append_assoc]; rfl
/-- the list is frozen -/
theorem lc_frozen {s0 s' : Sto} {Da : Addr} {us : List V} {ys : List D} (r0 : RS G K H μ s0) {H' : Hp} {μ' : Mu} (g : Grow H μ H' μ') (r : RS G K H' ⟨μ'.tr, Da :: μ'.rs⟩ s') (hD : H' Da = some (.lst us)) (h0 : H Da = none) (p : RpA G K H' ⟨μ'.tr, Da :: μ'.rs⟩ us ys) :
    Grow H μ H' μ' ∧ RS G K H' μ' s' ∧ Rp G K H' μ' (.ref Da) (.lst ys) := by
  have m : Mono H' ⟨μ'.tr, Da :: μ'.rs⟩ H' μ' := ⟨fun _ _ h _ => h, fun a o h n z => by
    rcases z with z | z
    · exact n (.inl z)
    · exact n (.inr (List.mem_cons_of_mem _ z)), fun _ _ h => h⟩
  refine ⟨g, ⟨r.len, r.nd, fun n q u a b => (r.at_ n q u a b).mon m fun u e => e, fun a ha => r.rk a (List.mem_cons_of_mem _ ha)⟩, .lst hD (fun z => ?_) (p.mon m)⟩
  rcases z with z | z
  · exact (r.rk Da List.mem_cons_self).2 z
  · rw [g.rs] at z
    obtain ⟨⟨o, e⟩, _⟩ := r0.rk Da z
    rw [h0] at e; cases e
/-- the list is tracked -/
theorem lc_tracked {s0 s' : Sto} {Da : Addr} {us : List V} {ys : List D} (r0 : RS G K H μ s0) {H' : Hp} {μ' : Mu} (g : Grow H μ H' μ') (r : RS G K H' ⟨μ'.tr, Da :: μ'.rs⟩ s') (hD : H' Da = some (.lst us)) (h0 : H Da = none) (p : RpA G K H' ⟨μ'.tr, Da :: μ'.rs⟩ us ys) :
    Grow H μ H' (μ'.add Da) ∧ RS G K H' (μ'.add Da) (s' ++ [.lst ys]) ∧ Rp G K H' (μ'.add Da) (.ref Da) (.ref s'.length) := by
  have hn : Da ∉ μ'.rs := fun z => by
    rw [g.rs] at z
    obtain ⟨⟨o, e⟩, _⟩ := r0.rk Da z
    rw [h0] at e; cases e
  have ht : Da ∉ μ'.tr := (r.rk Da List.mem_cons_self).2
  have m : Mono H' ⟨μ'.tr, Da :: μ'.rs⟩ H' (μ'.add Da) := ⟨fun _ _ h _ => h, fun a o h n z => by
    rcases z with z | z
    · rcases List.mem_append.mp z with z | z
      · exact n (.inl z)
      · rw [List.mem_singleton] at z
        exact n (.inr (by rw [z]; exact List.mem_cons_self))
    · exact n (.inr (List.mem_cons_of_mem _ z)), fun n q e => by
    show (μ'.tr ++ [Da])[n]? = some q
    have e : μ'.tr[n]? = some q := e
    rw [List.getElem?_append_left (List.getElem?_eq_some_iff.mp e).1]; exact e⟩
  have hlen : μ'.tr.length = s'.length := r.len
  have hlast : (μ'.tr ++ [Da])[s'.length]? = some Da := by rw [← hlen, List.getElem?_append_right (Nat.le_refl _), Nat.sub_self]; rfl
  refine ⟨⟨g.keep, fun a ha => ?_, fun n q e => ?_, g.rs, g.res⟩, ⟨?_, ?_, fun n q u a b => ?_, fun a ha => ?_⟩, .ref hlast⟩
  · rcases List.mem_append.mp ha with z | z
    · exact g.news a z
    · rw [List.mem_singleton] at z; right; rw [z]; exact h0
  · have e := g.pre n q e
    show (μ'.tr ++ [Da])[n]? = some q
    rw [List.getElem?_append_left (List.getElem?_eq_some_iff.mp e).1]; exact e
  · show (μ'.tr ++ [Da]).length = _
    rw [List.length_append, List.length_append, hlen]; rfl
  · show (μ'.tr ++ [Da]).Nodup
    rw [List.nodup_append]
    refine ⟨r.nd, by simp, fun a ha b hb => ?_⟩
    rw [List.mem_singleton] at hb
    subst hb
    intro z
    subst z
    exact ht ha
  · have a : (μ'.tr ++ [Da])[n]? = some q := a
    by_cases hlt : n < μ'.tr.length
    · rw [List.getElem?_append_left hlt] at a
      rw [List.getElem?_append_left (by rw [← hlen]; exact hlt)] at b
      exact (r.at_ n q u a b).mon m fun u e => e
    · have hn2 : n = s'.length := by
        have := (List.getElem?_eq_some_iff.mp a).1
        rw [List.length_append] at this
        simp at this
        omega
      subst hn2
      rw [hlast] at a
      cases a
      rw [List.getElem?_append_right (Nat.le_refl _), Nat.sub_self] at b
      simp at b
      subst b
      exact ⟨us, hD, p.mon m⟩
  · obtain ⟨e, n⟩ := r.rk a (List.mem_cons_of_mem _ ha)
    refine ⟨e, fun z => ?_⟩
    rcases List.mem_append.mp z with z | z
    · exact n z
    · rw [List.mem_singleton] at z
      exact hn (z ▸ ha)
end
end DL


namespace DL
open PySem PySem.Spec PyProof.Rows L2
section
variable {X : Cx} {G : Gm} {K : PySem.W.Frag} {H : Hp} {μ : Mu} {s : Sto} {W : WX} {k : Nat}

/-! ### comprehensions as expressions -/
section
variable {elt tg iter : Expr} {ifs : List Expr} {scope : Scope} {own : List (Str × Nat)} {pos : Pos} {wi : TI} {g : TG} {tt : TT} {te : TE} {mi : MI} {mg : MG} {mt : MT} {me : ME}
theorem lc_sim (hi : JI X G W tg iter wi mi) (hk : Keeps g (own.map (·.2)))
    (hg : ∀ (s : Shared) (H : Hp) (C : Addr) (cl : List (Str × Addr)) (fp : List Addr), JG (X.blk s H scope (compEnvC scope cl C X.env) fp) G W0 tg g mg) (ht : ∀ (s : Shared) (H : Hp) (C : Addr) (cl : List (Str × Addr)) (fp : List Addr), JTs (X.blk s H scope (compEnvC scope cl C X.env) fp) G W0 ifs tt mt)
    (he : ∀ (s : Shared) (H : Hp) (C : Addr) (cl : List (Str × Addr)) (fp : List Addr), JE (X.blk s H scope (compEnvC scope cl C X.env) fp) G W0 elt te me) :
    (∀ (σ : L2.St) (H : Hp) (μ : Mu) (l : Loc) (s : Sto), RL G G.K H μ σ l → RS G G.K H μ s → okP G G.K (tLc wi g tt te (own.map (·.2)) σ H) (fun c d H' => W c d σ H') H μ (Rp G G.K) (mLc (own.map (·.2)) mi mg mt me l s)) ∧
    (∀ (σ : L2.St) (H : Hp) (μ : Mu) (l : Loc) (s : Sto), RL G G.K H μ σ l → RS G G.K H μ s → okP G G.K (tLc wi g tt te (own.map (·.2)) σ H) (fun c d H' => W c d σ H') H μ (Rp G G.K) (mLcN (own.map (·.2)) mi mg mt me l s)) := by
  have kg := (hg X.s_0 X.H_0 0 [] []).sim
  have kt := (ht X.s_0 X.H_0 0 [] []).sim
  have ke := (he X.s_0 X.H_0 0 [] []).sim
  refine ⟨fun σ H μ l s hl hs => ?_, fun σ H μ l s hl hs => ?_⟩
  · refine lc_run hk (hi.sim σ H μ l s hl hs) kg kt ke hl (fun ys s2 => if ys.length ≤ 100000 then .ok (.lst ys) s2 else .stuck) (fun H' μ' s' Da ys us d s2 e g r hD h0 p => ?_) (fun ys s' c s2 e => ?_) (fun ys s' d s2 e => ?_)
    · split at e
      · cases e; exact ⟨μ', lc_frozen hs g r hD h0 p⟩
      · cases e
    · split at e <;> cases e
    · split at e
      · assumption
      · cases e
  · refine lc_run hk (hi.sim σ H μ l s hl hs) kg kt ke hl (fun ys s2 => if ys.length ≤ 100000 then .ok (.ref s2.length) (s2 ++ [.lst ys]) else .stuck) (fun H' μ' s' Da ys us d s2 e g r hD h0 p => ?_) (fun ys s' c s2 e => ?_) (fun ys s' d s2 e => ?_)
    · split at e
      · cases e; exact ⟨_, lc_tracked hs g r hD h0 p⟩
      · cases e
    · split at e <;> cases e
    · split at e
      · assumption
      · cases e
theorem je_lc (hc : X.calm = true) (hN : X.N.Nodup) (hi : JI X G W tg iter wi mi) (ok : BlkOk X.N X.env.scope scope own) (hk : Keeps g (own.map (·.2)))
    (hg : ∀ (s : Shared) (H : Hp) (C : Addr) (cl : List (Str × Addr)) (fp : List Addr), JG (X.blk s H scope (compEnvC scope cl C X.env) fp) G W0 tg g mg) (ht : ∀ (s : Shared) (H : Hp) (C : Addr) (cl : List (Str × Addr)) (fp : List Addr), JTs (X.blk s H scope (compEnvC scope cl C X.env) fp) G W0 ifs tt mt)
    (he : ∀ (s : Shared) (H : Hp) (C : Addr) (cl : List (Str × Addr)) (fp : List Addr), JE (X.blk s H scope (compEnvC scope cl C X.env) fp) G W0 elt te me) (hs : ∀ x, foldedSetIterable iter X.env x = pure x := by intro _; rfl) :
    JE X G W (.ListComp elt [⟨tg, iter, ifs, 0⟩] scope pos) (tLc wi g tt te (own.map (·.2))) (mLc (own.map (·.2)) mi mg mt me) :=
  ⟨fun tk => pe_lc hc hN (hi.pe tk) ok (fun s H C cl fp => (hg s H C cl fp).pe takes0) (fun s H C cl fp => (ht s H C cl fp).pe takes0) (fun s H C cl fp => (he s H C cl fp).pe takes0) hs, (lc_sim hi hk hg ht he).1⟩
theorem je_lcN (hc : X.calm = true) (hN : X.N.Nodup) (hi : JI X G W tg iter wi mi) (ok : BlkOk X.N X.env.scope scope own) (hk : Keeps g (own.map (·.2)))
    (hg : ∀ (s : Shared) (H : Hp) (C : Addr) (cl : List (Str × Addr)) (fp : List Addr), JG (X.blk s H scope (compEnvC scope cl C X.env) fp) G W0 tg g mg) (ht : ∀ (s : Shared) (H : Hp) (C : Addr) (cl : List (Str × Addr)) (fp : List Addr), JTs (X.blk s H scope (compEnvC scope cl C X.env) fp) G W0 ifs tt mt)
    (he : ∀ (s : Shared) (H : Hp) (C : Addr) (cl : List (Str × Addr)) (fp : List Addr), JE (X.blk s H scope (compEnvC scope cl C X.env) fp) G W0 elt te me) (hs : ∀ x, foldedSetIterable iter X.env x = pure x := by intro _; rfl) :
    JE X G W (.ListComp elt [⟨tg, iter, ifs, 0⟩] scope pos) (tLc wi g tt te (own.map (·.2))) (mLcN (own.map (·.2)) mi mg mt me) :=
  ⟨fun tk => pe_lc hc hN (hi.pe tk) ok (fun s H C cl fp => (hg s H C cl fp).pe takes0) (fun s H C cl fp => (ht s H C cl fp).pe takes0) (fun s H C cl fp => (he s H C cl fp).pe takes0) hs, (lc_sim hi hk hg ht he).2⟩
end

/-! ### statements -/
structure JS (X : Cx) (G : Gm) (W : WX) (st : Stmt) (t : TS) (m : MS) : Prop where
  pe : Takes X W → PassesOwn (model X.prog X.w) X.A X.env X.xe → PS X st t
  sim : ∀ (σ : L2.St) (H : Hp) (μ : Mu) (l : Loc) (s : Sto), RL G G.K H μ σ l → RS G G.K H μ s → okS G G.K t W σ H μ (m l s)
structure JSs (X : Cx) (G : Gm) (W : WX) (st : List Stmt) (t : TS) (m : MS) : Prop where
  pe : Takes X W → PassesOwn (model X.prog X.w) X.A X.env X.xe → PSs X st t
  sim : ∀ (σ : L2.St) (H : Hp) (μ : Mu) (l : Loc) (s : Sto), RL G G.K H μ σ l → RS G G.K H μ s → okS G G.K t W σ H μ (m l s)
def mNext : MS := fun l s => .nx l s
def mSeq (m n : MS) : MS := fun l s => match m l s with
  | .nx l1 s1 => n l1 s1
  | o => o
section
variable {st : Stmt} {rest : List Stmt} {t u : TS} {m n : MS} {e : Expr} {te : TE} {me : ME} {pos : Pos}
theorem jss_nil : JSs X G W [] tNext mNext := ⟨fun _ _ => pss_nil, fun σ H μ l s hl hs D q => q σ H μ Grow.refl hl hs⟩
theorem jss_one (h : JS X G W st t m) : JSs X G W [st] t m := ⟨fun a b => pss_one (h.pe a b), h.sim⟩
theorem jss_cons (h1 : JS X G W st t m) (h2 : JSs X G W rest u n) : JSs X G W (st :: rest) (tSeq t u) (mSeq m n) := by
  refine ⟨fun a b => pss_cons (h1.pe a b) (h2.pe a b), fun σ H μ l s hl hs D q => ?_⟩
  refine h1.sim σ H μ l s hl hs { D with nx := u D } ?_
  unfold mSeq at q
  cases e : m l s with
  | nx l1 s1 =>
    rw [e] at q
    exact fun σ' H' μ' g rl rs => h2.sim σ' H' μ' l1 s1 rl rs D (q.up g)
  | rt d s1 => rw [e] at q; exact q
  | bk l1 s1 => rw [e] at q; exact q
  | ct l1 s1 => rw [e] at q; exact q
  | ex x l1 s1 => rw [e] at q; exact q
  | stuck => rw [e] at q; exact q
/-- locals behind, as an outcome -/
def toOut (l : Loc) : R Loc → Out
  | .ok l1 s1 => .nx l1 s1
  | .ex c s1 => .ex c l s1
  | .stuck => .stuck
theorem okS_of {T : (L2.St → Hp → Prop) → Prop} {t : TS} {σ : L2.St} {l : Loc} {r : R Loc} (ht : ∀ D : Ends, t D σ H = T D.nx) (hl : RL G K H μ σ l) (h : okP G K T (fun c d H' => W c d σ H') H μ (RL G K) r) : okS G K t W σ H μ (toOut l r) := by
  intro D q
  rw [ht]
  cases r with
  | ok l1 s1 => exact h _ fun σ' H' μ' g rs rl => q σ' H' μ' g rl rs
  | ex c s1 => exact h _ fun C d H' μ' g rs hc hf => q C d σ H' μ' g (hl.mono g) rs hc hf
  | stuck => exact q.elim
def mAsg (me : ME) (mg : MG) : MS := fun l s => toOut l ((me l s).bind fun d s1 => mg d l s1)
theorem js_asg {tg : Expr} {g : TG} {mg : MG} (he : JE X G W e te me) (hg : JG X G W tg g mg) (hs : swapsWithSole [tg] e pos.line X.env = pure false := by rfl) (hw : swappedStores [tg] e X.env = pure none := by rfl)
    (h1 : (assignEach [tg] X.env).map (·.2) = [assign tg X.env] := by rfl) : JS X G W (.Assign [tg] e pos) (tAsg te g) (mAsg me mg) :=
  ⟨fun a _ => ps_asg (he.pe a) (hg.pe a) hs hw h1, fun σ H μ l s hl hs => okS_of (T := fun Q => te σ H fun x H1 => g x σ H1 Q) (fun _ => rfl) hl
    ((he.sim σ H μ l s hl hs).bind fun x H1 μ1 d s1 g1 r1 p1 => hg.sim σ H1 μ1 l s1 x d (hl.mono g1) r1 p1)⟩
theorem js_set {i : Nat} {x : Str} {pos' : Pos} (hN : X.N.Nodup) (he : JE X G W e te me) (hi : X.N[i]? = some x := by rfl) (hx : L2.Loc X.env.scope x := by first | exact Or.inl rfl | exact Or.inr rfl) (hs : swapsWith e (some (.Name x pos')) pos.line X.env = pure false := by rfl) (hf : X.fn x = true ∨ X.env.scope.names.lookup x = some .local := by first | exact .inl rfl | exact .inr rfl | assumption) :
    JS X G W (.Assign [.Name x pos'] e pos) (tAsg te (gName i)) (mAsg me (mgName i)) :=
  ⟨fun a _ => ps_set hN hi hx (he.pe a) hs hf, fun σ H μ l s hl hs => okS_of (T := fun Q => te σ H fun x H1 => gName i x σ H1 Q) (fun _ => rfl) hl
    ((he.sim σ H μ l s hl hs).bind fun x H1 μ1 d s1 g1 r1 p1 => fun Q q => q _ H1 μ1 Grow.refl r1 ((hl.mono g1).set p1))⟩
/-- name = [..] -/
theorem js_setLc {i : Nat} {y : Str} {py : Pos} {elt tg iter : Expr} {ifs : List Expr} {scope : Scope} {own : List (Str × Nat)} {spos : Pos} {wi : TI} {g : TG} {tt : TT} {mi : MI} {mg : MG} {mt : MT} (hc : X.calm = true) (hN : X.N.Nodup) (hi : JI X G W tg iter wi mi) (ok : BlkOk X.N X.env.scope scope own) (hk : Keeps g (own.map (·.2)))
    (hg : ∀ (s : Shared) (H : Hp) (C : Addr) (cl : List (Str × Addr)) (fp : List Addr), JG (X.blk s H scope (compEnvC scope cl C X.env) fp) G W0 tg g mg) (ht : ∀ (s : Shared) (H : Hp) (C : Addr) (cl : List (Str × Addr)) (fp : List Addr), JTs (X.blk s H scope (compEnvC scope cl C X.env) fp) G W0 ifs tt mt)
    (he : ∀ (s : Shared) (H : Hp) (C : Addr) (cl : List (Str × Addr)) (fp : List Addr), JE (X.blk s H scope (compEnvC scope cl C X.env) fp) G W0 elt te me)
    (hy : X.N[i]? = some y := by rfl) (hyl : X.env.scope.names.lookup y = some .local := by rfl) (hsw : swapsWith (.ListComp elt [⟨tg, iter, ifs, 0⟩] scope pos) (some (.Name y py)) spos.line X.env = pure true := by exact sw_true rfl rfl rfl (by decide +kernel)) (hs : ∀ x, foldedSetIterable iter X.env x = pure x := by intro _; rfl) :
    JS X G W (.Assign [.Name y py] (.ListComp elt [⟨tg, iter, ifs, 0⟩] scope pos) spos) (tAsg (tLc wi g tt te (own.map (·.2))) (gName i)) (mAsg (mLc (own.map (·.2)) mi mg mt me) (mgName i)) :=
  ⟨fun tk _ => ps_setLc hc hN hy hyl hsw (hi.pe tk) ok (fun s H C cl fp => (hg s H C cl fp).pe takes0) (fun s H C cl fp => (ht s H C cl fp).pe takes0) (fun s H C cl fp => (he s H C cl fp).pe takes0) hs,
    fun σ H μ l s hl hs => okS_of (T := fun Q => tLc wi g tt te (own.map (·.2)) σ H fun x H1 => gName i x σ H1 Q) (fun _ => rfl) hl
    (okP.bind (u := fun x H1 Q => gName i x σ H1 Q) (f := fun d s1 => mgName i d l s1) (Rm := RL G G.K) ((lc_sim hi hk hg ht he).1 σ H μ l s hl hs) fun x H1 μ1 d s1 g1 r1 p1 => fun Q q => q _ H1 μ1 Grow.refl r1 ((hl.mono g1).set p1))⟩
theorem js_setLcN {i : Nat} {y : Str} {py : Pos} {elt tg iter : Expr} {ifs : List Expr} {scope : Scope} {own : List (Str × Nat)} {spos : Pos} {wi : TI} {g : TG} {tt : TT} {mi : MI} {mg : MG} {mt : MT} (hc : X.calm = true) (hN : X.N.Nodup) (hi : JI X G W tg iter wi mi) (ok : BlkOk X.N X.env.scope scope own) (hk : Keeps g (own.map (·.2)))
    (hg : ∀ (s : Shared) (H : Hp) (C : Addr) (cl : List (Str × Addr)) (fp : List Addr), JG (X.blk s H scope (compEnvC scope cl C X.env) fp) G W0 tg g mg) (ht : ∀ (s : Shared) (H : Hp) (C : Addr) (cl : List (Str × Addr)) (fp : List Addr), JTs (X.blk s H scope (compEnvC scope cl C X.env) fp) G W0 ifs tt mt)
    (he : ∀ (s : Shared) (H : Hp) (C : Addr) (cl : List (Str × Addr)) (fp : List Addr), JE (X.blk s H scope (compEnvC scope cl C X.env) fp) G W0 elt te me)
    (hy : X.N[i]? = some y := by rfl) (hyl : X.env.scope.names.lookup y = some .local := by rfl) (hsw : swapsWith (.ListComp elt [⟨tg, iter, ifs, 0⟩] scope pos) (some (.Name y py)) spos.line X.env = pure true := by exact sw_true rfl rfl rfl (by decide +kernel)) (hs : ∀ x, foldedSetIterable iter X.env x = pure x := by intro _; rfl) :
    JS X G W (.Assign [.Name y py] (.ListComp elt [⟨tg, iter, ifs, 0⟩] scope pos) spos) (tAsg (tLc wi g tt te (own.map (·.2))) (gName i)) (mAsg (mLcN (own.map (·.2)) mi mg mt me) (mgName i)) :=
  ⟨fun tk _ => ps_setLc hc hN hy hyl hsw (hi.pe tk) ok (fun s H C cl fp => (hg s H C cl fp).pe takes0) (fun s H C cl fp => (ht s H C cl fp).pe takes0) (fun s H C cl fp => (he s H C cl fp).pe takes0) hs,
    fun σ H μ l s hl hs => okS_of (T := fun Q => tLc wi g tt te (own.map (·.2)) σ H fun x H1 => gName i x σ H1 Q) (fun _ => rfl) hl
    (okP.bind (u := fun x H1 Q => gName i x σ H1 Q) (f := fun d s1 => mgName i d l s1) (Rm := RL G G.K) ((lc_sim hi hk hg ht he).2 σ H μ l s hl hs) fun x H1 μ1 d s1 g1 r1 p1 => fun Q q => q _ H1 μ1 Grow.refl r1 ((hl.mono g1).set p1))⟩
/-- a, b = x, y -/
def mPar (i j : Nat) (ma : MA) : MS := fun l s => toOut l ((ma l s).bind fun ds s1 => match ds with
  | [d, e] => .ok ((l.set i (some d)).set j (some e)) s1
  | _ => .stuck)
theorem js_par {i j : Nat} {x y : Str} {a b : Expr} {ta : TA} {ma : MA} {px py pt : Pos} {kt k2 pt2} (hc : X.calm = true) (hN : X.N.Nodup) (ha : JA X G W [a, b] ta ma) (hi : X.N[i]? = some x := by rfl) (hj : X.N[j]? = some y := by rfl) (hij : i ≠ j := by decide)
    (hx : X.env.scope.names.lookup x = some .local := by rfl) (hy : X.env.scope.names.lookup y = some .local := by rfl)
    (hw : swappedStores [.Tuple [.Name x px, .Name y py] kt pt] (.Tuple [a, b] k2 pt2) X.env = pure (some [x, y]) := by rfl)
    (hs : swapsWithSole [.Tuple [.Name x px, .Name y py] kt pt] (.Tuple [a, b] k2 pt2) pos.line X.env = pure false := by rfl) :
    JS X G W (.Assign [.Tuple [.Name x px, .Name y py] kt pt] (.Tuple [a, b] k2 pt2) pos) (tPar i j ta) (mPar i j ma) := by
  refine ⟨fun tk _ => ps_par hc hN hi hj hij hx hy (ha.pe tk) hw hs, fun σ H μ l s hl hs => ?_⟩
  refine okS_of (T := fun Q => ta σ H fun vs H1 => ∃ v w, vs = [v, w] ∧ Q ((σ.set i (some v)).set j (some w)) H1) (fun _ => rfl) hl ((ha.sim σ H μ l s hl hs).bind fun xs H1 μ1 ds s1 g1 r1 p1 => ?_)
  split
  · obtain ⟨v, u, rfl, p0, p2⟩ := p1.two
    exact fun Q q => ⟨v, u, rfl, q _ H1 μ1 Grow.refl r1 (((hl.mono g1).set p0).set p2)⟩
  · trivial
def mPar3 (i j n : Nat) (ma : MA) : MS := fun l s => toOut l ((ma l s).bind fun ds s1 => match ds with
  | [d, e, f] => .ok (((l.set i (some d)).set j (some e)).set n (some f)) s1
  | _ => .stuck)
theorem RpA.three {vs : List V} {d e f : D} (p : RpA G K H μ vs [d, e, f]) : ∃ v u w, vs = [v, u, w] ∧ Rp G K H μ v d ∧ Rp G K H μ u e ∧ Rp G K H μ w f := by
  cases p with | cons a b => cases b with | cons c b => cases b with | cons d b => cases b; exact ⟨_, _, _, rfl, a, c, d⟩
theorem js_par3 {i j n : Nat} {x y z : Str} {a b c : Expr} {ta : TA} {ma : MA} {px py pz pt : Pos} {kt k2 pt2} (hc : X.calm = true) (hN : X.N.Nodup) (ha : JA X G W [a, b, c] ta ma) (hi : X.N[i]? = some x := by rfl) (hj : X.N[j]? = some y := by rfl) (hl : X.N[n]? = some z := by rfl) (hij : i ≠ j := by decide) (hil : i ≠ n := by decide) (hjl : j ≠ n := by decide)
    (hx : X.env.scope.names.lookup x = some .local := by rfl) (hy : X.env.scope.names.lookup y = some .local := by rfl) (hz : X.env.scope.names.lookup z = some .local := by rfl)
    (hw : swappedStores [.Tuple [.Name x px, .Name y py, .Name z pz] kt pt] (.Tuple [a, b, c] k2 pt2) X.env = pure (some [x, y, z]) := by rfl)
    (hs : swapsWithSole [.Tuple [.Name x px, .Name y py, .Name z pz] kt pt] (.Tuple [a, b, c] k2 pt2) pos.line X.env = pure false := by rfl) :
    JS X G W (.Assign [.Tuple [.Name x px, .Name y py, .Name z pz] kt pt] (.Tuple [a, b, c] k2 pt2) pos) (tPar3 i j n ta) (mPar3 i j n ma) := by
  refine ⟨fun tk _ => ps_par3 hc hN hi hj hl hij hil hjl hx hy hz (ha.pe tk) hw hs, fun σ H μ l s hl hs => ?_⟩
  refine okS_of (T := fun Q => ta σ H fun vs H1 => ∃ u v w, vs = [u, v, w] ∧ Q (((σ.set i (some u)).set j (some v)).set n (some w)) H1) (fun _ => rfl) hl ((ha.sim σ H μ l s hl hs).bind fun xs H1 μ1 ds s1 g1 r1 p1 => ?_)
  split
  · obtain ⟨v, u, w, rfl, p0, p2, p3⟩ := p1.three
    exact fun Q q => ⟨v, u, w, rfl, q _ H1 μ1 Grow.refl r1 ((((hl.mono g1).set p0).set p2).set p3)⟩
  · trivial
/-- x op= e -/
def mAug (i : Nat) (f : D → D → Sto → R D) (me : ME) : MS := fun l s => toOut l (match l[i]? with
  | some (some d) => (me l s).bind fun e s1 => (f d e s1).bind fun z s2 => .ok (l.set i (some z)) s2
  | _ => .stuck)
theorem js_aug {i : Nat} {x : Str} {op : Operator} {r : R2} {f : D → D → Sto → R D} {pos' : Pos} (hN : X.N.Nodup) (ho : OpR X (inplaceOp op) r) (hsim : SimR G G.K r f) (he : JE X G W e te me) (hi : X.N[i]? = some x := by rfl) (hx : L2.Loc X.env.scope x := by first | exact Or.inl rfl | exact Or.inr rfl) (hf : X.fn x = true ∨ X.env.scope.names.lookup x = some .local := by first | exact .inl rfl | exact .inr rfl | assumption) :
    JS X G W (.AugAssign (.Name x pos') op e pos) (tAug i te r) (mAug i f me) := by
  refine ⟨fun tk _ => ps_aug hN hi hx (he.pe tk) ho hf, fun σ H μ l s hl hs => ?_⟩
  refine okS_of (T := fun Q => ∃ x, σ[i]? = some (some x) ∧ te σ H fun y H1 => r x y H1 fun z H2 => Q (σ.set i (some z)) H2) (fun _ => rfl) hl ?_
  cases e1 : l[i]? with
  | none => trivial
  | some o =>
    cases o with
    | none => trivial
    | some d =>
      obtain ⟨v, h1, h2⟩ := hl.2 i d e1
      have z : okP G G.K (fun Q : L2.St → Hp → Prop => te σ H fun y H1 => r v y H1 fun z H2 => Q (σ.set i (some z)) H2) (fun c d H' => W c d σ H') H μ (RL G G.K) ((me l s).bind fun e s1 => (f d e s1).bind fun z s2 => .ok (l.set i (some z)) s2) := by
        refine (he.sim σ H μ l s hl hs).bind (u := fun y H1 Q => r v y H1 fun z H2 => Q (σ.set i (some z)) H2) fun y H1 μ1 e s1 g1 r1 p1 => ?_
        refine (hsim H1 μ1 s1 v y d e _ r1 (h2.mono g1) p1).bind (u := fun z H2 Q => Q (σ.set i (some z)) H2) fun z H2 μ2 zd s2 g2 r2 p2 => ?_
        exact fun Q q => q _ H2 μ2 Grow.refl r2 (((hl.mono g1).mono g2).set p2)
      dsimp only
      generalize ((me l s).bind fun e s1 => (f d e s1).bind fun z s2 => .ok (l.set i (some z)) s2) = rr at z ⊢
      cases rr with
      | ok a s2 => exact fun Q q => ⟨v, h1, z Q q⟩
      | ex a s2 => exact fun Q q => ⟨v, h1, z Q q⟩
      | stuck => trivial
def mRet (me : ME) : MS := fun l s => match me l s with
  | .ok d s1 => .rt d s1
  | .ex c s1 => .ex c l s1
  | .stuck => .stuck
theorem js_ret (he : JE X G W e te me) : JS X G W (.Return (some e) pos) (tRet te) (mRet me) := by
  refine ⟨fun tk _ => ps_ret (he.pe tk), fun σ H μ l s hl hs D q => ?_⟩
  have z := he.sim σ H μ l s hl hs
  unfold mRet at q
  cases e : me l s with
  | ok d s1 => rw [e] at z q; exact z _ fun v H' μ' g r p => q v H' μ' g r p
  | ex c s1 => rw [e] at z q; exact z _ fun C d H' μ' g r hc hf => q C d σ H' μ' g (hl.mono g) r hc hf
  | stuck => rw [e] at q; exact q.elim
def mRetN : MS := fun _ s => .rt .non s
theorem js_retN : JS X G W (.Return none pos) tRetN mRetN := ⟨fun _ _ => ps_retN, fun σ H μ l s hl hs D q => q .non H μ Grow.refl hs .non⟩
theorem js_pass : JS X G W (.Pass pos) tNext mNext := ⟨fun _ _ => ps_pass, fun σ H μ l s hl hs D q => q σ H μ Grow.refl hl hs⟩
def mBrk : MS := fun l s => .bk l s
def mCnt : MS := fun l s => .ct l s
theorem js_brk : JS X G W (.Break pos) tBreak mBrk := ⟨fun _ _ => ps_break, fun σ H μ l s hl hs D q => q σ H μ Grow.refl hl hs⟩
theorem js_cnt : JS X G W (.Continue pos) tCont mCnt := ⟨fun _ _ => ps_continue, fun σ H μ l s hl hs D q => q σ H μ Grow.refl hl hs⟩
def mExpr (me : ME) : MS := fun l s => toOut l ((me l s).bind fun _ s1 => .ok l s1)
theorem js_expr (he : JE X G W e te me) (hs : swapsWith e none pos.line X.env = pure false := by rfl) : JS X G W (.Expr e pos) (tDrop te) (mExpr me) :=
  ⟨fun tk _ => ps_expr (he.pe tk) hs, fun σ H μ l s hl hs => okS_of (T := fun Q => te σ H fun _ H1 => Q σ H1) (fun _ => rfl) hl
    ((he.sim σ H μ l s hl hs).bind fun x H1 μ1 d s1 g1 r1 p1 => fun Q q => q σ H1 μ1 Grow.refl r1 (hl.mono g1))⟩
def mIfS (mc : MT) (m n : MS) : MS := fun l s => match mc l s with
  | .ok true s1 => m l s1
  | .ok false s1 => n l s1
  | .ex c s1 => .ex c l s1
  | .stuck => .stuck
theorem js_if {c : Expr} {a b : List Stmt} {tc : TT} {mc : MT} (hc : JT X G W c tc mc) (ha : JSs X G W a t m) (hb : JSs X G W b u n) : JS X G W (.If c a b pos) (tIfS tc t u) (mIfS mc m n) := by
  refine ⟨fun tk po => ps_if (hc.pe tk) (ha.pe tk po) (hb.pe tk po), fun σ H μ l s hl hs D q => ?_⟩
  have z := hc.sim σ H μ l s hl hs
  unfold mIfS at q
  cases e : mc l s with
  | ok b s1 =>
    rw [e] at z q
    refine z _ fun b' H' μ' g r hb' => ?_
    subst hb'
    cases b' with
    | true => rw [if_pos rfl]; exact ha.sim σ H' μ' l s1 (hl.mono g) r D (Post.up g q)
    | false => rw [if_neg Bool.false_ne_true]; exact hb.sim σ H' μ' l s1 (hl.mono g) r D (Post.up g q)
  | ex c s1 => rw [e] at z q; exact z _ fun C d H' μ' g r hc hf => q C d σ H' μ' g (hl.mono g) r hc hf
  | stuck => rw [e] at q; exact q.elim
end

/-! ### loops -/
def forL (mg : MG) (mb : MS) : List D → MS
  | [], l, s => .nx l s
  | d :: ds, l, s => match mg d l s with
    | .ok l1 s1 => match mb l1 s1 with
      | .nx l2 s2 => forL mg mb ds l2 s2
      | .ct l2 s2 => forL mg mb ds l2 s2
      | .bk l2 s2 => .nx l2 s2
      | .rt d s2 => .rt d s2
      | .ex c l2 s2 => .ex c l2 s2
      | .stuck => .stuck
    | .ex c s1 => .ex c l s1
    | .stuck => .stuck
def mFor (mi : MI) (mg : MG) (mb : MS) : MS := fun l s => match mi l s with
  | .ok ds s1 => forL mg mb ds l s1
  | .ex c s1 => .ex c l s1
  | .stuck => .stuck
theorem js_for {tg iter : Expr} {body : List Stmt} {wi : TI} {g : TG} {tb : TS} {mi : MI} {mg : MG} {mb : MS} {pos : Pos} (hc : X.calm = true) (hi : JI X G W tg iter wi mi) (hg : JG X G W tg g mg) (hb : JSs X G W body tb mb)
    (hs : ∀ x, foldedSetIterable iter X.env x = pure x := by intro _; rfl) : JS X G W (.For tg iter body [] pos) (tFor wi g tb) (mFor mi mg mb) := by
  refine ⟨fun tk po => ps_for po hc (hi.pe tk) (hg.pe tk) (hb.pe tk po) hs, fun σ H μ l s hl hs D q => ?_⟩
  have z := hi.sim σ H μ l s hl hs
  unfold mFor at q
  cases e : mi l s with
  | stuck => rw [e] at q; exact q.elim
  | ex c s1 => rw [e] at z q; exact z _ fun C d H' μ' g r hc hf => q C d σ H' μ' g (hl.mono g) r hc hf
  | ok ds s1 =>
    rw [e] at z q
    refine z _ fun J H1 μ1 g1 r1 ri => ?_
    refine ⟨fun i m σ' H' => ∃ (μ' : Mu) (l' : Loc) (s' : Sto), Grow H1 μ1 H' μ' ∧ RL G G.K H' μ' σ' l' ∧ RS G G.K H' μ' s' ∧ i + m = ds.length ∧ Post G G.K D W H' μ' (forL mg mb (ds.drop i) l' s'), ⟨ds.length, μ1, l, s1, Grow.refl, hl.mono g1, r1, by omega, Post.up g1 q⟩, fun i m σ' H' hW => ?_⟩
    obtain ⟨μ', l', s', g', rl', rs', him, hp⟩ := hW
    obtain ⟨rgo, rstop⟩ := ri H' μ' g'.mono s' rs' i
    by_cases hi2 : ds.length ≤ i
    · left
      rw [List.drop_of_length_le hi2] at hp
      exact ⟨rstop hi2, hp σ' H' μ' Grow.refl rl' rs'⟩
    · right
      have hlt : i < ds.length := by omega
      rw [List.drop_eq_getElem_cons hlt] at hp
      have hgo := rgo ds[i] (List.getElem?_eq_getElem hlt)
      refine ⟨hgo.1, fun σ5 H5 => ∃ (μ' : Mu) (l' : Loc) (s' : Sto), Grow H1 μ1 H5 μ' ∧ RL G G.K H5 μ' σ5 l' ∧ RS G G.K H5 μ' s' ∧ Post G G.K D W H5 μ' (forL mg mb (ds.drop (i + 1)) l' s'), fun σ5 H5 h5 => ?_, fun x H'' hy => ?_⟩
      · obtain ⟨a, b, c, f1, f2, f3, f4⟩ := h5
        exact ⟨m - 1, by omega, a, b, c, f1, f2, f3, by omega, f4⟩
      · obtain ⟨gy, ry, py⟩ := hgo.2 x H'' hy
        have zg := hg.sim σ' H'' μ' l' s' x ds[i] (rl'.mono gy) ry py
        simp only [forL] at hp
        cases e2 : mg ds[i] l' s' with
        | stuck => rw [e2] at hp; exact hp.elim
        | ex c s2 =>
          rw [e2] at zg hp
          exact zg _ fun C d H2 μ2 g2 r2 hc hf => hp C d σ' H2 μ2 (gy.trans g2) ((rl'.mono gy).mono g2) r2 hc hf
        | ok l2 s2 =>
          rw [e2] at zg hp
          refine zg _ fun σ2 H2 μ2 g2 r2 rl2 => ?_
          have gg : Grow H' μ' H2 μ2 := gy.trans g2
          refine hb.sim σ2 H2 μ2 l2 s2 rl2 r2 _ ?_
          dsimp only at hp
          cases e3 : mb l2 s2 with
          | nx l3 s3 =>
            rw [e3] at hp
            exact fun σ3 H3 μ3 g3 rl3 r3 => ⟨μ3, l3, s3, (g'.trans gg).trans g3, rl3, r3, Post.up (gg.trans g3) hp⟩
          | ct l3 s3 =>
            rw [e3] at hp
            exact fun σ3 H3 μ3 g3 rl3 r3 => ⟨μ3, l3, s3, (g'.trans gg).trans g3, rl3, r3, Post.up (gg.trans g3) hp⟩
          | bk l3 s3 =>
            rw [e3] at hp
            exact fun σ3 H3 μ3 g3 rl3 r3 => hp σ3 H3 μ3 (gg.trans g3) rl3 r3
          | rt d s3 =>
            rw [e3] at hp
            exact fun v H3 μ3 g3 r3 p3 => hp v H3 μ3 (gg.trans g3) r3 p3
          | ex c l3 s3 =>
            rw [e3] at hp
            exact fun C d σ3 H3 μ3 g3 rl3 r3 hc hf => hp C d σ3 H3 μ3 (gg.trans g3) rl3 r3 hc hf
          | stuck => rw [e3] at hp; exact hp.elim

/-- n turns at most -/
def whileN (mc : MT) (mb : MS) : Nat → Loc → Sto → Option Out
  | 0, _, _ => none
  | n + 1, l, s => match mc l s with
    | .ok true s1 => match mb l s1 with
      | .nx l2 s2 => whileN mc mb n l2 s2
      | .ct l2 s2 => whileN mc mb n l2 s2
      | .bk l2 s2 => some (.nx l2 s2)
      | .rt d s2 => some (.rt d s2)
      | .ex c l2 s2 => some (.ex c l2 s2)
      | .stuck => some .stuck
    | .ok false s1 => some (.nx l s1)
    | .ex c s1 => some (.ex c l s1)
    | .stuck => some .stuck
theorem whileN_mono {mc : MT} {mb : MS} : ∀ {n m : Nat} {l : Loc} {s : Sto} {o : Out}, whileN mc mb n l s = some o → n ≤ m → whileN mc mb m l s = some o
  | 0, _, _, _, _, h, _ => by cases h
  | n + 1, 0, _, _, _, _, h => absurd h (by omega)
  | n + 1, m + 1, l, s, o, h, hm => by
    unfold whileN at h ⊢
    cases e : mc l s with
    | ok b s1 =>
      cases b with
      | true =>
        simp only [e] at h ⊢
        cases e2 : mb l s1 with
        | nx l2 s2 => simp only [e2] at h ⊢; exact whileN_mono h (by omega)
        | ct l2 s2 => simp only [e2] at h ⊢; exact whileN_mono h (by omega)
        | bk l2 s2 => simp only [e2] at h ⊢; exact h
        | rt l2 s2 => simp only [e2] at h ⊢; exact h
        | ex c l2 s2 => simp only [e2] at h ⊢; exact h
        | stuck => simp only [e2] at h ⊢; exact h
      | false => simp only [e] at h ⊢; exact h
    | ex c s1 => simp only [e] at h ⊢; exact h
    | stuck => simp only [e] at h ⊢; exact h
open Classical in
noncomputable def mWhile (mc : MT) (mb : MS) : MS := fun l s => if h : ∃ n o, whileN mc mb n l s = some o then h.choose_spec.choose else .stuck
theorem mWhile_of {mc : MT} {mb : MS} {n : Nat} {l : Loc} {s : Sto} {o : Out} (h : whileN mc mb n l s = some o) : mWhile mc mb l s = o := by
  have hh : ∃ n o, whileN mc mb n l s = some o := ⟨n, o, h⟩
  unfold mWhile
  rw [dif_pos hh]
  have h2 := hh.choose_spec.choose_spec
  have h3 := whileN_mono h2 (Nat.le_max_left _ n)
  have h4 := whileN_mono h (Nat.le_max_right hh.choose n)
  rw [h3] at h4
  exact Option.some.inj h4
theorem mWhile_some {mc : MT} {mb : MS} {l : Loc} {s : Sto} (h : mWhile mc mb l s ≠ .stuck) : ∃ n, whileN mc mb n l s = some (mWhile mc mb l s) := by
  by_cases hh : ∃ n o, whileN mc mb n l s = some o
  · obtain ⟨n, o, e⟩ := hh
    exact ⟨n, by rw [e, mWhile_of e]⟩
  · exfalso
    apply h
    unfold mWhile
    rw [dif_neg hh]
/-- one turn -/
theorem mWhile_eq {mc : MT} {mb : MS} {l : Loc} {s : Sto} : mWhile mc mb l s = match mc l s with
    | .ok true s1 => (match mb l s1 with
      | .nx l2 s2 => mWhile mc mb l2 s2
      | .ct l2 s2 => mWhile mc mb l2 s2
      | .bk l2 s2 => .nx l2 s2
      | .rt d s2 => .rt d s2
      | .ex c l2 s2 => .ex c l2 s2
      | .stuck => .stuck)
    | .ok false s1 => .nx l s1
    | .ex c s1 => .ex c l s1
    | .stuck => .stuck := by
  have key : ∀ l2 s2, mWhile mc mb l2 s2 = .stuck ∨ ∃ n, whileN mc mb n l2 s2 = some (mWhile mc mb l2 s2) := fun l2 s2 => by
    by_cases hh : mWhile mc mb l2 s2 = .stuck
    · exact .inl hh
    · exact .inr (mWhile_some hh)
  have dead : ∀ l2 s2, (∀ n, whileN mc mb (n + 1) l s = whileN mc mb n l2 s2) → mWhile mc mb l s = mWhile mc mb l2 s2 := fun l2 s2 hn => by
    by_cases hh : ∃ n o, whileN mc mb n l2 s2 = some o
    · obtain ⟨n, o, e⟩ := hh
      rw [mWhile_of e, mWhile_of (n := n + 1) (by rw [hn]; exact e)]
    · have h1 : mWhile mc mb l2 s2 = .stuck := by unfold mWhile; rw [dif_neg hh]
      have h2 : ¬ ∃ n o, whileN mc mb n l s = some o := fun ⟨n, o, e⟩ => by
        cases n with
        | zero => cases e
        | succ n => exact hh ⟨n, o, by rw [← hn]; exact e⟩
      rw [h1]
      unfold mWhile
      rw [dif_neg h2]
  cases e : mc l s with
  | ok b s1 =>
    cases b with
    | true =>
      dsimp only
      cases e2 : mb l s1 with
      | nx l2 s2 => exact dead l2 s2 fun n => by simp only [whileN, e, e2]
      | ct l2 s2 => exact dead l2 s2 fun n => by simp only [whileN, e, e2]
      | bk l2 s2 => exact mWhile_of (n := 1) (by simp only [whileN, e, e2])
      | rt l2 s2 => exact mWhile_of (n := 1) (by simp only [whileN, e, e2])
      | ex c l2 s2 => exact mWhile_of (n := 1) (by simp only [whileN, e, e2])
      | stuck => exact mWhile_of (n := 1) (by simp only [whileN, e, e2])
    | false => exact mWhile_of (n := 1) (by simp only [whileN, e])
  | ex c s1 => exact mWhile_of (n := 1) (by simp only [whileN, e])
  | stuck => exact mWhile_of (n := 1) (by simp only [whileN, e])
theorem js_while {c : Expr} {body : List Stmt} {tc : TT} {tb : TS} {mc : MT} {mb : MS} {pos : Pos} (hc : JT X G W c tc mc) (hb : JSs X G W body tb mb) : JS X G W (.While c body [] pos) (tWhile tc tb) (mWhile mc mb) := by
  refine ⟨fun tk po => ps_while po (hc.pe tk) (hb.pe tk po), fun σ H μ l s hl hs D q => ?_⟩
  have hq : mWhile mc mb l s ≠ .stuck := fun z => by rw [z] at q; exact q.elim
  obtain ⟨n, hn⟩ := mWhile_some hq
  refine ⟨fun m σ' H' => ∃ (μ' : Mu) (l' : Loc) (s' : Sto) (o : Out), Grow H μ H' μ' ∧ RL G G.K H' μ' σ' l' ∧ RS G G.K H' μ' s' ∧ whileN mc mb m l' s' = some o ∧ Post G G.K D W H' μ' o, ⟨n, μ, l, s, _, Grow.refl, hl, hs, hn, q⟩, fun m σ' H' hW => ?_⟩
  obtain ⟨μ', l', s', o, g', rl', rs', hw, hp⟩ := hW
  cases m with
  | zero => cases hw
  | succ m =>
    have z := hc.sim σ' H' μ' l' s' rl' rs'
    simp only [whileN] at hw
    cases e : mc l' s' with
    | stuck => simp only [e, Option.some.injEq] at hw; subst hw; exact hp.elim
    | ex c s1 =>
      simp only [e, Option.some.injEq] at hw
      subst hw
      rw [e] at z
      exact z _ fun C d H2 μ2 g2 r2 hc hf => hp C d σ' H2 μ2 g2 (rl'.mono g2) r2 hc hf
    | ok b s1 =>
      rw [e] at z
      refine z _ fun b' H2 μ2 g2 r2 hb' => ?_
      subst hb'
      cases b' with
      | false =>
        rw [if_neg Bool.false_ne_true]
        simp only [e, Option.some.injEq] at hw
        subst hw
        exact hp σ' H2 μ2 g2 (rl'.mono g2) r2
      | true =>
        rw [if_pos rfl]
        simp only [e] at hw
        refine ⟨fun σ5 H5 => ∃ (μ' : Mu) (l' : Loc) (s' : Sto) (o : Out), Grow H μ H5 μ' ∧ RL G G.K H5 μ' σ5 l' ∧ RS G G.K H5 μ' s' ∧ whileN mc mb m l' s' = some o ∧ Post G G.K D W H5 μ' o, fun σ5 H5 h5 => ⟨m, by omega, h5⟩, ?_⟩
        refine hb.sim σ' H2 μ2 l' s1 (rl'.mono g2) r2 _ ?_
        cases e3 : mb l' s1 with
        | nx l3 s3 =>
          simp only [e3] at hw
          exact fun σ3 H3 μ3 g3 rl3 r3 => ⟨μ3, l3, s3, o, (g'.trans g2).trans g3, rl3, r3, hw, Post.up (g2.trans g3) hp⟩
        | ct l3 s3 =>
          simp only [e3] at hw
          exact fun σ3 H3 μ3 g3 rl3 r3 => ⟨μ3, l3, s3, o, (g'.trans g2).trans g3, rl3, r3, hw, Post.up (g2.trans g3) hp⟩
        | bk l3 s3 =>
          simp only [e3, Option.some.injEq] at hw
          subst hw
          exact fun σ3 H3 μ3 g3 rl3 r3 => hp σ3 H3 μ3 (g2.trans g3) rl3 r3
        | rt d s3 =>
          simp only [e3, Option.some.injEq] at hw
          subst hw
          exact fun v H3 μ3 g3 r3 p3 => hp v H3 μ3 (g2.trans g3) r3 p3
        | ex c l3 s3 =>
          simp only [e3, Option.some.injEq] at hw
          subst hw
          exact fun C d σ3 H3 μ3 g3 rl3 r3 hc hf => hp C d σ3 H3 μ3 (g2.trans g3) rl3 r3 hc hf
        | stuck => simp only [e3, Option.some.injEq] at hw; subst hw; exact hp.elim
end
end DL


namespace DL
open PySem PySem.Spec PyProof.Rows L2
section
variable {X : Cx} {G : Gm} {K : PySem.W.Frag} {H : Hp} {μ : Mu} {s : Sto} {W : WX} {k : Nat}

/-! ### raise -/
theorem pmk_own0 {C : Addr} {bmB : List Value} {B newId initId : String} {x : Str} {p pos : Pos} (F : ExcBaseFacts B newId initId bmB) (q : PySem.W.excIn X.K C bmB newId = true) (gC : X.mg x = some (.ref C)) (kC : PySem.W.keepIn X.K (.ref C) = true) (r : Raises X (.ref C)) (hg : Gl X x)
    (hdb : (x == ("__debug__" : Str)) = false := by decide) : PMk X (.Call (.Name x p) [] [] pos) (fun _ H Q => Q (.ref C) none H) := by
  intro pins s σ H Q I h
  refine wpAny_Call_Name_kw (ld_glob I hg gC ?_ hdb)
  refine PySem.W.callWith_K0 I.kIn kC ?_
  show wpAny _ _ (call (.ref C) []) _ _ _
  obtain ⟨bm, N, nm, qn, bs, hdct, sn, sub, ab, col, dd, k0, k1, k2, k3, k5, mN, hC, hN, hni, T⟩ := exc_obj I.kIn q
  refine wpAny_call_exc_subT F T hC hN hni (fun h' e hm => ?_) (by show 0 ≤ sizeLine; exact Nat.zero_le _)
  exact mk_of I hm r h (I.hok.gone hm.new)
abbrev veL : List Value := [.type "ValueError", .type "Exception", .type "BaseException", .type "object"]
/-- an exception class of the program's own, under ValueError, without __init__ -/
structure ClD (K : PySem.W.Frag) (mg : Str → Option Value) (G : Gm) (x : String) : Prop where
  ex : ∃ C : Addr, G.cl x = some C ∧ mg x = some (.ref C) ∧ PySem.W.excIn K C veL "ValueError.__new__" = true ∧ PySem.W.keepIn K (.ref C) = true ∧ PySem.W.subIn K (.ref C) (.type "BaseException") = some true ∧ PySem.W.typeIn K (.ref C) = some (.type "type")
def mRaise (x : String) : MS := fun l s => .ex ⟨x, none⟩ l s
theorem Gm.cA_eq {x : String} {C : Addr} (h : G.cl x = some C) : G.cA x = C := by unfold Gm.cA; rw [h]; rfl
theorem js_raise {x : String} {p pos pos' : Pos} (F : ClD X.K X.mg G x) (hc : X.calm = true) (hg : Gl X (x : Str) := by rfl) (hdb : ((x : Str) == ("__debug__" : Str)) = false := by decide) :
    JS X G W (.Raise (some (.Call (.Name x p) [] [] pos)) none pos') (fun _ σ H => W (.ref (G.cA x)) none σ H) (mRaise x) := by
  obtain ⟨C', h1, h2, h3, h4, h5, h6⟩ := F.ex
  rw [Gm.cA_eq h1]
  refine ⟨fun tk _ => ps_raise hc tk (pmk_own0 PySem.F.excBase_ValueError h3 h2 h4 (raises_own h5 h6) hg hdb), fun σ H μ l s hl hs D q => ?_⟩
  exact q _ none σ H μ Grow.refl hl hs h1 rfl

/-! ### try -/
def noExO : Out → Out
  | .ex _ _ _ => .stuck
  | o => o
def mTry (mb : MS) (hs : List (String × MS)) : MS := fun l s => match mb l s with
  | .ex c l1 s1 => match hs.lookup c.cls with
    | some ms => noExO (ms l1 s1)
    | none => .ex c l1 s1
  | o => o
/-- what the classes are among each other -/
def ExM (K : PySem.W.Frag) (G : Gm) : Prop := ∀ (a b : String) (Ca Cb : Addr), G.cl a = some Ca → G.cl b = some Cb → PySem.W.exmOne K (.ref Ca) (.ref Cb) = some (a == b)
inductive HsOk (X : Cx) (G : Gm) : List ExceptHandler → List (Value × (Addr → Value → Option Addr → TS)) → List (String × MS) → Prop
  | nil : HsOk X G [] [] []
  | cons {x : String} {ts : TS} {ms : MS} {b₀ : Stmt} {suite : List Stmt} {np pos' : Pos} {hds : List ExceptHandler} {l : List (Value × (Addr → Value → Option Addr → TS))} {hs : List (String × MS)} (F : ClD X.K X.mg G x) (hg : Gl X (x : Str)) (hdb : ((x : Str) == ("__debug__" : Str)) = false)
      (hsu : ∀ (a : Addr) (oe : Obj) (pn : List (Addr × Obj)), JSs (X.suite a ((a, oe) :: pn)) G W0 (b₀ :: suite) ts ms) (r : HsOk X G hds l hs) :
      HsOk X G (.ExceptHandler (some (.Name x np)) none (b₀ :: suite) pos' :: hds) ((.ref (G.cA x), fun _ _ _ => ts) :: l) ((x, ms) :: hs)
theorem HsOk.pe {hds : List ExceptHandler} {l : List (Value × (Addr → Value → Option Addr → TS))} {hs : List (String × MS)} (h : HsOk X G hds l hs) : HdsOk X hds l := by
  induction h with
  | nil => exact .nil
  | cons F hg hdb hsu r ih =>
    obtain ⟨C', h1, h2, h3, h4, h5, h6⟩ := F.ex
    rw [Gm.cA_eq h1]
    exact .cons ⟨hg, hdb, .inl h2⟩ (fun a oe cls d pn _ _ => (hsu a oe pn).pe takes0 PassesOwn.never) ih
theorem post_noEx {D : Ends} {W W' : WX} {o : Out} (h : Post G K D W H μ (noExO o)) : Post G K D W' H μ o := by
  cases o with
  | ex _ _ _ => exact h.elim
  | nx _ _ => exact h
  | rt _ _ => exact h
  | bk _ _ => exact h
  | ct _ _ => exact h
  | stuck => exact h
theorem HsOk.sim (em : ExM X.K G) {hds : List ExceptHandler} {l : List (Value × (Addr → Value → Option Addr → TS))} {hs : List (String × MS)} (h : HsOk X G hds l hs) {D : Ends} {W : WX} {c : Xn} {C : Addr} {d : Option Addr} {σ : L2.St} {lo : Loc} {s : Sto} (hc : G.cl c.cls = some C) (hl : RL G G.K H μ σ lo) (hr : RS G G.K H μ s) (hf : Fld G G.K H μ c d)
    (q : Post G G.K D W H μ (match hs.lookup c.cls with | some ms => noExO (ms lo s) | none => .ex c lo s)) : wMany X.K W D l (.ref C) d σ H := by
  induction h with
  | nil => exact q C d σ H μ Grow.refl hl hr hc hf
  | @cons x ts ms b₀ suite np pos' hds l hs F hg hdb hsu r ih =>
    obtain ⟨C', h1, h2, h3, h4, h5, h6⟩ := F.ex
    rw [Gm.cA_eq h1]
    refine ⟨_, em c.cls x C C' hc h1, fun hb a ha => ?_, fun hb => ih ?_⟩
    · rw [List.lookup_cons, hb] at q
      exact (hsu X.env.locals default []).sim σ H μ lo s hl hr D (post_noEx q)
    · rw [List.lookup_cons, hb] at q
      exact q
theorem js_try {body : List Stmt} {h₀ : ExceptHandler} {hds : List ExceptHandler} {l : List (Value × (Addr → Value → Option Addr → TS))} {hs : List (String × MS)} {pos : Pos} {tb : WX → TS} {mb : MS} (em : ExM X.K G) (hst : X.stack = X.env :: X.outer) (hfr : X.env.frame = some X.env.locals)
    (hb : ∀ (W : WX) (pn : List (Addr × Obj)) (xe : Value → Shared → Prop), JSs (X.tr pn xe) G W body (tb W) mb) (hh : HsOk X G (h₀ :: hds) l hs) : JS X G W (.Try body (h₀ :: hds) [] [] pos) (fun D σ H => tb (wMany X.K W D l) D σ H) (mTry mb hs) := by
  refine ⟨fun tk _ => ps_try_many hst hfr tk (fun W pn xe tk po => (hb W pn xe).pe tk po) hh.pe, fun σ H μ lo s hl hr D q => ?_⟩
  refine (hb (wMany X.K W D l) [] (fun _ _ => True)).sim σ H μ lo s hl hr D ?_
  unfold mTry at q
  cases e : mb lo s with
  | nx l1 s1 => rw [e] at q; exact q
  | rt d s1 => rw [e] at q; exact q
  | bk l1 s1 => rw [e] at q; exact q
  | ct l1 s1 => rw [e] at q; exact q
  | stuck => rw [e] at q; exact q
  | ex c l1 s1 =>
    rw [e] at q
    exact fun C d σ' H' μ' g rl rs hc hf => hh.sim em hc rl rs hf (Post.up g q)
end

/-! ### what a def hands back -/
def frzA (f : D → Option D) : List D → Option (List D)
  | [] => some []
  | x :: xs => match f x, frzA f xs with
    | some y, some ys => some (y :: ys)
    | _, _ => none
/-- the tracked objects from n on become frozen ones -/
def frz (s : Sto) (n : Nat) : Nat → D → Option D
  | 0, _ => none
  | k + 1, .tup xs => (frzA (frz s n k) xs).map .tup
  | k + 1, .lst xs => (frzA (frz s n k) xs).map .lst
  | _ + 1, .scr _ => none
  | k + 1, .ref m => if m < n then some (.ref m) else match s[m]? with
    | some (.lst xs) => (frzA (frz s n k) xs).map .lst
    | _ => none
  | _ + 1, d => some d
mutual
def clD (n : Nat) : D → Bool
  | .ref m => decide (m < n)
  | .tup xs => clA n xs
  | .lst xs => clA n xs
  | _ => true
def clA (n : Nat) : List D → Bool
  | [] => true
  | x :: xs => clD n x && clA n xs
end
def clO (n : Nat) : O → Bool
  | .lst xs => clA n xs
  | .dK kvs => clA n (kvs.map (·.2))
  | .dT kvs => clA n (kvs.map (·.2))
/-- back to n tracked objects -/
def backF (n : Nat) : R D → R D
  | .ok d s => if s.length = n then .ok d s else match frz s n 12 d with
    | some d' => if (s.take n).all (clO n) = true then .ok d' (s.take n) else .stuck
    | none => .stuck
  | .ex c s => if s.length = n then .ex c s else if (s.take n).all (clO n) = true ∧ c.fld.isNone = true then .ex c (s.take n) else .stuck
  | .stuck => .stuck
/-- the tracked objects stay -/
def backT (_ : Nat) (r : R D) : R D := r
section
variable {G : Gm} {K : PySem.W.Frag} {H H' : Hp} {μ μ' : Mu} {s : Sto}
abbrev Mu.cut (μ : Mu) (n : Nat) : Mu := ⟨μ.tr.take n, μ.rs⟩
theorem cut_sub {n : Nat} {a : Addr} (h : a ∈ μ.cut n) : a ∈ μ := by
  rcases h with h | h
  · exact .inl (List.mem_of_mem_take h)
  · exact .inr h
theorem cut_get {n m : Nat} (h : m < n) : (μ.cut n).tr[m]? = μ.tr[m]? := List.getElem?_take_of_lt h
mutual
theorem Rp.cut {n : Nat} : ∀ {v : V} {d : D}, Rp G K H μ v d → clD n d = true → Rp G K H (μ.cut n) v d
  | _, _, .non, _ => .non
  | _, _, .bl b, _ => .bl b
  | _, _, .int i, _ => .int i
  | _, _, .str x, _ => .str x
  | _, _, .tup h nn r, c => .tup h (fun z => nn (cut_sub z)) (RpA.cutA r (by simpa [clD] using c))
  | _, _, .tupK a b c e f r, cc => .tupK a b c e f (RpA.cutA r (by simpa [clD] using cc))
  | _, _, .lst h nn r, c => .lst h (fun z => nn (cut_sub z)) (RpA.cutA r (by simpa [clD] using c))
  | _, _, .scr h nn, _ => .scr h (fun z => nn (cut_sub z))
  | _, _, .scrK a b c d e f, _ => .scrK a b c d e f
  | _, _, .ref h, c => .ref (by rw [cut_get (by simpa [clD] using c)]; exact h)
  | _, _, .fn h, _ => .fn h
theorem RpA.cutA {n : Nat} : ∀ {vs : List V} {ds : List D}, RpA G K H μ vs ds → clA n ds = true → RpA G K H (μ.cut n) vs ds
  | _, _, .nil, _ => .nil
  | _, _, .cons a r, c => by
    simp only [clA, Bool.and_eq_true] at c
    exact .cons (Rp.cut a c.1) (RpA.cutA r c.2)
end
theorem KVp.cut {κ : Type} {n : Nat} : ∀ {vs : List (κ × V)} {ds : List (κ × D)}, KVp G K H μ vs ds → clA n (ds.map (·.2)) = true → KVp G K H (μ.cut n) vs ds
  | _, _, .nil, _ => .nil
  | _, _, .cons a r, c => by
    simp only [List.map_cons, clA, Bool.and_eq_true] at c
    exact .cons (a.cut c.1) (KVp.cut r c.2)
theorem RS.cut {n : Nat} (r : RS G K H μ s) (h : (s.take n).all (clO n) = true) : RS G K H (μ.cut n) (s.take n) := by
  refine ⟨by show (μ.tr.take n).length = _; rw [List.length_take, List.length_take, r.len], (List.take_sublist n μ.tr).nodup r.nd, fun m p o e1 e2 => ?_, fun a ha => ⟨(r.rk a ha).1, fun z => (r.rk a ha).2 (List.mem_of_mem_take z)⟩⟩
  have hm : m < n := by
    have := (List.getElem?_eq_some_iff.mp e1).1
    rw [List.length_take] at this
    omega
  rw [cut_get hm] at e1
  have hc : clO n o = true := List.all_eq_true.mp h o (List.mem_iff_getElem?.mpr ⟨m, e2⟩)
  rw [List.getElem?_take_of_lt hm] at e2
  have q := r.at_ m p o e1 e2
  cases o with
  | lst ds => obtain ⟨vs, a, b⟩ := q; exact ⟨vs, a, b.cutA hc⟩
  | dK ds => obtain ⟨vs, a, b⟩ := q; exact ⟨vs, a, b.cut hc⟩
  | dT ds => obtain ⟨vs, a, b⟩ := q; exact ⟨vs, a, b.cut hc⟩
theorem frzA_ok {f : D → Option D} {μ2 : Mu} (hf : ∀ {v : V} {d d' : D}, Rp G K H μ v d → f d = some d' → Rp G K H μ2 v d') : ∀ {vs : List V} {ds ds' : List D}, RpA G K H μ vs ds → frzA f ds = some ds' → RpA G K H μ2 vs ds'
  | _, _, _, .nil, h => by simp only [frzA, Option.some.injEq] at h; subst h; exact .nil
  | _, _, _, .cons (d := d) (ds := ds) a r, h => by
    simp only [frzA] at h
    cases e1 : f d with
    | none => rw [e1] at h; cases h
    | some y =>
      cases e2 : frzA f ds with
      | none => rw [e1, e2] at h; cases h
      | some ys =>
        rw [e1, e2] at h
        cases h
        exact .cons (hf a e1) (frzA_ok hf r e2)
theorem frz_ok {n : Nat} (r : RS G K H μ s) : ∀ {k : Nat} {v : V} {d d' : D}, Rp G K H μ v d → frz s n k d = some d' → Rp G K H (μ.cut n) v d'
  | 0, _, _, _, _, h => by cases h
  | k + 1, v, d, d', p, h => by
    cases p with
    | non => simp only [frz, Option.some.injEq] at h; subst h; exact .non
    | bl b => simp only [frz, Option.some.injEq] at h; subst h; exact .bl b
    | int b => simp only [frz, Option.some.injEq] at h; subst h; exact .int b
    | str b => simp only [frz, Option.some.injEq] at h; subst h; exact .str b
    | fn b => simp only [frz, Option.some.injEq] at h; subst h; exact .fn b
    | scr _ _ => simp [frz] at h
    | scrK _ _ _ _ _ _ => simp [frz] at h
    | tup h1 h2 h3 =>
      simp only [frz, Option.map_eq_some_iff] at h
      obtain ⟨ys, h, rfl⟩ := h
      exact .tup h1 (fun z => h2 (cut_sub z)) (frzA_ok (fun a b => frz_ok r a b) h3 h)
    | tupK a b c e f h3 =>
      simp only [frz, Option.map_eq_some_iff] at h
      obtain ⟨ys, h, rfl⟩ := h
      exact .tupK a b c e f (frzA_ok (fun a b => frz_ok r a b) h3 h)
    | lst h1 h2 h3 =>
      simp only [frz, Option.map_eq_some_iff] at h
      obtain ⟨ys, h, rfl⟩ := h
      exact .lst h1 (fun z => h2 (cut_sub z)) (frzA_ok (fun a b => frz_ok r a b) h3 h)
    | @ref m a ha =>
      simp only [frz] at h
      split at h
      · rename_i hm
        cases h
        exact .ref (by rw [cut_get hm]; exact ha)
      · rename_i hm
        cases e : s[m]? with
        | none => simp only [e] at h; cases h
        | some o =>
          cases o with
          | lst xs =>
            simp only [e, Option.map_eq_some_iff] at h
            obtain ⟨ys, h, rfl⟩ := h
            obtain ⟨vs, q1, q2⟩ := r.at_ m a _ ha e
            refine .lst q1 (fun z => ?_) (frzA_ok (fun a b => frz_ok r a b) q2 h)
            have hmem : a ∈ μ.tr := List.mem_iff_getElem?.mpr ⟨m, ha⟩
            rcases z with z | z
            · obtain ⟨j, hj⟩ := List.mem_iff_getElem?.mp z
              have hjn : j < n := by
                have := (List.getElem?_eq_some_iff.mp hj).1
                rw [List.length_take] at this
                omega
              rw [List.getElem?_take_of_lt hjn] at hj
              have := (List.getElem?_inj (List.getElem?_eq_some_iff.mp ha).1 r.nd).mp (ha.trans hj.symm)
              omega
            · exact (r.rk a z).2 hmem
          | dK _ => simp only [e] at h; cases h
          | dT _ => simp only [e] at h; cases h
theorem Grow.cut {n : Nat} (g : Grow H μ H' μ') (hn : μ.tr.length = n) : Grow H μ H' (μ'.cut n) := by
  refine ⟨g.keep, fun a ha => g.news a (List.mem_of_mem_take ha), fun m p e => ?_, g.rs, g.res⟩
  have hm : m < n := by rw [← hn]; exact (List.getElem?_eq_some_iff.mp e).1
  rw [cut_get hm]
  exact g.pre m p e
/-- a way to hand back -/
structure BackOk (back : Nat → R D → R D) : Prop where
  ok : ∀ {G : Gm} {K : PySem.W.Frag} {H H' : Hp} {μ μ' : Mu} {n : Nat} {s' s2 : Sto} {v : V} {d d2 : D}, μ.tr.length = n → back n (.ok d s') = .ok d2 s2 → Grow H μ H' μ' → RS G K H' μ' s' → Rp G K H' μ' v d → ∃ μ2, Grow H μ H' μ2 ∧ RS G K H' μ2 s2 ∧ Rp G K H' μ2 v d2
  ex : ∀ {G : Gm} {K : PySem.W.Frag} {H H' : Hp} {μ μ' : Mu} {n : Nat} {s' s2 : Sto} {c c2 : Xn} {dd : Option Addr}, μ.tr.length = n → back n (.ex c s') = .ex c2 s2 → Grow H μ H' μ' → RS G K H' μ' s' → Fld G K H' μ' c dd → c2 = c ∧ ∃ μ2, Grow H μ H' μ2 ∧ RS G K H' μ2 s2 ∧ Fld G K H' μ2 c dd
  okx : ∀ {n d s' c s2}, back n (.ok d s') ≠ .ex c s2
  exo : ∀ {n d s' c s2}, back n (.ex c s') ≠ .ok d s2
  st : ∀ {n}, back n .stuck = .stuck
theorem backT_ok : BackOk backT := by
  refine ⟨fun hn e g r p => ?_, fun hn e g r f => ?_, fun e => ?_, fun e => ?_, rfl⟩
  · cases e; exact ⟨_, g, r, p⟩
  · cases e; exact ⟨rfl, _, g, r, f⟩
  · cases e
  · cases e
theorem backF_ok : BackOk backF := by
  refine ⟨fun {G K H H' μ μ' n s' s2 v d d2} hn e g r p => ?_, fun {G K H H' μ μ' n s' s2 c c2 dd} hn e g r f => ?_, fun {n d s' c s2} e => ?_, fun {n d s' c s2} e => ?_, rfl⟩
  · simp only [backF] at e
    split at e
    · cases e; exact ⟨_, g, r, p⟩
    · cases e1 : frz s' n 12 d with
      | none => rw [e1] at e; cases e
      | some d' =>
        rw [e1] at e
        dsimp only at e
        split at e
        · rename_i hc
          cases e
          exact ⟨_, g.cut hn, r.cut hc, frz_ok r p e1⟩
        · cases e
  · simp only [backF] at e
    split at e
    · cases e; exact ⟨rfl, _, g, r, f⟩
    · split at e
      · rename_i hc
        cases e
        refine ⟨rfl, _, g.cut hn, r.cut hc.1, ?_⟩
        unfold Fld at f ⊢
        cases e2 : c.fld with
        | none => rw [e2] at f; exact f
        | some z => rw [e2] at hc; exact absurd hc.2 (by simp)
      · cases e
  · simp only [backF] at e
    split at e
    · cases e
    · cases e1 : frz s' n 12 d with
      | none => rw [e1] at e; cases e
      | some d' =>
        rw [e1] at e
        dsimp only at e
        split at e <;> cases e
  · simp only [backF] at e
    split at e
    · cases e
    · split at e <;> cases e
def outR : Out → R D
  | .nx _ s => .ok .non s
  | .rt d s => .ok d s
  | .ex c _ s => .ex c s
  | _ => .stuck
/-- a def as a function of data: np parameters, nn names -/
def mDef (back : Nat → R D → R D) (np nn : Nat) (m : MS) : MF := fun ds s => if ds.length = np then back s.length (outR (m (ds.map some ++ List.replicate (nn - np) none) s)) else .stuck
theorem start_rel {N : List Str} : ∀ {vs : List V} {ds : List D}, RpA G K H μ vs ds → RL G K H μ (L2.start N vs) (ds.map some ++ List.replicate (N.length - ds.length) none) := by
  intro vs ds p
  unfold L2.start
  refine ⟨by simp [p.length], fun i d e => ?_⟩
  by_cases hi : i < ds.length
  · rw [List.getElem?_append_left (by simpa using hi), List.getElem?_map] at e
    cases e1 : ds[i]? with
    | none => rw [e1] at e; cases e
    | some d' =>
      rw [e1] at e
      cases e
      obtain ⟨v, h1, h2⟩ := p.get e1
      refine ⟨v, ?_, h2⟩
      rw [List.getElem?_append_left (by rw [List.length_map, p.length]; exact hi), List.getElem?_map, h1]
      rfl
  · rw [List.getElem?_append_right (by simpa using hi), List.getElem?_replicate] at e
    split at e <;> cases e
/-- THE RULE for a def -/
theorem def_fn (hKG : K = G.K) {P : Program} {w : World} {mg : Str → Option Value} {base : Heap} {back : Nat → R D → R D} (hback : BackOk back) {x : String} {st : Stmt} {f : Addr} {fd : FuncData} {N ps : List Str} {k : Nat} {m : MS}
    (F : Fun K x x st f fd) (S : FnScope N ps (defScope st))
    (body : ∀ (cdv : Value) (A : Around) (outer : List Env) (s : Shared) (H : Hp) (E : XK), Room k (A.deeper (envOfC x (defScope st) s.heap.objs.size f cdv)) → ∀ W : WX, ∃ t, JSs (cxOf (L2.CX P w) P w K mg base N x (defScope st) f cdv A outer s H E) G W (defBody st) t m) :
    FnOk P w K mg base (L2.CX P w) (k + 1) f fd ps (spD G K ps.length (mDef back ps.length N.length m)) := by
  subst hKG
  refine F.okX S (fun vs H Q E h => h.1) (fun cdv A outer s H vs Q E hr h => ?_)
  obtain ⟨hlen, μ, ds, sto, pv, rs, q⟩ := h
  have hd : ds.length = ps.length := by rw [← pv.length]; exact hlen
  let W : WX := fun cls d _ H => E cls d H
  obtain ⟨t, B⟩ := body cdv A outer s H E hr W
  refine ⟨t, B.pe (takes_of rfl rfl rfl rfl) (passes_of rfl), ?_⟩
  have rl := start_rel (N := N) pv
  refine B.sim (L2.start N vs) H μ _ sto rl rs _ ?_
  rw [hd]
  unfold mDef at q
  rw [if_pos hd] at q
  generalize m (ds.map some ++ List.replicate (N.length - ps.length) none) sto = o at q ⊢
  cases o with
  | nx l1 s1 =>
    intro σ' H' μ' g rl' rs'
    show Q .non H'
    simp only [outR] at q
    cases e : back sto.length (.ok .non s1) with
    | ok d2 s2 =>
      rw [e] at q
      obtain ⟨μ2, k1, k2, k3⟩ := hback.ok rs.len e g rs' .non
      exact q _ H' μ2 k1 k2 k3
    | ex c s2 => exact absurd e hback.okx
    | stuck => rw [e] at q; exact q.elim
  | rt d s1 =>
    intro v H' μ' g rs' p
    show Q v H'
    simp only [outR] at q
    cases e : back sto.length (.ok d s1) with
    | ok d2 s2 =>
      rw [e] at q
      obtain ⟨μ2, k1, k2, k3⟩ := hback.ok rs.len e g rs' p
      exact q _ H' μ2 k1 k2 k3
    | ex c s2 => exact absurd e hback.okx
    | stuck => rw [e] at q; exact q.elim
  | bk l1 s1 => simp only [outR, hback.st] at q
  | ct l1 s1 => simp only [outR, hback.st] at q
  | stuck => simp only [outR, hback.st] at q
  | ex c l1 s1 =>
    intro C dd σ' H' μ' g rl' rs' hc hf
    show E (.ref C) dd H'
    simp only [outR] at q
    cases e : back sto.length (.ex c s1) with
    | ok d2 s2 => exact absurd e hback.exo
    | ex c2 s2 =>
      rw [e] at q
      obtain ⟨rfl, μ2, k1, k2, k3⟩ := hback.ex rs.len e g rs' hf
      exact q C dd H' μ2 k1 k2 hc k3
    | stuck => rw [e] at q; exact q.elim
theorem def_ok (hKG : K = G.K) {P : Program} {w : World} {mg : Str → Option Value} {base : Heap} {back : Nat → R D → R D} (hback : BackOk back) {x : String} {st : Stmt} {f : Addr} {fd : FuncData} {N ps : List Str} {k : Nat} {m : MS}
    (F : Fun K x x st f fd) (S : FnScope N ps (defScope st)) (hb : Binds K fd ps []) (hg : mg x = some (.ref f)) (hG : G.fn x = some f)
    (body : ∀ (cdv : Value) (A : Around) (outer : List Env) (s : Shared) (H : Hp) (E : XK), Room k (A.deeper (envOfC x (defScope st) s.heap.objs.size f cdv)) → ∀ W : WX, ∃ t, JSs (cxOf (L2.CX P w) P w K mg base N x (defScope st) f cdv A outer s H E) G W (defBody st) t m) :
    FnD P w K mg base G (k + 1) x ps.length (mDef back ps.length N.length m) := ⟨f, fd, ps, def_fn hKG hback F S body, hg, hG, F.kp, hb⟩
/-- a def of the text -/
structure FnE (K : PySem.W.Frag) (mg : Str → Option Value) (G : Gm) (x : String) (st : Stmt) : Prop where
  ex : ∃ (f : Addr) (fd : FuncData), Fun K x x st f fd ∧ mg x = some (.ref f) ∧ G.fn x = some f
theorem def_e (hKG : K = G.K) {P : Program} {w : World} {mg : Str → Option Value} {base : Heap} {back : Nat → R D → R D} (hback : BackOk back) {x : String} {st : Stmt} {N ps : List Str} {k : Nat} {m : MS}
    (F : FnE K mg G x st) (S : FnScope N ps (defScope st))
    (hbi : ∀ (kV doc pm : Value) (an : Option Addr) (cdv ct : Value) (us : List Value), us.length = ps.length → bindArgs (PySem.W.fnOf x x (defArgs st) (defBody st) (defScope st) .none kV doc pm an cdv ct) ⟨us, []⟩ = pure (ps.zip us))
    (body : ∀ (f : Addr) (cdv : Value) (A : Around) (outer : List Env) (s : Shared) (H : Hp) (E : XK), Room k (A.deeper (envOfC x (defScope st) s.heap.objs.size f cdv)) → ∀ W : WX, ∃ t, JSs (cxOf (L2.CX P w) P w K mg base N x (defScope st) f cdv A outer s H E) G W (defBody st) t m) :
    FnD P w K mg base G (k + 1) x ps.length (mDef back ps.length N.length m) := by
  obtain ⟨f, fd, F1, h1, h2⟩ := F.ex
  exact def_ok hKG hback F1 S (F1.binds hbi) h1 h2 (fun cdv A outer s H E hr W => body f cdv A outer s H E hr W)
/-- the law's def at its script -/
def spAny (K : PySem.W.Frag) : Sp := fun vs H Q _ => ∃ (a : Addr) (ns : List Int), vs = [.ref a] ∧ SqL K H a (ns.map V.int) ∧ Only H ∧ ns.length ≤ 63 ∧ ∀ H', Q (.bl true) H'
theorem law_sp {f : MF} (h : ∀ ns : List Int, ns.length ≤ 63 → f [.scr ns] [] = .ok (.bl true) []) (vs : List V) (H : Hp) (Q : VK) (E : XK) (q : spAny K vs H Q E) : spD G K 1 f vs H Q E := by
  obtain ⟨a, ns, rfl, hS, ho, hl, q⟩ := q
  have p : Rp G K H ⟨[], []⟩ (.ref a) (.scr ns) := by
    rcases hS with (h1 | ⟨o, h1⟩) | ⟨o, its, n, h1, h2, h3, h4, h5, h6⟩
    · rcases ho a with z | ⟨o, xs, z⟩
      · rw [z] at h1; cases h1
      · rw [z] at h1; cases h1
    · exact .scr h1 (fun z => by rcases z with z | z <;> cases z)
    · exact .scrK h1 h2 h3 h4 h5 h6
  refine ⟨rfl, ⟨[], []⟩, [.scr ns], [], .cons p .nil, ⟨rfl, List.nodup_nil, fun n p o e => by simp at e, fun a ha => by cases ha⟩, ?_⟩
  rw [h ns hl]
  intro v H' μ' g r p
  cases p
  exact q _
theorem cx_none {P : Program} {w : World} (H : Hp) (s : Shared) (e : Value) (s' : Shared) (h : L2.CX P w [] H s (fun _ _ _ => False) e s') : False := by
  obtain ⟨_, _, _, _, _, _, _, _, _, _, _, _, z⟩ := h
  exact z
theorem exm_of {K : PySem.W.Frag} {a : Value} {C : Addr} {b : Bool} (hb : PySem.W.subIn K (.ref C) (.type "BaseException") = some true) (hi : PySem.W.isClsIn K C = true) (ht : PySem.W.typeIn K (.ref C) = some (.type "type")) (hs : PySem.W.subIn K a (.ref C) = some b) : PySem.W.exmOne K a (.ref C) = some b := by
  unfold PySem.W.exmOne
  rw [if_pos (by rw [hb]; rfl)]
  unfold PySem.W.kitCls
  have hi2 : (PySem.W.clsIn K C).isSome = true := hi
  dsimp only
  rw [hi2, ht]
  have e : (some (Value.type "type") == some (Value.type "type")) = true := by simp
  rw [e, if_pos (by rfl)]
  exact hs
theorem mem_lk : ∀ {cs : List (String × Addr)} {a : String} {C : Addr}, cs.lookup a = some C → (a, C) ∈ cs
  | [], _, _, h => by simp at h
  | (b, d) :: cs, a, C, h => by
    rw [List.lookup_cons] at h
    split at h
    · rename_i e
      have e := eq_of_beq e
      cases h
      subst e
      exact List.mem_cons_self
    · exact List.mem_cons_of_mem _ (mem_lk h)
theorem exm_mk {K : PySem.W.Frag} {cs : List (String × Addr)} (h : ∀ p ∈ cs, ∀ q ∈ cs, PySem.W.exmOne K (.ref p.2) (.ref q.2) = some (p.1 == q.1)) : ∀ (a b : String) (Ca Cb : Addr), cs.lookup a = some Ca → cs.lookup b = some Cb → PySem.W.exmOne K (.ref Ca) (.ref Cb) = some (a == b) :=
  fun a b Ca Cb ha hb => h (a, Ca) (mem_lk ha) (b, Cb) (mem_lk hb)
end
end DL


namespace DL
open PySem PySem.Spec PyProof.Rows L2

/-! ### plain laws of the layer's functions -/
theorem shaped_int (i : Int) : SeqAt.shaped (.int i) = true := by simp [SeqAt.shaped, PyData.canLay0, PyData.depth]
theorem neD_int (a b : Int) (s : Sto) : neD (.int a) (.int b) s = .ok (.bl (!(a == b))) s := by
  simp [neD, eqB, toPyR, toPy, shaped_int, PyData.eqv]
theorem eqD_int (a b : Int) (s : Sto) : eqD (.int a) (.int b) s = .ok (.bl (a == b)) s := by
  simp [eqD, eqB, toPyR, toPy, shaped_int, PyData.eqv]
theorem fmod_natAbs (a b : Int) (hb : b ≠ 0) : (a.fmod b).natAbs < b.natAbs := by
  rcases Int.lt_or_lt_of_ne hb with h | h
  · have e : a.fmod b = -((-a).fmod (-b)) := by
      rw [Int.neg_fmod_neg, Int.neg_neg]
    have h1 : (0 : Int) < -b := by omega
    have h2 := Int.fmod_lt_of_pos (-a) h1
    have h3 := Int.fmod_nonneg_of_pos (-a) h1
    omega
  · have h2 := Int.fmod_lt_of_pos a h
    have h3 := Int.fmod_nonneg_of_pos a h
    omega
theorem gcd_fmod (a b : Int) : Int.gcd b (a.fmod b) = Int.gcd a b := by
  have e : a.fmod b = a - b * (a.fdiv b) := by
    have := Int.fmod_add_mul_fdiv a b
    omega
  rw [e, Int.gcd_comm a b]
  have h := @Int.gcd_sub_mul_left_right b a (a.fdiv b)
  rw [Int.mul_comm] at *
  first | exact h | (rw [Int.mul_comm]; exact h) | (rw [Int.mul_comm] at h; exact h)
/-- the while of Euclid, at two places -/
theorem euclid_while {i j : Nat} (hij : i ≠ j) : ∀ (n : Nat) (a b : Int) (l : Loc) (s : Sto), b.natAbs ≤ n → l[i]? = some (some (.int a)) → l[j]? = some (some (.int b)) →
    ∃ g : Int, g.natAbs = Int.gcd a b ∧ (0 ≤ a → 0 ≤ b → 0 ≤ g) ∧ mWhile (mTest (mOp neD (mVar j) (mC (.int 0)))) (mPar i j (mCons (mVar j) (mCons (mOp modD (mVar i) (mVar j)) mNil))) l s = .nx ((l.set i (some (.int g))).set j (some (.int 0))) s := by
  intro n
  induction n with
  | zero =>
    intro a b l s hn hi hj
    have hb : b = 0 := by omega
    subst hb
    refine ⟨a, by simp, fun h _ => h, ?_⟩
    rw [mWhile_eq]
    simp only [mTest, mOp, mVar, hj, mC, R.bind_ok, neD_int]
    have e1 : l.set i (some (.int a)) = l := by
      apply List.ext_getElem?
      intro k
      by_cases h : i = k
      · subst h
        rw [List.getElem?_set_self (List.getElem?_eq_some_iff.mp hi).1, hi]
      · rw [List.getElem?_set_ne h]
    have e2 : l.set j (some (.int 0)) = l := by
      apply List.ext_getElem?
      intro k
      by_cases h : j = k
      · subst h
        rw [List.getElem?_set_self (List.getElem?_eq_some_iff.mp hj).1, hj]
      · rw [List.getElem?_set_ne h]
    rw [e1, e2]
    rfl
  | succ n ih =>
    intro a b l s hn hi hj
    by_cases hb : b = 0
    · obtain ⟨g, h1, h2, h3⟩ := ih a b l s (by omega) hi hj
      exact ⟨g, h1, h2, h3⟩
    · have hlt := fmod_natAbs a b hb
      have hli : i < l.length := (List.getElem?_eq_some_iff.mp hi).1
      have hlj : j < l.length := (List.getElem?_eq_some_iff.mp hj).1
      obtain ⟨g, h1, h2, h3⟩ := ih b (a.fmod b) ((l.set i (some (.int b))).set j (some (.int (a.fmod b)))) s (by omega)
        (by rw [List.getElem?_set_ne (Ne.symm hij), List.getElem?_set_self hli]) (by rw [List.getElem?_set_self (by rw [List.length_set]; exact hlj)])
      refine ⟨g, by rw [h1, gcd_fmod], fun ha hb' => h2 hb' (Int.fmod_nonneg_of_pos a (by omega)), ?_⟩
      rw [mWhile_eq]
      have hne : (!(b == 0)) = true := by simp [hb]
      simp only [mTest, mOp, mVar, hj, mC, R.bind_ok, neD_int, hne]
      simp only [mPar, mCons, mVar, hj, hi, mOp, R.bind_ok, modD, if_neg hb, mNil, toOut]
      rw [h3]
      congr 1
      apply List.ext_getElem?
      intro k
      by_cases hk : j = k
      · subst hk
        rw [List.getElem?_set_self (by simpa using hlj), List.getElem?_set_self (by simpa using hlj)]
      · rw [List.getElem?_set_ne hk, List.getElem?_set_ne hk]
        by_cases hk2 : i = k
        · subst hk2
          rw [List.getElem?_set_self (by simpa using hli), List.getElem?_set_self (by simpa using hli)]
        · rw [List.getElem?_set_ne hk2, List.getElem?_set_ne hk2, List.getElem?_set_ne hk, List.getElem?_set_ne hk2]

/-! ### fractions -/
/-- a fraction as the program has it -/
def fr (x : Rat) : D := .tup [.int x.num, .int (x.den : Int)]
/-- of so many bits at most -/
def Sm (N : Nat) (x : Rat) : Prop := x.num.natAbs < 2 ^ N ∧ x.den < 2 ^ N
theorem log2_lt {n N : Nat} (h : n < 2 ^ N) (hN : 0 < N) : n.log2 < N := by
  rcases Nat.eq_zero_or_pos n with h0 | hp
  · subst h0; simpa using hN
  · exact (Nat.log2_lt (Nat.ne_of_gt hp)).mpr h
theorem mulOk_of {i j : Int} {a b : Nat} (ha : i.natAbs < 2 ^ a) (hb : j.natAbs < 2 ^ b) (h0 : 0 < a) (h1 : 0 < b) (h : a + b ≤ 1000000) : mulOk i j = true := by
  unfold mulOk
  have x := log2_lt ha h0
  have y := log2_lt hb h1
  simp only [Bool.or_eq_true, decide_eq_true_eq]
  right
  omega
theorem mulOk_l {i j : Int} (h : i.natAbs < 2 ^ 64) : mulOk i j = true := by
  unfold mulOk; simp only [Bool.or_eq_true, decide_eq_true_eq]; exact .inl (.inl h)
theorem mulOk_r {i j : Int} (h : j.natAbs < 2 ^ 64) : mulOk i j = true := by
  unfold mulOk; simp only [Bool.or_eq_true, decide_eq_true_eq]; exact .inl (.inr h)
theorem divOk_of {j : Int} {b : Nat} (h0 : j ≠ 0) (hb : j.natAbs < 2 ^ b) (h1 : 0 < b) (h : b ≤ 9000) : divOk j = true := by
  unfold divOk
  have y := log2_lt hb h1
  simp only [Bool.and_eq_true, decide_eq_true_eq]
  exact ⟨h0, by omega⟩
theorem natAbs_mul_lt {i j : Int} {a b : Nat} (ha : i.natAbs < 2 ^ a) (hb : j.natAbs < 2 ^ b) : (i * j).natAbs < 2 ^ (a + b) := by
  rw [Int.natAbs_mul, Nat.pow_add]
  exact Nat.mul_lt_mul'' ha hb
theorem natAbs_add_lt {i j : Int} {a : Nat} (ha : i.natAbs < 2 ^ a) (hb : j.natAbs < 2 ^ a) : (i + j).natAbs < 2 ^ (a + 1) := by
  have : 2 ^ (a + 1) = 2 ^ a + 2 ^ a := by rw [Nat.pow_succ]; omega
  omega
theorem natAbs_sub_lt {i j : Int} {a : Nat} (ha : i.natAbs < 2 ^ a) (hb : j.natAbs < 2 ^ a) : (i - j).natAbs < 2 ^ (a + 1) := by
  have : 2 ^ (a + 1) = 2 ^ a + 2 ^ a := by rw [Nat.pow_succ]; omega
  omega
/-- p divided by q, by the greatest common divisor -/
theorem divInt_num {p q : Int} (hq : 0 < q) : (Rat.divInt p q).num = p.fdiv (Int.gcd p q) := by
  rw [Rat.num_divInt, Int.sign_eq_one_of_pos hq, Int.one_mul, Int.gcd_comm, Int.fdiv_eq_ediv_of_nonneg _ (by omega)]
theorem divInt_den {p q : Int} (hq : 0 < q) : ((Rat.divInt p q).den : Int) = q.fdiv (Int.gcd p q) := by
  rw [Rat.den_divInt, if_neg (by omega), Int.gcd_comm, Int.fdiv_eq_ediv_of_nonneg _ (by omega)]
  have : ((q.natAbs : Nat) : Int) = q := by omega
  rw [Int.natCast_ediv, this]
theorem divInt_sm {p q : Int} {N : Nat} (hp : p.natAbs < 2 ^ N) (hq : q.natAbs < 2 ^ N) (h0 : q ≠ 0) : Sm N (Rat.divInt p q) := by
  have key : ∀ {p q : Int}, p.natAbs < 2 ^ N → q.natAbs < 2 ^ N → 0 < q → Sm N (Rat.divInt p q) := fun {p q} hp hq h0 => by
    have hg : 0 < Int.gcd p q := Int.gcd_pos_of_ne_zero_right _ (by omega)
    refine ⟨?_, ?_⟩
    · rw [divInt_num h0, Int.fdiv_eq_ediv_of_nonneg _ (by omega), Int.natAbs_ediv_of_dvd (Int.gcd_dvd_left ..)]
      exact Nat.lt_of_le_of_lt (Nat.div_le_self _ _) hp
    · have := divInt_den (p := p) h0
      rw [Int.fdiv_eq_ediv_of_nonneg _ (by omega)] at this
      have h2 : q / (Int.gcd p q : Int) ≤ q := Int.ediv_le_self _ (by omega)
      omega
  rcases Int.lt_or_lt_of_ne h0 with h | h
  · rw [← Rat.neg_divInt_neg]
    exact key (by rw [Int.natAbs_neg]; exact hp) (by rw [Int.natAbs_neg]; exact hq) (by omega)
  · exact key hp hq h
theorem Sm.mono {x : Rat} {M N : Nat} (h : Sm M x) (hm : M ≤ N) : Sm N x := ⟨Nat.lt_of_lt_of_le h.1 (Nat.pow_le_pow_right (by decide) hm), Nat.lt_of_lt_of_le h.2 (Nat.pow_le_pow_right (by decide) hm)⟩
theorem add_divInt (x y : Rat) : x + y = Rat.divInt (x.num * y.den + y.num * x.den) (x.den * y.den) := by
  rw [Rat.add_def', ← Rat.divInt_ofNat]; rfl
theorem sub_divInt (x y : Rat) : x - y = Rat.divInt (x.num * y.den - y.num * x.den) (x.den * y.den) := by
  rw [Rat.sub_def', ← Rat.divInt_ofNat]; rfl
theorem mul_divInt (x y : Rat) : x * y = Rat.divInt (x.num * y.num) (x.den * y.den) := by
  rw [Rat.mul_def', ← Rat.divInt_ofNat]; rfl
theorem div_divInt (x y : Rat) : x / y = Rat.divInt (x.num * y.den) (x.den * y.num) := by
  rw [Rat.div_def, Rat.inv_def]
  conv => lhs; lhs; rw [← Rat.num_divInt_den x]
  rw [Rat.divInt_mul_divInt]
theorem num_lt {x : Rat} {N : Nat} (h : Sm N x) : x.num.natAbs < 2 ^ N := h.1
theorem den_lt {x : Rat} {N : Nat} (h : Sm N x) : (x.den : Int).natAbs < 2 ^ N := by have := h.2; omega
end DL


namespace DL
open PySem PySem.Spec PyProof.Rows L2

/-! ### plain values: none, ints, lists and tuples of them -/
def plN : Nat → D → Bool
  | 0, _ => false
  | _ + 1, .non => true
  | _ + 1, .int _ => true
  | k + 1, .tup xs => xs.all (plN k)
  | k + 1, .lst xs => xs.all (plN k)
  | _ + 1, _ => false
mutual
def py : D → PyData
  | .int i => .int i
  | .tup xs => .tuple (pyA xs)
  | .lst xs => .list (pyA xs)
  | _ => .none
def pyA : List D → List PyData
  | [] => []
  | x :: xs => py x :: pyA xs
end
theorem plN_toPy (s : Sto) : ∀ (k : Nat) (d : D), plN k d = true → toPy s d = some (py d) ∧ toPyR s d = some (py d) ∧ (py d).canLay0 = true ∧ (py d).depth ≤ k := by
  intro k
  induction k with
  | zero => intro d h; cases h
  | succ k ih =>
    have key : ∀ xs : List D, xs.all (plN k) = true → toPyA s xs = some (pyA xs) ∧ PyData.canLayAll0 (pyA xs) = true ∧ PyData.depthAll (pyA xs) ≤ k := by
      intro xs
      induction xs with
      | nil => intro _; exact ⟨by simp [toPyA, pyA], by simp [PyData.canLayAll0, pyA], by simp [PyData.depthAll, pyA]⟩
      | cons x xs ih2 =>
        intro h
        simp only [List.all_cons, Bool.and_eq_true] at h
        obtain ⟨a, _, b, c⟩ := ih x h.1
        obtain ⟨a', b', c'⟩ := ih2 h.2
        refine ⟨by simp [toPyA, pyA, a, a'], by simp [PyData.canLayAll0, pyA, b, b'], ?_⟩
        simp only [PyData.depthAll, pyA]
        omega
    intro d h
    cases d with
    | non => exact ⟨by simp [toPy, py], by simp [toPyR, toPy, py], by simp [py, PyData.canLay0], by simp [py, PyData.depth]⟩
    | int i => exact ⟨by simp [toPy, py], by simp [toPyR, toPy, py], by simp [py, PyData.canLay0], by simp [py, PyData.depth]⟩
    | tup xs =>
      obtain ⟨a, b, c⟩ := key xs h
      exact ⟨by simp [toPy, py, a], by simp [toPyR, toPy, py, a], by simp [py, PyData.canLay0, b], by simp only [py, PyData.depth]; omega⟩
    | lst xs =>
      obtain ⟨a, b, c⟩ := key xs h
      exact ⟨by simp [toPy, py, a], by simp [toPyR, toPy, py, a], by simp [py, PyData.canLay0, b], by simp only [py, PyData.depth]; omega⟩
    | _ => cases h
theorem py_eqv : ∀ (k : Nat) (d e : D), plN k d = true → plN k e = true → (PyData.eqv (py d) (py e) = true ↔ d = e) := by
  intro k
  induction k with
  | zero => intro d e h; cases h
  | succ k ih =>
    have key : ∀ xs ys : List D, xs.all (plN k) = true → ys.all (plN k) = true → (PyData.eqvAll (pyA xs) (pyA ys) = true ↔ xs = ys) := by
      intro xs
      induction xs with
      | nil =>
        intro ys _ _
        cases ys <;> simp [pyA, PyData.eqvAll]
      | cons x xs ih2 =>
        intro ys h g
        cases ys with
        | nil => simp [pyA, PyData.eqvAll]
        | cons y ys =>
          simp only [List.all_cons, Bool.and_eq_true] at h g
          simp only [pyA, PyData.eqvAll, Bool.and_eq_true, ih x y h.1 g.1, ih2 ys h.2 g.2, List.cons.injEq]
    intro d e h g
    cases d <;> first | cases h | skip
    all_goals cases e <;> first | cases g | skip
    all_goals simp only [py, PyData.eqv, beq_iff_eq, D.int.injEq, D.tup.injEq, D.lst.injEq, reduceCtorEq, Bool.false_eq_true]
    all_goals first | exact key _ _ h g | simp
open Classical in
theorem eqB_pl (s : Sto) {k : Nat} {d e : D} (hd : plN k d = true) (he : plN k e = true) (hk : k ≤ 64) : eqB s d e = some (decide (d = e)) := by
  obtain ⟨_, a1, b1, c1⟩ := plN_toPy s k d hd
  obtain ⟨_, a2, b2, c2⟩ := plN_toPy s k e he
  have s1 : SeqAt.shaped (py d) = true := by simp only [SeqAt.shaped, b1, Bool.true_and, decide_eq_true_eq]; omega
  have s2 : SeqAt.shaped (py e) = true := by simp only [SeqAt.shaped, b2, Bool.true_and, decide_eq_true_eq]; omega
  simp only [eqB, a1, a2, s1, s2, and_self, if_true]
  congr 1
  have := py_eqv k d e hd he
  by_cases h : d = e
  · rw [decide_eq_true h]; exact this.mpr h
  · rw [decide_eq_false h]
    cases h2 : PyData.eqv (py d) (py e) with
    | true => exact absurd (this.mp h2) h
    | false => rfl
open Classical in
theorem eqD_pl {s : Sto} (k : Nat) {d e : D} (hd : plN k d = true) (he : plN k e = true) (hk : k ≤ 64) : eqD d e s = .ok (.bl (decide (d = e))) s := by
  simp only [eqD, eqB_pl s hd he hk]
open Classical in
theorem neD_pl {s : Sto} (k : Nat) {d e : D} (hd : plN k d = true) (he : plN k e = true) (hk : k ≤ 64) : neD d e s = .ok (.bl (!decide (d = e))) s := by
  simp only [neD, eqB_pl s hd he hk]
theorem plN_mono : ∀ {k : Nat} {d : D}, plN k d = true → ∀ {j : Nat}, k ≤ j → plN j d = true
  | 0, _, h, _, _ => by cases h
  | k + 1, d, h, j, hj => by
    obtain ⟨j, rfl⟩ : ∃ j', j = j' + 1 := ⟨j - 1, by omega⟩
    cases d with
    | non => rfl
    | int i => rfl
    | tup xs =>
      simp only [plN, List.all_eq_true] at h ⊢
      exact fun x hx => plN_mono (h x hx) (by omega)
    | lst xs =>
      simp only [plN, List.all_eq_true] at h ⊢
      exact fun x hx => plN_mono (h x hx) (by omega)
    | _ => cases h
theorem frz_pl (s : Sto) (n : Nat) : ∀ (k : Nat) (d : D), plN k d = true → ∀ j, k ≤ j → frz s n j d = some d := by
  intro k
  induction k with
  | zero => intro d h; cases h
  | succ k ih =>
    intro d h j hj
    obtain ⟨j, rfl⟩ : ∃ j', j = j' + 1 := ⟨j - 1, by omega⟩
    have key : ∀ xs : List D, xs.all (plN k) = true → frzA (frz s n j) xs = some xs := by
      intro xs
      induction xs with
      | nil => intro _; rfl
      | cons x xs ih2 =>
        intro h
        simp only [List.all_cons, Bool.and_eq_true] at h
        simp only [frzA, ih x h.1 j (by omega), ih2 h.2]
    cases d with
    | non => rfl
    | int i => rfl
    | tup xs => simp only [frz, key xs h, Option.map_some]
    | lst xs => simp only [frz, key xs h, Option.map_some]
    | _ => cases h
theorem clD_pl (n : Nat) : ∀ (k : Nat) (d : D), plN k d = true → clD n d = true := by
  intro k
  induction k with
  | zero => intro d h; cases h
  | succ k ih =>
    have key : ∀ xs : List D, xs.all (plN k) = true → clA n xs = true := by
      intro xs
      induction xs with
      | nil => intro _; simp [clA]
      | cons x xs ih2 =>
        intro h
        simp only [List.all_cons, Bool.and_eq_true] at h
        simp only [clA, ih x h.1, ih2 h.2, Bool.and_self]
    intro d h
    cases d with
    | non => simp [clD]
    | int i => simp [clD]
    | tup xs => simp only [clD]; exact key xs h
    | lst xs => simp only [clD]; exact key xs h
    | _ => cases h
theorem clA_pl (n k : Nat) : ∀ xs : List D, xs.all (plN k) = true → clA n xs = true := by
  intro xs
  induction xs with
  | nil => intro _; simp [clA]
  | cons x xs ih2 =>
    intro h
    simp only [List.all_cons, Bool.and_eq_true] at h
    simp only [clA, clD_pl n k x h.1, ih2 h.2, Bool.and_self]
/-- a store of lists of plain values -/
def plS (s : Sto) : Prop := ∀ o ∈ s, ∃ xs, o = .lst xs ∧ xs.all (plN 20) = true
theorem plS_cl {s : Sto} (h : plS s) (n : Nat) : s.all (clO n) = true := by
  rw [List.all_eq_true]
  intro o ho
  obtain ⟨xs, rfl, hx⟩ := h o ho
  simp only [clO]
  exact clA_pl n _ _ hx
theorem backF_pl {base t : Sto} {d : D} (hb : plS base) (hd : plN 12 d = true) : backF base.length (.ok d (base ++ t)) = .ok d base := by
  by_cases h : t = []
  · subst h; simp only [List.append_nil, backF, if_true]
  · have : (base ++ t).length ≠ base.length := by
      rw [List.length_append]
      have := List.length_pos_iff.mpr h
      omega
    simp only [backF, if_neg this, frz_pl _ _ _ _ hd 12 (Nat.le_refl _), List.take_left, plS_cl hb, if_true]
theorem backF_pl' {n : Nat} {base t : Sto} {d : D} (hn : n = base.length) (hb : plS base) (hd : plN 12 d = true) : backF n (.ok d (base ++ t)) = .ok d base := by
  subst hn; exact backF_pl hb hd
theorem backF_eq {n : Nat} {s : Sto} {d : D} (hn : s.length = n) : backF n (.ok d s) = .ok d s := by
  simp only [backF, hn, if_true]

/-! ### loops -/
theorem forL_inv {mg : MG} {mb : MS} {ds : List D} (P : Nat → Loc → Sto → Prop)
    (step : ∀ k d l s, ds[k]? = some d → P k l s → ∃ l1 s1, mg d l s = .ok l1 s1 ∧ ∃ l2 s2, mb l1 s1 = .nx l2 s2 ∧ P (k + 1) l2 s2)
    {l : Loc} {s : Sto} (h : P 0 l s) : ∃ l' s', forL mg mb ds l s = .nx l' s' ∧ P ds.length l' s' := by
  induction ds generalizing P l s with
  | nil => exact ⟨l, s, rfl, h⟩
  | cons d ds ih =>
    obtain ⟨l1, s1, e1, l2, s2, e2, h2⟩ := step 0 d l s rfl h
    obtain ⟨l3, s3, e3, h3⟩ := ih (fun k => P (k + 1)) (fun k d' l s hk hp => step (k + 1) d' l s (by simpa using hk) hp) h2
    exact ⟨l3, s3, by simp only [forL, e1, e2, e3], h3⟩
/-- a loop that looks for the first -/
theorem forL_find {mg : MG} {mb : MS} {ds : List D} (P : Loc → Prop) (s : Sto) (f : D → Option D)
    (step : ∀ d l, d ∈ ds → P l → ∃ l1, mg d l s = .ok l1 s ∧ match f d with
      | some r => mb l1 s = .rt r s
      | none => ∃ l2, (mb l1 s = .nx l2 s ∨ mb l1 s = .ct l2 s) ∧ P l2)
    {l : Loc} (h : P l) : match ds.findSome? f with
      | some r => forL mg mb ds l s = .rt r s
      | none => ∃ l', forL mg mb ds l s = .nx l' s ∧ P l' := by
  induction ds generalizing l with
  | nil => exact ⟨l, rfl, h⟩
  | cons d ds ih =>
    obtain ⟨l1, e1, h1⟩ := step d l (List.mem_cons_self ..) h
    rw [List.findSome?_cons]
    cases hf : f d with
    | some r =>
      rw [hf] at h1
      simp only [forL, e1, h1]
    | none =>
      rw [hf] at h1
      obtain ⟨l2, e2, h2⟩ := h1
      have := ih (fun d l hd hp => step d l (List.mem_cons_of_mem _ hd) hp) h2
      have e3 : forL mg mb (d :: ds) l s = forL mg mb ds l2 s := by
        rcases e2 with e2 | e2 <;> simp only [forL, e1, e2]
      dsimp only
      rw [e3]
      exact this
/-- a comprehension that changes nothing -/
theorem lcL_pure {tg : MG} {tt : MT} {me : ME} {l : Loc} {s : Sto} (f : D → D) : ∀ {ds : List D}, (∀ d ∈ ds, ∃ l1, tg d l s = .ok l1 s ∧ tt l1 s = .ok true s ∧ me l1 s = .ok (f d) s) → lcL tg tt me ds l s = .ok (ds.map f) s
  | [], _ => rfl
  | d :: ds, h => by
    obtain ⟨l1, e1, e2, e3⟩ := h d (List.mem_cons_self ..)
    have := lcL_pure f (ds := ds) fun d hd => h d (List.mem_cons_of_mem _ hd)
    simp only [lcL, e1, e2, e3, R.bind_ok, this, List.map_cons]
/-- .. with a test -/
theorem lcL_filter {tg : MG} {tt : MT} {me : ME} {l : Loc} {s : Sto} (p : D → Bool) (f : D → D) : ∀ {ds : List D}, (∀ d ∈ ds, ∃ l1, tg d l s = .ok l1 s ∧ tt l1 s = .ok (p d) s ∧ (p d = true → me l1 s = .ok (f d) s)) → lcL tg tt me ds l s = .ok ((ds.filter p).map f) s
  | [], _ => rfl
  | d :: ds, h => by
    obtain ⟨l1, e1, e2, e3⟩ := h d (List.mem_cons_self ..)
    have := lcL_filter p f (ds := ds) fun d hd => h d (List.mem_cons_of_mem _ hd)
    cases hp : p d with
    | true =>
      simp only [lcL, e1, e2, hp, e3 hp, R.bind_ok, this, List.filter_cons, if_true, List.map_cons]
    | false =>
      simp only [lcL, e1, e2, hp, R.bind_ok, this, List.filter_cons, Bool.false_eq_true, if_false]
/-- .. that makes one object after another -/
theorem lcL_new {tg : MG} {tt : MT} {me : ME} {l : Loc} (f : D → O) : ∀ {ds : List D} (s : Sto), (∀ d ∈ ds, ∀ t, ∃ l1, tg d l (s ++ t) = .ok l1 (s ++ t) ∧ tt l1 (s ++ t) = .ok true (s ++ t) ∧ me l1 (s ++ t) = .ok (.ref (s ++ t).length) (s ++ t ++ [f d])) →
    lcL tg tt me ds l s = .ok ((List.range ds.length).map fun i => .ref (s.length + i)) (s ++ ds.map f)
  | [], s, _ => by simp [lcL]
  | d :: ds, s, h => by
    obtain ⟨l1, e1, e2, e3⟩ := h d (List.mem_cons_self ..) []
    rw [List.append_nil] at e1 e2 e3
    have := lcL_new f (ds := ds) (s ++ [f d]) fun d' hd t => by
      have := h d' (List.mem_cons_of_mem _ hd) ([f d] ++ t)
      rwa [← List.append_assoc] at this
    simp only [lcL, e1, e2, e3, R.bind_ok, this, List.length_append, List.length_cons, List.length_nil, Nat.zero_add, List.range_succ_eq_map, List.map_cons, List.map_map, Nat.add_zero, List.append_assoc, List.singleton_append]
    congr 2
    apply List.map_congr_left
    intro i _
    simp only [Function.comp, List.length_nil, Nat.zero_add]
    congr 1
    omega
theorem rangeD_mem {lo : Int} {n : Nat} {d : D} (h : d ∈ rangeD lo n) : ∃ i : Nat, i < n ∧ d = .int (lo + i) := by
  unfold rangeD at h
  obtain ⟨i, hi, rfl⟩ := List.mem_map.mp h
  exact ⟨i, List.mem_range.mp hi, rfl⟩
theorem rangeD_get {lo : Int} {n k : Nat} {d : D} (h : (rangeD lo n)[k]? = some d) : k < n ∧ d = .int (lo + k) := by
  unfold rangeD at h
  rw [List.getElem?_map] at h
  cases e : (List.range n)[k]? with
  | none => rw [e] at h; cases h
  | some i =>
    rw [e] at h
    obtain ⟨h1, h2⟩ := List.getElem?_eq_some_iff.mp e
    rw [List.getElem_range] at h2
    subst h2
    rw [List.length_range] at h1
    simp only [Option.map_some, Option.some.injEq] at h
    exact ⟨h1, h.symm⟩
theorem rangeD_len {lo : Int} {n : Nat} : (rangeD lo n).length = n := by simp [rangeD]
theorem findRange {lo : Int} {n : Nat} (f : Nat → Option D) : (rangeD lo n).findSome? (fun d => match d with | .int i => f (i - lo).toNat | _ => none) = (List.range n).findSome? f := by
  have : ∀ ds : List Nat, (ds.map fun (i : Nat) => D.int (lo + (i : Int))).findSome? (fun d => match d with | .int i => f (i - lo).toNat | _ => none) = ds.findSome? f := by
    intro ds
    induction ds with
    | nil => rfl
    | cons d ds ih =>
      have : (lo + (d : Int) - lo).toNat = d := by omega
      simp only [List.map_cons, List.findSome?_cons, this, ih]
  exact this _
/-- a loop over numbers that looks for the first -/
theorem forL_look {mg : MG} {mb : MS} {lo : Int} {n : Nat} (P : Loc → Prop) (s : Sto) (f : Nat → Option D)
    (step : ∀ (i : Nat) l, i < n → P l → ∃ l1, mg (.int (lo + i)) l s = .ok l1 s ∧ (∀ r, f i = some r → mb l1 s = .rt r s) ∧ (f i = none → ∃ l2, mb l1 s = .nx l2 s ∧ P l2))
    {l : Loc} (h : P l) : (∀ r, (List.range n).findSome? f = some r → forL mg mb (rangeD lo n) l s = .rt r s) ∧ ((List.range n).findSome? f = none → ∃ l', forL mg mb (rangeD lo n) l s = .nx l' s ∧ P l') := by
  have key := forL_find (mg := mg) (mb := mb) (ds := rangeD lo n) P s (fun d => match d with | .int i => f (i - lo).toNat | _ => none) (fun d l hd hp => by
    obtain ⟨i, hi, rfl⟩ := rangeD_mem hd
    obtain ⟨l1, e1, a, b⟩ := step i l hi hp
    refine ⟨l1, e1, ?_⟩
    have : (lo + (i : Int) - lo).toNat = i := by omega
    dsimp only
    rw [this]
    cases hf : f i with
    | some r => exact a r hf
    | none =>
      obtain ⟨l2, e2, h2⟩ := b hf
      exact ⟨l2, .inl e2, h2⟩) h
  rw [findRange] at key
  cases hf : (List.range n).findSome? f with
  | some r =>
    rw [hf] at key
    exact ⟨fun _ e => (by cases e; exact key), fun e => (by cases e)⟩
  | none =>
    rw [hf] at key
    exact ⟨fun _ e => (by cases e), fun _ => key⟩
theorem intB_small {i : Int} (h1 : -1000000 ≤ i) (h2 : i ≤ 1000000) : intB i = true := by
  have a : -(2 ^ 62) ≤ i := by
    have : (-(2 ^ 62) : Int) ≤ -1000000 := by decide
    exact Int.le_trans this h1
  have b : i < 2 ^ 62 := by
    have : (1000000 : Int) < 2 ^ 62 := by decide
    exact Int.lt_of_le_of_lt h2 this
  simp only [intB, a, b, and_self, decide_true]

/-! ### rows of numbers -/
def rowD (n : Nat) (f : Nat → Rat) : List D := (List.range n).map fun j => fr (f j)
def matS (n m : Nat) (M : Nat → Nat → Rat) : Sto := (List.range n).map fun i => .lst (rowD m (M i))
def updM (M : Nat → Nat → Rat) (i j : Nat) (v : Rat) : Nat → Nat → Rat := fun a b => if a = i ∧ b = j then v else M a b
theorem rowD_len {n : Nat} {f : Nat → Rat} : (rowD n f).length = n := by simp [rowD]
theorem rowD_get {n j : Nat} {f : Nat → Rat} (h : j < n) : (rowD n f)[j]? = some (fr (f j)) := by simp [rowD, h]
theorem matS_len {n m : Nat} {M : Nat → Nat → Rat} : (matS n m M).length = n := by simp [matS]
theorem matS_get {n m i : Nat} {M : Nat → Nat → Rat} (h : i < n) : (matS n m M)[i]? = some (.lst (rowD m (M i))) := by simp [matS, h]
theorem ixN_of {n j : Nat} (h : j < n) : ixN n (j : Int) = some j := by
  unfold ixN
  simp [h]
theorem atI_of {α : Type} {xs : List α} {j : Nat} {v : α} (h : xs[j]? = some v) : atI xs (j : Int) = some v := by
  unfold atI
  have := (List.getElem?_eq_some_iff.mp h).1
  rw [ixN_of this]
  exact h
theorem rowD_congr {n : Nat} {f g : Nat → Rat} (h : ∀ j, j < n → f j = g j) : rowD n f = rowD n g := by
  unfold rowD
  apply List.map_congr_left
  intro j hj
  rw [h j (List.mem_range.mp hj)]
theorem matS_congr {n m : Nat} {M N : Nat → Nat → Rat} (h : ∀ i j, i < n → j < m → M i j = N i j) : matS n m M = matS n m N := by
  unfold matS
  apply List.map_congr_left
  intro i hi
  rw [rowD_congr fun j hj => h i j (List.mem_range.mp hi) hj]
theorem rowD_set {n j : Nat} {f : Nat → Rat} {v : Rat} : (rowD n f).set j (fr v) = rowD n (fun b => if b = j then v else f b) := by
  apply List.ext_getElem?
  intro k
  by_cases hk : k < n
  · rw [rowD_get hk]
    by_cases h : j = k
    · subst h
      rw [List.getElem?_set_self (by rw [rowD_len]; exact hk), if_pos rfl]
    · rw [List.getElem?_set_ne h, rowD_get hk, if_neg (Ne.symm h)]
  · rw [List.getElem?_eq_none (by rw [List.length_set, rowD_len]; omega), List.getElem?_eq_none (by rw [rowD_len]; omega)]
theorem matS_set {n m i j : Nat} {M : Nat → Nat → Rat} {v : Rat} (hi : i < n) : (matS n m M).set i (.lst ((rowD m (M i)).set j (fr v))) = matS n m (updM M i j v) := by
  apply List.ext_getElem?
  intro k
  by_cases hk : k < n
  · rw [matS_get hk]
    by_cases h : i = k
    · subst h
      rw [List.getElem?_set_self (by rw [matS_len]; exact hk), rowD_set]
      congr 2
      apply rowD_congr
      intro b _
      simp only [updM, true_and]
    · rw [List.getElem?_set_ne h, matS_get hk]
      congr 2
      apply rowD_congr
      intro b _
      simp only [updM, Ne.symm h, false_and, if_false]
  · rw [List.getElem?_eq_none (by rw [List.length_set, matS_len]; omega), List.getElem?_eq_none (by rw [matS_len]; omega)]
theorem ix_mat {base : Sto} {n m i j : Nat} {M : Nat → Nat → Rat} (hi : i < n) (hj : j < m) : ixD (.ref (base.length + i)) (.int j) (base ++ matS n m M) = .ok (fr (M i j)) (base ++ matS n m M) := by
  have e : (base ++ matS n m M)[base.length + i]? = some (.lst (rowD m (M i))) := by
    rw [List.getElem?_append_right (by omega), Nat.add_sub_cancel_left, matS_get hi]
  simp only [ixD, rdS, e, atI_of (rowD_get hj)]
theorem set_mat {base : Sto} {n m i j : Nat} {M : Nat → Nat → Rat} {v : Rat} (hi : i < n) (hj : j < m) : setD (.ref (base.length + i)) (.int j) (fr v) (base ++ matS n m M) = .ok () (base ++ matS n m (updM M i j v)) := by
  have e : (base ++ matS n m M)[base.length + i]? = some (.lst (rowD m (M i))) := by
    rw [List.getElem?_append_right (by omega), Nat.add_sub_cancel_left, matS_get hi]
  simp only [setD, e, rowD_len, ixN_of hj]
  rw [List.set_append_right _ _ (by omega), Nat.add_sub_cancel_left, matS_set hi]
/-- the references to the rows -/
def refsD (b n : Nat) : D := .lst ((List.range n).map fun i => .ref (b + i))
theorem ix_refs {b n i : Nat} (s : Sto) (hi : i < n) : ixD (refsD b n) (.int i) s = .ok (.ref (b + i)) s := by
  have e : ((List.range n).map fun i => D.ref (b + i))[i]? = some (.ref (b + i)) := by simp [hi]
  simp only [refsD, ixD, rdS, atI_of e]
/-- a table as the program has it -/
def tabD (n m : Nat) (M : Nat → Nat → Rat) : D := .tup ((List.range n).map fun i => .tup (rowD m (M i)))
theorem ix_tab {n m i : Nat} {M : Nat → Nat → Rat} (s : Sto) (hi : i < n) : ixD (tabD n m M) (.int i) s = .ok (.tup (rowD m (M i))) s := by
  have e : ((List.range n).map fun i => D.tup (rowD m (M i)))[i]? = some (.tup (rowD m (M i))) := by simp [hi]
  simp only [tabD, ixD, rdS, atI_of e]
theorem ix_row {m j : Nat} {f : Nat → Rat} (s : Sto) (hj : j < m) : ixD (.tup (rowD m f)) (.int j) s = .ok (fr (f j)) s := by
  simp only [ixD, rdS, atI_of (rowD_get hj)]
theorem plN_fr (x : Rat) : plN 2 (fr x) = true := rfl
theorem plN_row {m : Nat} {f : Nat → Rat} : (rowD m f).all (plN 2) = true := by
  simp [rowD, plN_fr]
theorem plN_tab {n m : Nat} {M : Nat → Nat → Rat} : plN 4 (tabD n m M) = true := by
  simp only [tabD, plN, List.all_map, List.all_eq_true, Function.comp]
  intro i _ x hx
  exact List.all_eq_true.mp plN_row x hx
theorem fr_inj {x y : Rat} : fr x = fr y ↔ x = y := by
  constructor
  · intro h
    simp only [fr, D.tup.injEq, List.cons.injEq, D.int.injEq, and_true] at h
    exact Rat.ext h.1 (by omega)
  · rintro rfl; rfl
theorem eqD_fr (x y : Rat) (s : Sto) : eqD (fr x) (fr y) s = .ok (.bl (decide (x = y))) s := by
  rw [eqD_pl 2 (plN_fr x) (plN_fr y) (by decide)]
  congr 2
  exact decide_eq_decide.mpr fr_inj
theorem neD_fr (x y : Rat) (s : Sto) : neD (fr x) (fr y) s = .ok (.bl (!decide (x = y))) s := by
  rw [neD_pl 2 (plN_fr x) (plN_fr y) (by decide)]
  congr 3
  exact decide_eq_decide.mpr fr_inj
theorem fr_zero : (.tup [.int 0, .int 1] : D) = fr 0 := rfl
theorem fr_one : (.tup [.int 1, .int 1] : D) = fr 1 := rfl

/-! ### draws -/
/-- a bag at n -/
def BagAt (s : Sto) (n : Nat) : Prop := ∃ a b c : Int, s[n]? = some (.lst [.int a, .int b, .int c]) ∧ c.natAbs < 2 ^ 64
/-- nothing but n has changed, and there stands a bag -/
def Drew (s s' : Sto) (n : Nat) : Prop := ∃ a b c : Int, s' = s.set n (.lst [.int a, .int b, .int c]) ∧ c.natAbs < 2 ^ 64
theorem Drew.bag {s s' : Sto} {n : Nat} (h : Drew s s' n) (hn : n < s.length) : BagAt s' n := by
  obtain ⟨a, b, c, rfl, hc⟩ := h
  exact ⟨a, b, c, by rw [List.getElem?_set_self hn], hc⟩
theorem Drew.trans {s s1 s2 : Sto} {n : Nat} (h : Drew s s1 n) (h2 : Drew s1 s2 n) : Drew s s2 n := by
  obtain ⟨a, b, c, rfl, hc⟩ := h
  obtain ⟨a', b', c', rfl, hc'⟩ := h2
  exact ⟨a', b', c', by rw [List.set_set], hc'⟩
theorem BagAt.lt {s : Sto} {n : Nat} (h : BagAt s n) : n < s.length := by
  obtain ⟨a, b, c, h, _⟩ := h
  exact (List.getElem?_eq_some_iff.mp h).1
theorem Drew.refl {s : Sto} {n : Nat} (h : BagAt s n) : Drew s s n := by
  obtain ⟨a, b, c, h, hc⟩ := h
  refine ⟨a, b, c, ?_, hc⟩
  apply List.ext_getElem?
  intro k
  by_cases hk : n = k
  · subst hk
    rw [List.getElem?_set_self (List.getElem?_eq_some_iff.mp h).1, h]
  · rw [List.getElem?_set_ne hk]
theorem Drew.len {s s' : Sto} {n : Nat} (h : Drew s s' n) : s'.length = s.length := by
  obtain ⟨a, b, c, rfl, _⟩ := h
  exact List.length_set
theorem Drew.other {s s' : Sto} {n m : Nat} (h : Drew s s' n) (hm : n ≠ m) : s'[m]? = s[m]? := by
  obtain ⟨a, b, c, rfl, _⟩ := h
  exact List.getElem?_set_ne hm
theorem ixAt {s : Sto} {n : Nat} {xs : List D} {k : Int} {v : D} (h1 : s[n]? = some (.lst xs)) (h2 : atI xs k = some v) : ixD (.ref n) (.int k) s = .ok v s := by
  simp only [ixD, rdS, h1, h2]
theorem Drew.plS {s s' : Sto} {n : Nat} (h : Drew s s' n) (hs : plS s) : plS s' := by
  obtain ⟨a, b, c, rfl, _⟩ := h
  intro o ho
  rcases List.mem_or_eq_of_mem_set ho with h | rfl
  · exact hs o h
  · exact ⟨_, rfl, rfl⟩
theorem BagAt.app {s : Sto} {n : Nat} (h : BagAt s n) (t : Sto) : BagAt (s ++ t) n := by
  have := h.lt
  obtain ⟨a, b, c, h, hc⟩ := h
  exact ⟨a, b, c, by rw [List.getElem?_append_left this, h], hc⟩
theorem Drew.app {s t s' : Sto} {n : Nat} (h : Drew (s ++ t) s' n) (hn : n < s.length) : ∃ s1, s' = s1 ++ t ∧ Drew s s1 n := by
  obtain ⟨a, b, c, rfl, hc⟩ := h
  exact ⟨_, by rw [List.set_append_left _ _ hn], a, b, c, rfl, hc⟩
theorem divInt_pos {p q : Int} (hp : 0 < p) (hq : 0 < q) : 0 < Rat.divInt p q := by
  rw [Rat.divInt_eq_div, Rat.div_def]
  exact Rat.mul_pos (Rat.intCast_pos.mpr hp) (Rat.inv_pos.mpr (Rat.intCast_pos.mpr hq))

/-! ### heads of loops -/
section
variable {m m2 : ME} {mi : MI} {tg : MG} {tt : MT} {me : ME} {body : MS} {l : Loc} {s s1 s2 : Sto} {ds ys : List D} {own : List Nat}
theorem for_ok (h : mi l s = .ok ds s1) : mFor mi tg body l s = forL tg body ds l s1 := by
  unfold mFor; rw [h]
theorem rng1_ok {n : Nat} (h : m l s = .ok (.int (n : Int)) s1) (hn : n ≤ 1000000) : mRng1 (mCons m mNil) l s = .ok (rangeD 0 n) s1 := by
  have hb : intB (n : Int) = true := intB_small (by omega) (by omega)
  simp only [mRng1, mCons, h, R.bind_ok, mNil]
  rw [if_pos hb, Int.toNat_natCast]
theorem rng2_ok {lo : Int} {hi : Int} {n : Nat} (h : m l s = .ok (.int lo) s1) (h2 : m2 l s1 = .ok (.int hi) s2) (h3 : (hi - lo).toNat = n) (a : -1000000 ≤ lo) (b : lo ≤ 1000000) (c : -1000000 ≤ hi) (d : hi ≤ 1000000) : mRng2 (mCons m (mCons m2 mNil)) l s = .ok (rangeD lo n) s2 := by
  have hb : intB lo = true := intB_small (by omega) (by omega)
  have hc : intB hi = true := intB_small (by omega) (by omega)
  simp only [mRng2, mCons, h, h2, R.bind_ok, mNil]
  rw [if_pos ⟨hb, hc⟩, h3]
theorem iter_ok {d : D} (h : m l s = .ok d s1) (h2 : stands d = some ds) : mIter m l s = .ok ds s1 := by
  simp only [mIter, h, R.bind_ok, h2]
theorem lc_ok (h : mi l s = .ok ds s1) (h2 : lcL tg tt me ds (wipeD l own) s1 = .ok ys s2) (h3 : ys.length ≤ 100000) : mLc own mi tg tt me l s = .ok (.lst ys) s2 := by
  simp only [mLc, h, R.bind_ok, h2, noEx, if_pos h3]
theorem lcN_ok (h : mi l s = .ok ds s1) (h2 : lcL tg tt me ds (wipeD l own) s1 = .ok ys s2) (h3 : ys.length ≤ 100000) : mLcN own mi tg tt me l s = .ok (.ref s2.length) (s2 ++ [.lst ys]) := by
  simp only [mLcN, h, R.bind_ok, h2, noEx, if_pos h3]
end
/-- the other Euclid -/
theorem euclid2_while {i j : Nat} (hij : i ≠ j) : ∀ (n : Nat) (p q : Int) (l : Loc) (s : Sto), p.natAbs ≤ n → 0 ≤ q → l[i]? = some (some (.int p)) → l[j]? = some (some (.int q)) →
    mWhile (mTest (mOp neD (mVar i) (mC (.int 0)))) (mPar i j (mCons (mOp modD (mVar j) (mCB absF (mCons (mVar i) mNil))) (mCons (mCB absF (mCons (mVar i) mNil)) mNil))) l s = .nx ((l.set i (some (.int 0))).set j (some (.int (Int.gcd p q : Nat)))) s := by
  intro n
  induction n with
  | zero =>
    intro p q l s hn hq hi hj
    have hb : p = 0 := by omega
    subst hb
    rw [mWhile_eq]
    simp only [mTest, mOp, mVar, hi, mC, R.bind_ok, neD_int]
    have e1 : l.set i (some (.int 0)) = l := by
      apply List.ext_getElem?
      intro k
      by_cases h : i = k
      · subst h
        rw [List.getElem?_set_self (List.getElem?_eq_some_iff.mp hi).1, hi]
      · rw [List.getElem?_set_ne h]
    have e2 : l.set j (some (.int (Int.gcd 0 q : Nat))) = l := by
      apply List.ext_getElem?
      intro k
      by_cases h : j = k
      · subst h
        rw [List.getElem?_set_self (List.getElem?_eq_some_iff.mp hj).1, hj, Int.gcd_zero_left]
        congr 3
        omega
      · rw [List.getElem?_set_ne h]
    rw [e1, e2]
    rfl
  | succ n ih =>
    intro p q l s hn hq hi hj
    by_cases hb : p = 0
    · exact ih p q l s (by omega) hq hi hj
    · have hp : ((if p < 0 then -p else p) : Int) ≠ 0 := by split <;> omega
      have hlt := fmod_natAbs q (if p < 0 then -p else p) hp
      have hnn : 0 ≤ q.fmod (if p < 0 then -p else p) := Int.fmod_nonneg_of_pos _ (by split <;> omega)
      have hli : i < l.length := (List.getElem?_eq_some_iff.mp hi).1
      have hlj : j < l.length := (List.getElem?_eq_some_iff.mp hj).1
      have h3 := ih (q.fmod (if p < 0 then -p else p)) (if p < 0 then -p else p) ((l.set i (some (.int (q.fmod (if p < 0 then -p else p))))).set j (some (.int (if p < 0 then -p else p)))) s (by
          have : (if p < 0 then -p else p : Int).natAbs = p.natAbs := by split <;> omega
          omega) (by split <;> omega)
        (by rw [List.getElem?_set_ne (Ne.symm hij), List.getElem?_set_self hli]) (by rw [List.getElem?_set_self (by rw [List.length_set]; exact hlj)])
      rw [mWhile_eq]
      have hne : (!(p == 0)) = true := by simp [hb]
      simp only [mTest, mOp, mVar, hi, mC, R.bind_ok, neD_int, hne]
      simp only [mPar, mCons, mVar, hj, hi, mOp, mCB, absF, R.bind_ok, modD, if_neg hp, mNil, toOut]
      rw [h3]
      have eg : Int.gcd (q.fmod (if p < 0 then -p else p)) (if p < 0 then -p else p) = Int.gcd p q := by
        rw [Int.gcd_comm, gcd_fmod, Int.gcd_comm]
        split
        · rw [Int.neg_gcd]
        · rfl
      rw [eg]
      congr 1
      apply List.ext_getElem?
      intro k
      by_cases hk : j = k
      · subst hk
        rw [List.getElem?_set_self (by simpa using hlj), List.getElem?_set_self (by simpa using hlj)]
      · rw [List.getElem?_set_ne hk, List.getElem?_set_ne hk]
        by_cases hk2 : i = k
        · subst hk2
          rw [List.getElem?_set_self (by simpa using hli), List.getElem?_set_self (by simpa using hli)]
        · rw [List.getElem?_set_ne hk2, List.getElem?_set_ne hk2, List.getElem?_set_ne hk, List.getElem?_set_ne hk2]
theorem boolsD_map {α : Type} (xs : List α) (p : α → Bool) : boolsD (xs.map fun x => .bl (p x)) = some (xs.map p) := by
  induction xs with
  | nil => rfl
  | cons x xs ih => simp only [List.map_cons, boolsD, ih]; rfl
theorem allF_map {α : Type} (xs : List α) (p : α → Bool) (s : Sto) : allF [.lst (xs.map fun x => .bl (p x))] s = .ok (.bl (xs.all p)) s := by
  simp only [allF, rdL, Option.bind_some, boolsD_map, List.all_map]; rfl
theorem anyF_map {α : Type} (xs : List α) (p : α → Bool) (s : Sto) : anyF [.lst (xs.map fun x => .bl (p x))] s = .ok (.bl (xs.any p)) s := by
  simp only [anyF, rdL, Option.bind_some, boolsD_map, List.any_map]; rfl
theorem lenF_tup (xs : List D) (s : Sto) : lenF [.tup xs] s = .ok (.int xs.length) s := rfl
theorem lenF_lst (xs : List D) (s : Sto) : lenF [.lst xs] s = .ok (.int xs.length) s := rfl
theorem isi_tup (xs : List D) (s : Sto) : isiF "tuple" (.tup xs) s = .ok (.bl true) s := rfl
theorem isi_lst (xs : List D) (s : Sto) : isiF "tuple" (.lst xs) s = .ok (.bl false) s := rfl
theorem isi_non (s : Sto) : isiF "tuple" .non s = .ok (.bl false) s := rfl
theorem num_pos {x : Rat} : 0 < x.num ↔ 0 < x := by
  rw [Rat.lt_iff]
  simp
/-! ### looking in loops in loops -/
def Look (m : MS) (s : Sto) (P : Loc → Prop) (r : Option D) : Prop := ∀ l, P l → (∀ v, r = some v → m l s = .rt v s) ∧ (r = none → ∃ l', m l s = .nx l' s ∧ P l')
theorem look_for {mi : MI} {tg : MG} {body : MS} {s : Sto} {P : Loc → Prop} {Q : Nat → Loc → Prop} {lo : Int} {n : Nat} {f : Nat → Option D}
    (hmi : ∀ l, P l → mi l s = .ok (rangeD lo n) s) (htg : ∀ i l, i < n → P l → ∃ l1, tg (.int (lo + (i : Nat))) l s = .ok l1 s ∧ Q i l1)
    (hb : ∀ i, i < n → Look body s (Q i) (f i)) (hQ : ∀ i l, Q i l → P l) : Look (mFor mi tg body) s P ((List.range n).findSome? f) := fun l hP => by
  rw [for_ok (hmi l hP)]
  exact forL_look P s f (fun i l hi hp => by
    obtain ⟨l1, e1, q1⟩ := htg i l hi hp
    refine ⟨l1, e1, (hb i hi l1 q1).1, fun hf => ?_⟩
    obtain ⟨l2, e2, q2⟩ := (hb i hi l1 q1).2 hf
    exact ⟨l2, e2, hQ i l2 q2⟩) hP
theorem look_seq {m m' : MS} {s : Sto} {P : Loc → Prop} {r r' : Option D} (h : Look m s P r) (h' : Look m' s P r') : Look (mSeq m m') s P (r.or r') := fun l hl => by
  have a := h l hl
  cases r with
  | some v =>
    refine ⟨fun w hw => ?_, fun hw => by cases hw⟩
    rw [mSeq, a.1 v rfl]
    cases hw; rfl
  | none =>
    obtain ⟨l', e, hl'⟩ := a.2 rfl
    have b := h' l' hl'
    refine ⟨fun w hw => ?_, fun hw => ?_⟩
    · rw [mSeq, e]; exact b.1 w hw
    · rw [mSeq, e]; exact b.2 hw
theorem mSeq_assoc (a b c : MS) : mSeq a (mSeq b c) = mSeq (mSeq a b) c := by
  funext l s
  simp only [mSeq]
  cases a l s <;> rfl
end DL


namespace K68
open PySem PySem.Spec PyProof.Rows L2 DL
noncomputable section
def topS (i : Nat) : Stmt := PySem.Challenge.pw_currentwebs_k68_four_points.main.body.getD i (.Pass ⟨0, 0, 0, 0⟩)
abbrev s__law_draw : Stmt := topS 23
abbrev s__law_fr : Stmt := topS 24
abbrev s__law_add : Stmt := topS 25
abbrev s__law_table : Stmt := topS 31
abbrev s__law_is_less : Stmt := topS 32
abbrev s__law_due : Stmt := topS 33
abbrev s__law_bag : Stmt := topS 22
abbrev s_is_number : Stmt := topS 11
abbrev s_sign : Stmt := topS 7
abbrev s_is_table : Stmt := topS 14
abbrev s_look_at_table : Stmt := topS 15
abbrev s_less : Stmt := topS 8
abbrev s_common : Stmt := topS 4
abbrev s_fraction : Stmt := topS 5
abbrev s_plus : Stmt := topS 6
abbrev s_is_far : Stmt := topS 18
abbrev s_are_four : Stmt := topS 19
abbrev s_fault : Stmt := topS 17
abbrev s_four_points : Stmt := topS 20
abbrev s__law_told : Stmt := topS 34
abbrev s_law : Stmt := topS 35
abbrev n__law_draw : List Str := ["bag", "many", "seed", "rest"]
abbrev p__law_draw : List Str := ["bag", "many"]
theorem sc__law_draw : FnScope n__law_draw p__law_draw (defScope s__law_draw) := ⟨rfl, rfl, rfl, by decide +kernel, rfl, by decide +kernel, by decide +kernel⟩
abbrev n__law_fr : List Str := ["p", "q", "a", "b"]
abbrev p__law_fr : List Str := ["p", "q"]
theorem sc__law_fr : FnScope n__law_fr p__law_fr (defScope s__law_fr) := ⟨rfl, rfl, rfl, by decide +kernel, rfl, by decide +kernel, by decide +kernel⟩
abbrev n__law_add : List Str := ["x", "y"]
abbrev p__law_add : List Str := ["x", "y"]
theorem sc__law_add : FnScope n__law_add p__law_add (defScope s__law_add) := ⟨rfl, rfl, rfl, by decide +kernel, rfl, by decide +kernel, by decide +kernel⟩
abbrev n__law_table : List Str := ["bag", "n", "rows", "pick", "i", "place", "long", "j", "row"]
abbrev p__law_table : List Str := ["bag"]
theorem sc__law_table : FnScope n__law_table p__law_table (defScope s__law_table) := ⟨rfl, rfl, rfl, by decide +kernel, rfl, by decide +kernel, by decide +kernel⟩
abbrev n__law_is_less : List Str := ["x", "y"]
abbrev p__law_is_less : List Str := ["x", "y"]
theorem sc__law_is_less : FnScope n__law_is_less p__law_is_less (defScope s__law_is_less) := ⟨rfl, rfl, rfl, by decide +kernel, rfl, by decide +kernel, by decide +kernel⟩
abbrev n__law_due : List Str := ["table", "n", "i", "j", "k", "a", "b", "c", "m", "rows", "top", "one"]
abbrev p__law_due : List Str := ["table"]
theorem sc__law_due : FnScope n__law_due p__law_due (defScope s__law_due) := ⟨rfl, rfl, rfl, by decide +kernel, rfl, by decide +kernel, by decide +kernel⟩
abbrev n__law_bag : List Str := ["script", "k", "cell"]
abbrev p__law_bag : List Str := ["script", "k"]
theorem sc__law_bag : FnScope n__law_bag p__law_bag (defScope s__law_bag) := ⟨rfl, rfl, rfl, by decide +kernel, rfl, by decide +kernel, by decide +kernel⟩
abbrev n_is_number : List Str := ["value", "p", "q"]
abbrev p_is_number : List Str := ["value"]
theorem sc_is_number : FnScope n_is_number p_is_number (defScope s_is_number) := ⟨rfl, rfl, rfl, by decide +kernel, rfl, by decide +kernel, by decide +kernel⟩
abbrev n_sign : List Str := ["x"]
abbrev p_sign : List Str := ["x"]
theorem sc_sign : FnScope n_sign p_sign (defScope s_sign) := ⟨rfl, rfl, rfl, by decide +kernel, rfl, by decide +kernel, by decide +kernel⟩
abbrev n_is_table : List Str := ["value", "n", "row", "i", "one", "j"]
abbrev p_is_table : List Str := ["value"]
theorem sc_is_table : FnScope n_is_table p_is_table (defScope s_is_table) := ⟨rfl, rfl, rfl, by decide +kernel, rfl, by decide +kernel, by decide +kernel⟩
abbrev n_look_at_table : List Str := ["table"]
abbrev p_look_at_table : List Str := ["table"]
theorem sc_look_at_table : FnScope n_look_at_table p_look_at_table (defScope s_look_at_table) := ⟨rfl, rfl, rfl, by decide +kernel, rfl, by decide +kernel, by decide +kernel⟩
abbrev n_less : List Str := ["x", "y"]
abbrev p_less : List Str := ["x", "y"]
theorem sc_less : FnScope n_less p_less (defScope s_less) := ⟨rfl, rfl, rfl, by decide +kernel, rfl, by decide +kernel, by decide +kernel⟩
abbrev n_common : List Str := ["p", "q"]
abbrev p_common : List Str := ["p", "q"]
theorem sc_common : FnScope n_common p_common (defScope s_common) := ⟨rfl, rfl, rfl, by decide +kernel, rfl, by decide +kernel, by decide +kernel⟩
abbrev n_fraction : List Str := ["p", "q", "divisor"]
abbrev p_fraction : List Str := ["p", "q"]
theorem sc_fraction : FnScope n_fraction p_fraction (defScope s_fraction) := ⟨rfl, rfl, rfl, by decide +kernel, rfl, by decide +kernel, by decide +kernel⟩
abbrev n_plus : List Str := ["x", "y"]
abbrev p_plus : List Str := ["x", "y"]
theorem sc_plus : FnScope n_plus p_plus (defScope s_plus) := ⟨rfl, rfl, rfl, by decide +kernel, rfl, by decide +kernel, by decide +kernel⟩
abbrev n_is_far : List Str := ["one", "other", "third", "rows", "a", "b", "c"]
abbrev p_is_far : List Str := ["one", "other", "third"]
theorem sc_is_far : FnScope n_is_far p_is_far (defScope s_is_far) := ⟨rfl, rfl, rfl, by decide +kernel, rfl, by decide +kernel, by decide +kernel⟩
abbrev n_are_four : List Str := ["table", "i", "j", "k", "l", "rows", "a", "b", "c"]
abbrev p_are_four : List Str := ["table", "i", "j", "k", "l"]
theorem sc_are_four : FnScope n_are_four p_are_four (defScope s_are_four) := ⟨rfl, rfl, rfl, by decide +kernel, rfl, by decide +kernel, by decide +kernel⟩
abbrev n_fault : List Str := ["table", "n", "i", "j", "k", "l"]
abbrev p_fault : List Str := ["table"]
theorem sc_fault : FnScope n_fault p_fault (defScope s_fault) := ⟨rfl, rfl, rfl, by decide +kernel, rfl, by decide +kernel, by decide +kernel⟩
abbrev n_four_points : List Str := ["table"]
abbrev p_four_points : List Str := ["table"]
theorem sc_four_points : FnScope n_four_points p_four_points (defScope s_four_points) := ⟨rfl, rfl, rfl, by decide +kernel, rfl, by decide +kernel, by decide +kernel⟩
abbrev n__law_told : List Str := ["call", "table"]
abbrev p__law_told : List Str := ["call", "table"]
theorem sc__law_told : FnScope n__law_told p__law_told (defScope s__law_told) := ⟨rfl, rfl, rfl, by decide +kernel, rfl, by decide +kernel, by decide +kernel⟩
abbrev n_law : List Str := ["script", "k", "table", "due", "odd"]
abbrev p_law : List Str := ["script"]
theorem sc_law : FnScope n_law p_law (defScope s_law) := ⟨rfl, rfl, rfl, by decide +kernel, rfl, by decide +kernel, by decide +kernel⟩
/-- what the top has written -/
structure Top (K : PySem.W.Frag) (mg : Str → Option Value) (G : Gm) : Prop where
  f__law_draw : FnE K mg G "_law_draw" s__law_draw
  f__law_fr : FnE K mg G "_law_fr" s__law_fr
  f__law_add : FnE K mg G "_law_add" s__law_add
  f__law_table : FnE K mg G "_law_table" s__law_table
  f__law_is_less : FnE K mg G "_law_is_less" s__law_is_less
  f__law_due : FnE K mg G "_law_due" s__law_due
  f__law_bag : FnE K mg G "_law_bag" s__law_bag
  f_is_number : FnE K mg G "is_number" s_is_number
  f_sign : FnE K mg G "sign" s_sign
  f_is_table : FnE K mg G "is_table" s_is_table
  f_look_at_table : FnE K mg G "look_at_table" s_look_at_table
  f_less : FnE K mg G "less" s_less
  f_common : FnE K mg G "common" s_common
  f_fraction : FnE K mg G "fraction" s_fraction
  f_plus : FnE K mg G "plus" s_plus
  f_is_far : FnE K mg G "is_far" s_is_far
  f_are_four : FnE K mg G "are_four" s_are_four
  f_fault : FnE K mg G "fault" s_fault
  f_four_points : FnE K mg G "four_points" s_four_points
  f__law_told : FnE K mg G "_law_told" s__law_told
  f_law : FnE K mg G "law" s_law
  b_abs : mg "abs" = none
  b_all : mg "all" = none
  b_any : mg "any" = none
  b_bool : mg "bool" = none
  b_int : mg "int" = none
  b_isinstance : mg "isinstance" = none
  b_len : mg "len" = none
  b_list : mg "list" = none
  b_max : mg "max" = none
  b_min : mg "min" = none
  b_range : mg "range" = none
  b_tuple : mg "tuple" = none
  c_BadValue : ClD K mg G "BadValue"
  g_MOST_TABLE : GlD K mg G "MOST_TABLE" (.int 16)
  g_ZERO : GlD K mg G "ZERO" (.tup [.int 0, .int 1])
  em : ExM K G
section
variable {P : Program} {w : World} {K : PySem.W.Frag} {mg : Str → Option Value} {base : Heap} {G : Gm}
/-- _law_draw(bag, many) -/
def r__law_draw : MF := mDef backF 2 4 ((mSeq (mIfS (mTest (mOp eqD (mOp ixD (mVar 0) (mC (.int 0))) (mC (.int 0)))) (mSeq (mAsg (mOp modD (mCB intF (mCons (mOp addD (mOp addD (mOp mulD (mOp ixD (mVar 0) (mC (.int 1))) (mC (.int 48271))) (mOp mulD (mOp ixD (mVar 0) (mC (.int 2))) (mC (.int 69621)))) (mC (.int 11))) mNil)) (mC (.int 2147483647))) (mgName 2)) (mSeq (mAsg (mOp addD (mOp mulD (mVar 2) (mC (.int 2147483629))) (mOp modD (mCB intF (mCons (mOp addD (mOp mulD (mVar 2) (mVar 2)) (mOp mulD (mOp ixD (mVar 0) (mC (.int 2))) (mC (.int 16807)))) mNil)) (mC (.int 2147483629)))) (mgSub setD (mVar 0) (mC (.int 0)))) (mAsg (mVar 2) (mgSub setD (mVar 0) (mC (.int 1)))))) mNext) (mSeq (mAsg (mOp ixD (mVar 0) (mC (.int 0))) (mgName 3)) (mSeq (mAsg (mOp fdivD (mVar 3) (mVar 1)) (mgSub setD (mVar 0) (mC (.int 0)))) (mRet (mOp modD (mCB intF (mCons (mVar 3) mNil)) (mVar 1)))))))
theorem ok__law_draw (T : Top G.K mg G) : FnD P w G.K mg base G 1 "_law_draw" 2 r__law_draw := by
  exact def_e rfl (back := backF) (N := n__law_draw) (ps := p__law_draw) backF_ok T.f__law_draw sc__law_draw (fun _ _ _ _ _ _ us hl => match us, hl with | [_, _], _ => rfl) (fun f cdv A outer s H E hr W => ⟨_, (jss_cons (js_if (jt_cmp (op_eqK (by rfl) hr.units) s_eq (je_ix (je_var 0) je_int) je_int) (jss_cons (js_set (i := 2) sc__law_draw.nd (je_op op_modN s_mod (je_ct call_int1 sc_int T.b_int (ja_cons (je_op (op_addA (by rfl)) s_add (je_op (op_addA (by rfl)) s_add (je_op op_mulA s_mul (je_ix (je_var 0) je_int) je_int) (je_op op_mulA s_mul (je_ix (je_var 0) je_int) je_int)) je_int) ja_nil)) je_int)) (jss_cons (js_asg (je_op (op_addA (by rfl)) s_add (je_op op_mulA s_mul (je_var 2) je_int) (je_op op_modN s_mod (je_ct call_int1 sc_int T.b_int (ja_cons (je_op (op_addA (by rfl)) s_add (je_op op_mulA s_mul (je_var 2) (je_var 2)) (je_op op_mulA s_mul (je_ix (je_var 0) je_int) je_int)) ja_nil)) je_int)) (jg_sub set_list s_set (je_var 0) je_int)) (jss_one (js_asg (je_var 2) (jg_sub set_list s_set (je_var 0) je_int))))) jss_nil) (jss_cons (js_set (i := 3) sc__law_draw.nd (je_ix (je_var 0) je_int)) (jss_cons (js_asg (je_op op_fdivA s_fdiv (je_var 3) (je_var 1)) (jg_sub set_list s_set (je_var 0) je_int)) (jss_one (js_ret (je_op op_modN s_mod (je_ct call_int1 sc_int T.b_int (ja_cons (je_var 3) ja_nil)) (je_var 1)))))))⟩)
/-- _law_fr(p, q) -/
def r__law_fr : MF := mDef backF 2 4 ((mSeq (mPar 2 3 (mCons (mCB absF (mCons (mVar 0) mNil)) (mCons (mCB absF (mCons (mVar 1) mNil)) mNil))) (mSeq (mWhile (mTest (mOp neD (mVar 3) (mC (.int 0)))) (mPar 2 3 (mCons (mVar 3) (mCons (mOp modD (mVar 2) (mVar 3)) mNil)))) (mSeq (mIfS (mTest (mOp ltD (mVar 1) (mC (.int 0)))) (mAsg (mOp subD (mC (.int 0)) (mVar 2)) (mgName 2)) mNext) (mRet (mTup (mCons (mOp fdivD (mVar 0) (mVar 2)) (mCons (mOp fdivD (mVar 1) (mVar 2)) mNil))))))))
theorem ok__law_fr (T : Top G.K mg G) : FnD P w G.K mg base G 1 "_law_fr" 2 r__law_fr := by
  exact def_e rfl (back := backF) (N := n__law_fr) (ps := p__law_fr) backF_ok T.f__law_fr sc__law_fr (fun _ _ _ _ _ _ us hl => match us, hl with | [_, _], _ => rfl) (fun f cdv A outer s H E hr W => ⟨_, (jss_cons (js_par (i := 2) (j := 3) rfl sc__law_fr.nd (ja_cons (je_cb call_abs sc_abs T.b_abs (ja_cons (je_var 0) ja_nil)) (ja_cons (je_cb call_abs sc_abs T.b_abs (ja_cons (je_var 1) ja_nil)) ja_nil))) (jss_cons (js_while (jt_cmp (op_neK (by rfl) hr.units) s_ne (je_var 3) je_int) (jss_one (js_par (i := 2) (j := 3) rfl sc__law_fr.nd (ja_cons (je_var 3) (ja_cons (je_op op_modN s_mod (je_var 2) (je_var 3)) ja_nil))))) (jss_cons (js_if (jt_cmp op_lt s_cmp (je_var 1) je_int) (jss_one (js_set (i := 2) sc__law_fr.nd (je_op op_sub s_sub je_int (je_var 2)))) jss_nil) (jss_one (js_ret (je_tup (ja_cons (je_op op_fdivA s_fdiv (je_var 0) (je_var 2)) (ja_cons (je_op op_fdivA s_fdiv (je_var 1) (je_var 2)) ja_nil))))))))⟩)
/-- _law_add(x, y) -/
def r__law_add : MF := mDef backF 2 2 ((mRet (mCall 2 r__law_fr (mCons (mOp addD (mOp mulD (mOp ixD (mVar 0) (mC (.int 0))) (mOp ixD (mVar 1) (mC (.int 1)))) (mOp mulD (mOp ixD (mVar 1) (mC (.int 0))) (mOp ixD (mVar 0) (mC (.int 1))))) (mCons (mOp mulD (mOp ixD (mVar 0) (mC (.int 1))) (mOp ixD (mVar 1) (mC (.int 1)))) mNil)))))
theorem ok__law_add (T : Top G.K mg G) : FnD P w G.K mg base G 2 "_law_add" 2 r__law_add := by
  exact def_e rfl (back := backF) (N := n__law_add) (ps := p__law_add) backF_ok T.f__law_add sc__law_add (fun _ _ _ _ _ _ us hl => match us, hl with | [_, _], _ => rfl) (fun f cdv A outer s H E hr W => ⟨_, (jss_one (js_ret (je_call ((ok__law_fr T).mono (by decide)) hr (ja_cons (je_op (op_addA (by rfl)) s_add (je_op op_mulA s_mul (je_ix (je_var 0) je_int) (je_ix (je_var 1) je_int)) (je_op op_mulA s_mul (je_ix (je_var 1) je_int) (je_ix (je_var 0) je_int))) (ja_cons (je_op op_mulA s_mul (je_ix (je_var 0) je_int) (je_ix (je_var 1) je_int)) ja_nil)))))⟩)
/-- _law_table(bag) -/
def t__law_table_11 : MS := (mAsg (mOp ixD (mOp ixD (mVar 2) (mVar 4)) (mVar 7)) (mgSub setD (mOp ixD (mVar 2) (mVar 7)) (mVar 4)))
def t__law_table_9 : MS := (mSeq (mIfS (mTest (mOp eqD (mVar 3) (mC (.int 2)))) (mAsg (mCall 2 r__law_fr (mCons (mOp addD (mC (.int 1)) (mCall 2 r__law_draw (mCons (mVar 0) (mCons (mC (.int 6)) mNil)))) (mCons (mOp addD (mC (.int 1)) (mCall 2 r__law_draw (mCons (mVar 0) (mCons (mC (.int 2)) mNil)))) mNil))) (mgSub setD (mOp ixD (mVar 2) (mVar 4)) (mVar 7))) mNext) t__law_table_11)
def b__law_table_7 : MS := (mSeq (mAsg (mCall 2 r__law_add (mCons (mOp ixD (mOp ixD (mVar 2) (mVar 5)) (mVar 7)) (mCons (mVar 6) mNil))) (mgSub setD (mOp ixD (mVar 2) (mVar 4)) (mVar 7))) t__law_table_9)
def l__law_table_7 : MS := (mFor (mRng1 (mCons (mVar 4) mNil)) (mgName 7) b__law_table_7)
def t__law_table_6 : MS := (mSeq (mAsg (mCall 2 r__law_fr (mCons (mOp addD (mC (.int 1)) (mCall 2 r__law_draw (mCons (mVar 0) (mCons (mC (.int 5)) mNil)))) (mCons (mOp addD (mC (.int 1)) (mCall 2 r__law_draw (mCons (mVar 0) (mCons (mC (.int 3)) mNil)))) mNil))) (mgName 6)) l__law_table_7)
def b__law_table_4 : MS := (mSeq (mAsg (mCall 2 r__law_draw (mCons (mVar 0) (mCons (mVar 4) mNil))) (mgName 5)) t__law_table_6)
def l__law_table_4 : MS := (mFor (mRng2 (mCons (mC (.int 1)) (mCons (mVar 1) mNil))) (mgName 4) b__law_table_4)
def t__law_table_16 : MS := (mAsg (mOp ixD (mOp ixD (mVar 2) (mVar 4)) (mVar 7)) (mgSub setD (mOp ixD (mVar 2) (mVar 7)) (mVar 4)))
def t__law_table_15 : MS := (mSeq (mAsg (mCall 2 r__law_add (mCons (mOp ixD (mOp ixD (mVar 2) (mVar 4)) (mVar 7)) (mCons (mTup (mCons (mC (.int 1)) (mCons (mOp addD (mC (.int 1)) (mCall 2 r__law_draw (mCons (mVar 0) (mCons (mC (.int 4)) mNil)))) mNil))) mNil))) (mgSub setD (mOp ixD (mVar 2) (mVar 4)) (mVar 7))) t__law_table_16)
def t__law_table_14 : MS := (mSeq (mAsg (mOp modD (mOp addD (mOp addD (mVar 4) (mC (.int 1))) (mCall 2 r__law_draw (mCons (mVar 0) (mCons (mOp subD (mVar 1) (mC (.int 1))) mNil)))) (mVar 1)) (mgName 7)) t__law_table_15)
def t__law_table_17 : MS := (mRet (mCB tupleF (mCons (mLc [8] (mIter (mVar 2)) (mgName 8) mYes (mCB tupleF (mCons (mVar 8) mNil))) mNil)))
def t__law_table_12 : MS := (mSeq (mIfS (mTest (mOp eqD (mVar 3) (mC (.int 1)))) (mSeq (mAsg (mCall 2 r__law_draw (mCons (mVar 0) (mCons (mVar 1) mNil))) (mgName 4)) t__law_table_14) mNext) t__law_table_17)
def t__law_table_4 : MS := (mSeq l__law_table_4 t__law_table_12)
def t__law_table_3 : MS := (mSeq (mAsg (mCall 2 r__law_draw (mCons (mVar 0) (mCons (mC (.int 3)) mNil))) (mgName 3)) t__law_table_4)
def t__law_table_2 : MS := (mSeq (mAsg (mLc [4] (mRng1 (mCons (mVar 1) mNil)) (mgName 4) mYes (mOp mulN (mLst (mCons (mTup (mCons (mC (.int 0)) (mCons (mC (.int 1)) mNil))) mNil)) (mVar 1))) (mgName 2)) t__law_table_3)
def r__law_table : MF := mDef backF 1 9 ((mSeq (mAsg (mOp addD (mC (.int 2)) (mCall 2 r__law_draw (mCons (mVar 0) (mCons (mC (.int 6)) mNil)))) (mgName 1)) t__law_table_2))
theorem ok__law_table (T : Top G.K mg G) : FnD P w G.K mg base G 3 "_law_table" 1 r__law_table := by
  exact def_e rfl (back := backF) (N := n__law_table) (ps := p__law_table) backF_ok T.f__law_table sc__law_table (fun _ _ _ _ _ _ us hl => match us, hl with | [_], _ => rfl) (fun f cdv A outer s H E hr W => ⟨_, (jss_cons (js_set (i := 1) sc__law_table.nd (je_op (op_addA (by rfl)) s_add je_int (je_call ((ok__law_draw T).mono (by decide)) hr (ja_cons (je_var 0) (ja_cons je_int ja_nil))))) (jss_cons (js_setLc (i := 2) rfl (own := [("i", 4)]) sc__law_table.nd (ji_rng1 T.b_range (ja_cons (je_var 1) ja_nil)) (blkOk_by (N := n__law_table) (sc := defScope s__law_table) (by decide +kernel)) (keeps_name (by decide)) (fun _ _ _ _ _ => (jg_name (i := 4) sc__law_table.nd)) (fun _ _ _ _ _ => jts_nil) (fun _ _ _ _ _ => (je_op op_mulA s_mulN (je_lst (ja_cons (je_tup (ja_cons je_int (ja_cons je_int ja_nil))) ja_nil)) (je_var 1)))) (jss_cons (js_set (i := 3) sc__law_table.nd (je_call ((ok__law_draw T).mono (by decide)) hr (ja_cons (je_var 0) (ja_cons je_int ja_nil)))) (jss_cons (js_for rfl (ji_rng2 T.b_range (ja_cons je_int (ja_cons (je_var 1) ja_nil))) (jg_name (i := 4) sc__law_table.nd) (jss_cons (js_set (i := 5) sc__law_table.nd (je_call ((ok__law_draw T).mono (by decide)) hr (ja_cons (je_var 0) (ja_cons (je_var 4) ja_nil)))) (jss_cons (js_set (i := 6) sc__law_table.nd (je_call ((ok__law_fr T).mono (by decide)) hr (ja_cons (je_op (op_addA (by rfl)) s_add je_int (je_call ((ok__law_draw T).mono (by decide)) hr (ja_cons (je_var 0) (ja_cons je_int ja_nil)))) (ja_cons (je_op (op_addA (by rfl)) s_add je_int (je_call ((ok__law_draw T).mono (by decide)) hr (ja_cons (je_var 0) (ja_cons je_int ja_nil)))) ja_nil)))) (jss_one (js_for rfl (ji_rng1 T.b_range (ja_cons (je_var 4) ja_nil)) (jg_name (i := 7) sc__law_table.nd) (jss_cons (js_asg (je_call ((ok__law_add T).mono (by decide)) hr (ja_cons (je_ix (je_ix (je_var 2) (je_var 5)) (je_var 7)) (ja_cons (je_var 6) ja_nil))) (jg_sub set_list s_set (je_ix (je_var 2) (je_var 4)) (je_var 7))) (jss_cons (js_if (jt_cmp (op_eqK (by rfl) hr.units) s_eq (je_var 3) je_int) (jss_one (js_asg (je_call ((ok__law_fr T).mono (by decide)) hr (ja_cons (je_op (op_addA (by rfl)) s_add je_int (je_call ((ok__law_draw T).mono (by decide)) hr (ja_cons (je_var 0) (ja_cons je_int ja_nil)))) (ja_cons (je_op (op_addA (by rfl)) s_add je_int (je_call ((ok__law_draw T).mono (by decide)) hr (ja_cons (je_var 0) (ja_cons je_int ja_nil)))) ja_nil))) (jg_sub set_list s_set (je_ix (je_var 2) (je_var 4)) (je_var 7)))) jss_nil) (jss_one (js_asg (je_ix (je_ix (je_var 2) (je_var 4)) (je_var 7)) (jg_sub set_list s_set (je_ix (je_var 2) (je_var 7)) (je_var 4))))))))))) (jss_cons (js_if (jt_cmp (op_eqK (by rfl) hr.units) s_eq (je_var 3) je_int) (jss_cons (js_set (i := 4) sc__law_table.nd (je_call ((ok__law_draw T).mono (by decide)) hr (ja_cons (je_var 0) (ja_cons (je_var 1) ja_nil)))) (jss_cons (js_set (i := 7) sc__law_table.nd (je_op op_modN s_mod (je_op (op_addA (by rfl)) s_add (je_op (op_addA (by rfl)) s_add (je_var 4) je_int) (je_call ((ok__law_draw T).mono (by decide)) hr (ja_cons (je_var 0) (ja_cons (je_op op_sub s_sub (je_var 1) je_int) ja_nil)))) (je_var 1))) (jss_cons (js_asg (je_call ((ok__law_add T).mono (by decide)) hr (ja_cons (je_ix (je_ix (je_var 2) (je_var 4)) (je_var 7)) (ja_cons (je_tup (ja_cons je_int (ja_cons (je_op (op_addA (by rfl)) s_add je_int (je_call ((ok__law_draw T).mono (by decide)) hr (ja_cons (je_var 0) (ja_cons je_int ja_nil)))) ja_nil))) ja_nil))) (jg_sub set_list s_set (je_ix (je_var 2) (je_var 4)) (je_var 7))) (jss_one (js_asg (je_ix (je_ix (je_var 2) (je_var 4)) (je_var 7)) (jg_sub set_list s_set (je_ix (je_var 2) (je_var 7)) (je_var 4))))))) jss_nil) (jss_one (js_ret (je_ct (call_tupleK (by rfl)) sc_tuple T.b_tuple (ja_cons (je_lc rfl (own := [("row", 8)]) sc__law_table.nd (ji_any (je_var 2)) (blkOk_by (N := n__law_table) (sc := defScope s__law_table) (by decide +kernel)) (keeps_name (by decide)) (fun _ _ _ _ _ => (jg_name (i := 8) sc__law_table.nd)) (fun _ _ _ _ _ => jts_nil) (fun _ _ _ _ _ => (je_ct (call_tupleK (by rfl)) sc_tuple T.b_tuple (ja_cons (je_var 8) ja_nil)))) ja_nil)))))))))⟩)
/-- _law_is_less(x, y) -/
def r__law_is_less : MF := mDef backF 2 2 ((mRet (mOp ltD (mOp mulD (mOp ixD (mVar 0) (mC (.int 0))) (mOp ixD (mVar 1) (mC (.int 1)))) (mOp mulD (mOp ixD (mVar 1) (mC (.int 0))) (mOp ixD (mVar 0) (mC (.int 1)))))))
theorem ok__law_is_less (T : Top G.K mg G) : FnD P w G.K mg base G 1 "_law_is_less" 2 r__law_is_less := by
  exact def_e rfl (back := backF) (N := n__law_is_less) (ps := p__law_is_less) backF_ok T.f__law_is_less sc__law_is_less (fun _ _ _ _ _ _ us hl => match us, hl with | [_, _], _ => rfl) (fun f cdv A outer s H E hr W => ⟨_, (jss_one (js_ret (je_cmp op_lt s_cmp (je_op op_mulA s_mul (je_ix (je_var 0) je_int) (je_ix (je_var 1) je_int)) (je_op op_mulA s_mul (je_ix (je_var 1) je_int) (je_ix (je_var 0) je_int)))))⟩)
/-- _law_due(table) -/
def t__law_due_6 : MS := (mIfS (mOr (mTest (mCall 2 r__law_is_less (mCons (mCall 2 r__law_add (mCons (mVar 5) (mCons (mVar 6) mNil))) (mCons (mVar 7) mNil)))) (mOr (mTest (mCall 2 r__law_is_less (mCons (mCall 2 r__law_add (mCons (mVar 5) (mCons (mVar 7) mNil))) (mCons (mVar 6) mNil)))) (mTest (mCall 2 r__law_is_less (mCons (mCall 2 r__law_add (mCons (mVar 6) (mCons (mVar 7) mNil))) (mCons (mVar 5) mNil)))))) (mRet (mTup (mCons (mVar 2) (mCons (mVar 3) (mCons (mVar 4) mNil))))) mNext)
def b__law_due_4 : MS := (mSeq (mPar3 5 6 7 (mCons (mOp ixD (mOp ixD (mVar 0) (mVar 2)) (mVar 3)) (mCons (mOp ixD (mOp ixD (mVar 0) (mVar 2)) (mVar 4)) (mCons (mOp ixD (mOp ixD (mVar 0) (mVar 3)) (mVar 4)) mNil)))) t__law_due_6)
def l__law_due_4 : MS := (mFor (mRng2 (mCons (mOp addD (mVar 3) (mC (.int 1))) (mCons (mVar 1) mNil))) (mgName 4) b__law_due_4)
def l__law_due_3 : MS := (mFor (mRng2 (mCons (mOp addD (mVar 2) (mC (.int 1))) (mCons (mVar 1) mNil))) (mgName 3) l__law_due_4)
def l__law_due_2 : MS := (mFor (mRng1 (mCons (mVar 1) mNil)) (mgName 2) l__law_due_3)
def b__law_due_14 : MS := (mIfS (mTest (mCall 2 r__law_is_less (mCons (mVar 10) (mCons (mVar 11) mNil)))) (mAsg (mVar 11) (mgName 10)) mNext)
def l__law_due_14 : MS := (mFor (mIter (mVar 9)) (mgName 11) b__law_due_14)
def t__law_due_17 : MS := (mIfS (mTest (mOp ltD (mCB lenF (mCons (mLc [11] (mIter (mVar 9)) (mgName 11) (mTest (mOp eqD (mVar 11) (mVar 10))) (mVar 11)) mNil)) (mC (.int 2)))) (mRet (mTup (mCons (mVar 2) (mCons (mVar 3) (mCons (mVar 4) (mCons (mVar 8) mNil)))))) mNext)
def t__law_due_14 : MS := (mSeq l__law_due_14 t__law_due_17)
def t__law_due_13 : MS := (mSeq (mAsg (mOp ixD (mVar 9) (mC (.int 0))) (mgName 10)) t__law_due_14)
def b__law_due_11 : MS := (mSeq (mAsg (mLst (mCons (mCall 2 r__law_add (mCons (mOp ixD (mOp ixD (mVar 0) (mVar 2)) (mVar 3)) (mCons (mOp ixD (mOp ixD (mVar 0) (mVar 4)) (mVar 8)) mNil))) (mCons (mCall 2 r__law_add (mCons (mOp ixD (mOp ixD (mVar 0) (mVar 2)) (mVar 4)) (mCons (mOp ixD (mOp ixD (mVar 0) (mVar 3)) (mVar 8)) mNil))) (mCons (mCall 2 r__law_add (mCons (mOp ixD (mOp ixD (mVar 0) (mVar 2)) (mVar 8)) (mCons (mOp ixD (mOp ixD (mVar 0) (mVar 3)) (mVar 4)) mNil))) mNil)))) (mgName 9)) t__law_due_13)
def l__law_due_11 : MS := (mFor (mRng2 (mCons (mOp addD (mVar 4) (mC (.int 1))) (mCons (mVar 1) mNil))) (mgName 8) b__law_due_11)
def l__law_due_10 : MS := (mFor (mRng2 (mCons (mOp addD (mVar 3) (mC (.int 1))) (mCons (mVar 1) mNil))) (mgName 4) l__law_due_11)
def l__law_due_9 : MS := (mFor (mRng2 (mCons (mOp addD (mVar 2) (mC (.int 1))) (mCons (mVar 1) mNil))) (mgName 3) l__law_due_10)
def l__law_due_8 : MS := (mFor (mRng1 (mCons (mVar 1) mNil)) (mgName 2) l__law_due_9)
def t__law_due_19 : MS := (mRet (mC .non))
def t__law_due_8 : MS := (mSeq l__law_due_8 t__law_due_19)
def t__law_due_2 : MS := (mSeq l__law_due_2 t__law_due_8)
def r__law_due : MF := mDef backF 1 12 ((mSeq (mAsg (mCB lenF (mCons (mVar 0) mNil)) (mgName 1)) t__law_due_2))
theorem ok__law_due (T : Top G.K mg G) : FnD P w G.K mg base G 3 "_law_due" 1 r__law_due := by
  exact def_e rfl (back := backF) (N := n__law_due) (ps := p__law_due) backF_ok T.f__law_due sc__law_due (fun _ _ _ _ _ _ us hl => match us, hl with | [_], _ => rfl) (fun f cdv A outer s H E hr W => ⟨_, (jss_cons (js_set (i := 1) sc__law_due.nd (je_cb (call_lenA (by rfl)) sc_len T.b_len (ja_cons (je_var 0) ja_nil))) (jss_cons (js_for rfl (ji_rng1 T.b_range (ja_cons (je_var 1) ja_nil)) (jg_name (i := 2) sc__law_due.nd) (jss_one (js_for rfl (ji_rng2 T.b_range (ja_cons (je_op (op_addA (by rfl)) s_add (je_var 2) je_int) (ja_cons (je_var 1) ja_nil))) (jg_name (i := 3) sc__law_due.nd) (jss_one (js_for rfl (ji_rng2 T.b_range (ja_cons (je_op (op_addA (by rfl)) s_add (je_var 3) je_int) (ja_cons (je_var 1) ja_nil))) (jg_name (i := 4) sc__law_due.nd) (jss_cons (js_par3 (i := 5) (j := 6) (n := 7) rfl sc__law_due.nd (ja_cons (je_ix (je_ix (je_var 0) (je_var 2)) (je_var 3)) (ja_cons (je_ix (je_ix (je_var 0) (je_var 2)) (je_var 4)) (ja_cons (je_ix (je_ix (je_var 0) (je_var 3)) (je_var 4)) ja_nil)))) (jss_one (js_if ((jw_or (jt_val (je_call ((ok__law_is_less T).mono (by decide)) hr (ja_cons (je_call ((ok__law_add T).mono (by decide)) hr (ja_cons (je_var 5) (ja_cons (je_var 6) ja_nil))) (ja_cons (je_var 7) ja_nil)))) (jw_or (jt_val (je_call ((ok__law_is_less T).mono (by decide)) hr (ja_cons (je_call ((ok__law_add T).mono (by decide)) hr (ja_cons (je_var 5) (ja_cons (je_var 7) ja_nil))) (ja_cons (je_var 6) ja_nil)))) (jw_or1 (jt_val (je_call ((ok__law_is_less T).mono (by decide)) hr (ja_cons (je_call ((ok__law_add T).mono (by decide)) hr (ja_cons (je_var 6) (ja_cons (je_var 7) ja_nil))) (ja_cons (je_var 5) ja_nil)))))))).jt (jss_one (js_ret (je_tup (ja_cons (je_var 2) (ja_cons (je_var 3) (ja_cons (je_var 4) ja_nil)))))) jss_nil)))))))) (jss_cons (js_for rfl (ji_rng1 T.b_range (ja_cons (je_var 1) ja_nil)) (jg_name (i := 2) sc__law_due.nd) (jss_one (js_for rfl (ji_rng2 T.b_range (ja_cons (je_op (op_addA (by rfl)) s_add (je_var 2) je_int) (ja_cons (je_var 1) ja_nil))) (jg_name (i := 3) sc__law_due.nd) (jss_one (js_for rfl (ji_rng2 T.b_range (ja_cons (je_op (op_addA (by rfl)) s_add (je_var 3) je_int) (ja_cons (je_var 1) ja_nil))) (jg_name (i := 4) sc__law_due.nd) (jss_one (js_for rfl (ji_rng2 T.b_range (ja_cons (je_op (op_addA (by rfl)) s_add (je_var 4) je_int) (ja_cons (je_var 1) ja_nil))) (jg_name (i := 8) sc__law_due.nd) (jss_cons (js_set (i := 9) sc__law_due.nd (je_lst (ja_cons (je_call ((ok__law_add T).mono (by decide)) hr (ja_cons (je_ix (je_ix (je_var 0) (je_var 2)) (je_var 3)) (ja_cons (je_ix (je_ix (je_var 0) (je_var 4)) (je_var 8)) ja_nil))) (ja_cons (je_call ((ok__law_add T).mono (by decide)) hr (ja_cons (je_ix (je_ix (je_var 0) (je_var 2)) (je_var 4)) (ja_cons (je_ix (je_ix (je_var 0) (je_var 3)) (je_var 8)) ja_nil))) (ja_cons (je_call ((ok__law_add T).mono (by decide)) hr (ja_cons (je_ix (je_ix (je_var 0) (je_var 2)) (je_var 8)) (ja_cons (je_ix (je_ix (je_var 0) (je_var 3)) (je_var 4)) ja_nil))) ja_nil))))) (jss_cons (js_set (i := 10) sc__law_due.nd (je_ix (je_var 9) je_int)) (jss_cons (js_for rfl (ji_any (je_var 9)) (jg_name (i := 11) sc__law_due.nd) (jss_one (js_if (jt_val (je_call ((ok__law_is_less T).mono (by decide)) hr (ja_cons (je_var 10) (ja_cons (je_var 11) ja_nil)))) (jss_one (js_set (i := 10) sc__law_due.nd (je_var 11))) jss_nil))) (jss_one (js_if (jt_cmp op_lt s_cmp (je_cb (call_lenA (by rfl)) sc_len T.b_len (ja_cons (je_lc rfl (own := [("one", 11)]) sc__law_due.nd (ji_any (je_var 9)) (blkOk_by (N := n__law_due) (sc := defScope s__law_due) (by decide +kernel)) (keeps_name (by decide)) (fun _ _ _ _ _ => (jg_name (i := 11) sc__law_due.nd)) (fun _ _ _ _ _ => (jts_one (jt_cmp (op_eqK (by rfl) hr.units) s_eq (je_var 11) (je_var 10)))) (fun _ _ _ _ _ => (je_var 11))) ja_nil)) je_int) (jss_one (js_ret (je_tup (ja_cons (je_var 2) (ja_cons (je_var 3) (ja_cons (je_var 4) (ja_cons (je_var 8) ja_nil))))))) jss_nil)))))))))))) (jss_one (js_ret je_non)))))⟩)
/-- _law_bag(script, k) -/
def r__law_bag : MF := mDef backT 2 3 ((mSeq (mAsg (mC (.int 0)) (mgName 2)) (mSeq (mIfS (mTest (mOp ltD (mVar 1) (mCB lenF (mCons (mVar 0) mNil)))) (mAsg (mCB intF (mCons (mOp ixD (mVar 0) (mVar 1)) mNil)) (mgName 2)) mNext) (mSeq (mIfS (mTest (mOp geD (mVar 2) (mOp powD (mC (.int 10)) (mC (.int 18))))) (mRet (mNew (mCons (mVar 2) (mCons (mVar 2) (mCons (mVar 1) mNil))))) mNext) (mRet (mNew (mCons (mC (.int 0)) (mCons (mVar 2) (mCons (mVar 1) mNil)))))))))
theorem ok__law_bag (T : Top G.K mg G) : FnD P w G.K mg base G 1 "_law_bag" 2 r__law_bag := by
  exact def_e rfl (back := backT) (N := n__law_bag) (ps := p__law_bag) backT_ok T.f__law_bag sc__law_bag (fun _ _ _ _ _ _ us hl => match us, hl with | [_, _], _ => rfl) (fun f cdv A outer s H E hr W => ⟨_, (jss_cons (js_set (i := 2) sc__law_bag.nd je_int) (jss_cons (js_if (jt_cmp op_lt s_cmp (je_var 1) (je_cb (call_lenA (by rfl)) sc_len T.b_len (ja_cons (je_var 0) ja_nil))) (jss_one (js_set (i := 2) sc__law_bag.nd (je_ct call_int1 sc_int T.b_int (ja_cons (je_ix (je_var 0) (je_var 1)) ja_nil)))) jss_nil) (jss_cons (js_if (jt_cmp op_ge s_cmp (je_var 2) (je_op op_pow s_pow je_int je_int)) (jss_one (js_ret (je_new (ja_cons (je_var 2) (ja_cons (je_var 2) (ja_cons (je_var 1) ja_nil)))))) jss_nil) (jss_one (js_ret (je_new (ja_cons je_int (ja_cons (je_var 2) (ja_cons (je_var 1) ja_nil)))))))))⟩)
/-- is_number(value) -/
def r_is_number : MF := mDef backF 1 3 ((mSeq (mIfS (mOr (mNot (mTest (mIsi "tuple" (mVar 0)))) (mTest (mOp neD (mCB lenF (mCons (mVar 0) mNil)) (mC (.int 2))))) (mRet (mC (.bl false))) mNext) (mSeq (mAsg (mVar 0) (mgTup 2 (mgCons (mgName 1) (mgCons (mgName 2) mgNil)))) (mSeq (mIfS (mOr (mNot (mTest (mIsi "int" (mVar 1)))) (mOr (mTest (mIsi "bool" (mVar 1))) (mOr (mNot (mTest (mIsi "int" (mVar 2)))) (mOr (mTest (mIsi "bool" (mVar 2))) (mTest (mOp ltD (mVar 2) (mC (.int 1)))))))) (mRet (mC (.bl false))) mNext) (mSeq (mWhile (mTest (mOp neD (mVar 1) (mC (.int 0)))) (mPar 1 2 (mCons (mOp modD (mVar 2) (mCB absF (mCons (mVar 1) mNil))) (mCons (mCB absF (mCons (mVar 1) mNil)) mNil)))) (mRet (mOp eqD (mVar 2) (mC (.int 1)))))))))
theorem ok_is_number (T : Top G.K mg G) : FnD P w G.K mg base G 1 "is_number" 1 r_is_number := by
  exact def_e rfl (back := backF) (N := n_is_number) (ps := p_is_number) backF_ok T.f_is_number sc_is_number (fun _ _ _ _ _ _ us hl => match us, hl with | [_], _ => rfl) (fun f cdv A outer s H E hr W => ⟨_, (jss_cons (js_if ((jw_or (jt_not (jt_val (je_isi (T := "tuple") (by decide) T.b_isinstance T.b_tuple (je_var 0)))) (jw_or1 (jt_cmp (op_neK (by rfl) hr.units) s_ne (je_cb (call_lenA (by rfl)) sc_len T.b_len (ja_cons (je_var 0) ja_nil)) je_int)))).jt (jss_one (js_ret je_bl)) jss_nil) (jss_cons (js_asg (je_var 0) (jg_tup (n := 2) rfl (jgs_cons (jg_name (i := 1) sc_is_number.nd) (jgs_cons (jg_name (i := 2) sc_is_number.nd) jgs_nil)))) (jss_cons (js_if ((jw_or (jt_not (jt_val (je_isi (T := "int") (by decide) T.b_isinstance T.b_int (je_var 1)))) (jw_or (jt_val (je_isi (T := "bool") (by decide) T.b_isinstance T.b_bool (je_var 1))) (jw_or (jt_not (jt_val (je_isi (T := "int") (by decide) T.b_isinstance T.b_int (je_var 2)))) (jw_or (jt_val (je_isi (T := "bool") (by decide) T.b_isinstance T.b_bool (je_var 2))) (jw_or1 (jt_cmp op_lt s_cmp (je_var 2) je_int))))))).jt (jss_one (js_ret je_bl)) jss_nil) (jss_cons (js_while (jt_cmp (op_neK (by rfl) hr.units) s_ne (je_var 1) je_int) (jss_one (js_par (i := 1) (j := 2) rfl sc_is_number.nd (ja_cons (je_op op_modN s_mod (je_var 2) (je_cb call_abs sc_abs T.b_abs (ja_cons (je_var 1) ja_nil))) (ja_cons (je_cb call_abs sc_abs T.b_abs (ja_cons (je_var 1) ja_nil)) ja_nil))))) (jss_one (js_ret (je_cmp (op_eqK (by rfl) hr.units) s_eq (je_var 2) je_int)))))))⟩)
/-- sign(x) -/
def r_sign : MF := mDef backF 1 1 ((mRet (mOp subD (mCB intF (mCons (mOp gtD (mOp ixD (mVar 0) (mC (.int 0))) (mC (.int 0))) mNil)) (mCB intF (mCons (mOp ltD (mOp ixD (mVar 0) (mC (.int 0))) (mC (.int 0))) mNil)))))
theorem ok_sign (T : Top G.K mg G) : FnD P w G.K mg base G 1 "sign" 1 r_sign := by
  exact def_e rfl (back := backF) (N := n_sign) (ps := p_sign) backF_ok T.f_sign sc_sign (fun _ _ _ _ _ _ us hl => match us, hl with | [_], _ => rfl) (fun f cdv A outer s H E hr W => ⟨_, (jss_one (js_ret (je_op op_sub s_sub (je_ct call_int1 sc_int T.b_int (ja_cons (je_cmp op_gt s_cmp (je_ix (je_var 0) je_int) je_int) ja_nil)) (je_ct call_int1 sc_int T.b_int (ja_cons (je_cmp op_lt s_cmp (je_ix (je_var 0) je_int) je_int) ja_nil)))))⟩)
/-- is_table(value) -/
def b_is_table_4 : MS := (mIfS (mOr (mNot (mTest (mIsi "tuple" (mVar 2)))) (mOr (mTest (mOp neD (mCB lenF (mCons (mVar 2) mNil)) (mVar 1))) (mNot (mTest (mCB allF (mCons (mLc [4] (mIter (mVar 2)) (mgName 4) mYes (mCall 1 r_is_number (mCons (mVar 4) mNil))) mNil)))))) (mRet (mC (.bl false))) mNext)
def l_is_table_4 : MS := (mFor (mIter (mVar 0)) (mgName 2) b_is_table_4)
def t_is_table_10 : MS := (mIfS (mNot (mTest (mCB allF (mCons (mLc [5] (mRng1 (mCons (mVar 3) mNil)) (mgName 5) mYes (mAndV (mOp gtD (mCall 1 r_sign (mCons (mOp ixD (mOp ixD (mVar 0) (mVar 3)) (mVar 5)) mNil)) (mC (.int 0))) (mOp eqD (mOp ixD (mOp ixD (mVar 0) (mVar 3)) (mVar 5)) (mOp ixD (mOp ixD (mVar 0) (mVar 5)) (mVar 3))))) mNil)))) (mRet (mC (.bl false))) mNext)
def b_is_table_7 : MS := (mSeq (mIfS (mTest (mOp neD (mOp ixD (mOp ixD (mVar 0) (mVar 3)) (mVar 3)) (mC (.tup [.int 0, .int 1])))) (mRet (mC (.bl false))) mNext) t_is_table_10)
def l_is_table_7 : MS := (mFor (mRng1 (mCons (mVar 1) mNil)) (mgName 3) b_is_table_7)
def t_is_table_12 : MS := (mRet (mC (.bl true)))
def t_is_table_7 : MS := (mSeq l_is_table_7 t_is_table_12)
def t_is_table_4 : MS := (mSeq l_is_table_4 t_is_table_7)
def t_is_table_3 : MS := (mSeq (mAsg (mCB lenF (mCons (mVar 0) mNil)) (mgName 1)) t_is_table_4)
def r_is_table : MF := mDef backF 1 6 ((mSeq (mIfS (mOr (mNot (mTest (mIsi "tuple" (mVar 0)))) (mNot (mTest (mChain leD leD (mC (.int 2)) (mCB lenF (mCons (mVar 0) mNil)) (mC (.int 16)))))) (mRet (mC (.bl false))) mNext) t_is_table_3))
theorem ok_is_table (T : Top G.K mg G) : FnD P w G.K mg base G 2 "is_table" 1 r_is_table := by
  exact def_e rfl (back := backF) (N := n_is_table) (ps := p_is_table) backF_ok T.f_is_table sc_is_table (fun _ _ _ _ _ _ us hl => match us, hl with | [_], _ => rfl) (fun f cdv A outer s H E hr W => ⟨_, (jss_cons (js_if ((jw_or (jt_not (jt_val (je_isi (T := "tuple") (by decide) T.b_isinstance T.b_tuple (je_var 0)))) (jw_or1 (jt_not (jt_chain op_le s_cmp op_le s_cmp je_int (je_cb (call_lenA (by rfl)) sc_len T.b_len (ja_cons (je_var 0) ja_nil)) (je_glb T.g_MOST_TABLE)))))).jt (jss_one (js_ret je_bl)) jss_nil) (jss_cons (js_set (i := 1) sc_is_table.nd (je_cb (call_lenA (by rfl)) sc_len T.b_len (ja_cons (je_var 0) ja_nil))) (jss_cons (js_for rfl (ji_any (je_var 0)) (jg_name (i := 2) sc_is_table.nd) (jss_one (js_if ((jw_or (jt_not (jt_val (je_isi (T := "tuple") (by decide) T.b_isinstance T.b_tuple (je_var 2)))) (jw_or (jt_cmp (op_neK (by rfl) hr.units) s_ne (je_cb (call_lenA (by rfl)) sc_len T.b_len (ja_cons (je_var 2) ja_nil)) (je_var 1)) (jw_or1 (jt_not (jt_val (je_cb (cr_allK (by rfl) rfl) sc_all T.b_all (ja_cons (je_lc rfl (own := [("one", 4)]) sc_is_table.nd (ji_any (je_var 2)) (blkOk_by (N := n_is_table) (sc := defScope s_is_table) (by decide +kernel)) (keeps_name (by decide)) (fun _ _ _ _ _ => (jg_name (i := 4) sc_is_table.nd)) (fun _ _ _ _ _ => jts_nil) (fun _ _ _ _ _ => (je_call ((ok_is_number T).mono (by decide)) hr (ja_cons (je_var 4) ja_nil)))) ja_nil)))))))).jt (jss_one (js_ret je_bl)) jss_nil))) (jss_cons (js_for rfl (ji_rng1 T.b_range (ja_cons (je_var 1) ja_nil)) (jg_name (i := 3) sc_is_table.nd) (jss_cons (js_if (jt_cmp (op_neK (by rfl) hr.units) s_ne (je_ix (je_ix (je_var 0) (je_var 3)) (je_var 3)) (je_glb T.g_ZERO)) (jss_one (js_ret je_bl)) jss_nil) (jss_one (js_if (jt_not (jt_val (je_cb (cr_allK (by rfl) rfl) sc_all T.b_all (ja_cons (je_lc rfl (own := [("j", 5)]) sc_is_table.nd (ji_rng1 T.b_range (ja_cons (je_var 3) ja_nil)) (blkOk_by (N := n_is_table) (sc := defScope s_is_table) (by decide +kernel)) (keeps_name (by decide)) (fun _ _ _ _ _ => (jg_name (i := 5) sc_is_table.nd)) (fun _ _ _ _ _ => jts_nil) (fun _ _ _ _ _ => (je_and (je_cmp op_gt s_cmp (je_call ((ok_sign T).mono (by decide)) hr (ja_cons (je_ix (je_ix (je_var 0) (je_var 3)) (je_var 5)) ja_nil)) je_int) (je_one (je_cmp (op_eqK (by rfl) hr.units) s_eq (je_ix (je_ix (je_var 0) (je_var 3)) (je_var 5)) (je_ix (je_ix (je_var 0) (je_var 5)) (je_var 3))))))) ja_nil)))) (jss_one (js_ret je_bl)) jss_nil)))) (jss_one (js_ret je_bl))))))⟩)
/-- look_at_table(table) -/
def r_look_at_table : MF := mDef backF 1 1 ((mIfS (mNot (mTest (mCall 1 r_is_table (mCons (mVar 0) mNil)))) (mRaise "BadValue") mNext))
theorem ok_look_at_table (T : Top G.K mg G) : FnD P w G.K mg base G 3 "look_at_table" 1 r_look_at_table := by
  exact def_e rfl (back := backF) (N := n_look_at_table) (ps := p_look_at_table) backF_ok T.f_look_at_table sc_look_at_table (fun _ _ _ _ _ _ us hl => match us, hl with | [_], _ => rfl) (fun f cdv A outer s H E hr W => ⟨_, (jss_one (js_if (jt_not (jt_val (je_call ((ok_is_table T).mono (by decide)) hr (ja_cons (je_var 0) ja_nil)))) (jss_one (js_raise T.c_BadValue rfl)) jss_nil))⟩)
/-- less(x, y) -/
def r_less : MF := mDef backF 2 2 ((mRet (mOp ltD (mOp mulD (mOp ixD (mVar 0) (mC (.int 0))) (mOp ixD (mVar 1) (mC (.int 1)))) (mOp mulD (mOp ixD (mVar 1) (mC (.int 0))) (mOp ixD (mVar 0) (mC (.int 1)))))))
theorem ok_less (T : Top G.K mg G) : FnD P w G.K mg base G 1 "less" 2 r_less := by
  exact def_e rfl (back := backF) (N := n_less) (ps := p_less) backF_ok T.f_less sc_less (fun _ _ _ _ _ _ us hl => match us, hl with | [_, _], _ => rfl) (fun f cdv A outer s H E hr W => ⟨_, (jss_one (js_ret (je_cmp op_lt s_cmp (je_op op_mulA s_mul (je_ix (je_var 0) je_int) (je_ix (je_var 1) je_int)) (je_op op_mulA s_mul (je_ix (je_var 1) je_int) (je_ix (je_var 0) je_int)))))⟩)
/-- common(p, q) -/
def r_common : MF := mDef backF 2 2 ((mSeq (mWhile (mTest (mOp neD (mVar 1) (mC (.int 0)))) (mPar 0 1 (mCons (mVar 1) (mCons (mOp modD (mVar 0) (mVar 1)) mNil)))) (mRet (mCB absF (mCons (mVar 0) mNil)))))
theorem ok_common (T : Top G.K mg G) : FnD P w G.K mg base G 1 "common" 2 r_common := by
  exact def_e rfl (back := backF) (N := n_common) (ps := p_common) backF_ok T.f_common sc_common (fun _ _ _ _ _ _ us hl => match us, hl with | [_, _], _ => rfl) (fun f cdv A outer s H E hr W => ⟨_, (jss_cons (js_while (jt_cmp (op_neK (by rfl) hr.units) s_ne (je_var 1) je_int) (jss_one (js_par (i := 0) (j := 1) rfl sc_common.nd (ja_cons (je_var 1) (ja_cons (je_op op_modN s_mod (je_var 0) (je_var 1)) ja_nil))))) (jss_one (js_ret (je_cb call_abs sc_abs T.b_abs (ja_cons (je_var 0) ja_nil)))))⟩)
/-- fraction(p, q) -/
def r_fraction : MF := mDef backF 2 3 ((mSeq (mIfS (mTest (mOp eqD (mVar 1) (mC (.int 0)))) (mRaise "BadValue") mNext) (mSeq (mIfS (mTest (mOp ltD (mVar 1) (mC (.int 0)))) (mPar 0 1 (mCons (mUn negD (mVar 0)) (mCons (mUn negD (mVar 1)) mNil))) mNext) (mSeq (mAsg (mCall 2 r_common (mCons (mVar 0) (mCons (mVar 1) mNil))) (mgName 2)) (mRet (mTup (mCons (mOp fdivD (mVar 0) (mVar 2)) (mCons (mOp fdivD (mVar 1) (mVar 2)) mNil))))))))
theorem ok_fraction (T : Top G.K mg G) : FnD P w G.K mg base G 2 "fraction" 2 r_fraction := by
  exact def_e rfl (back := backF) (N := n_fraction) (ps := p_fraction) backF_ok T.f_fraction sc_fraction (fun _ _ _ _ _ _ us hl => match us, hl with | [_, _], _ => rfl) (fun f cdv A outer s H E hr W => ⟨_, (jss_cons (js_if (jt_cmp (op_eqK (by rfl) hr.units) s_eq (je_var 1) je_int) (jss_one (js_raise T.c_BadValue rfl)) jss_nil) (jss_cons (js_if (jt_cmp op_lt s_cmp (je_var 1) je_int) (jss_one (js_par (i := 0) (j := 1) rfl sc_fraction.nd (ja_cons (je_neg (je_var 0)) (ja_cons (je_neg (je_var 1)) ja_nil)))) jss_nil) (jss_cons (js_set (i := 2) sc_fraction.nd (je_call ((ok_common T).mono (by decide)) hr (ja_cons (je_var 0) (ja_cons (je_var 1) ja_nil)))) (jss_one (js_ret (je_tup (ja_cons (je_op op_fdivA s_fdiv (je_var 0) (je_var 2)) (ja_cons (je_op op_fdivA s_fdiv (je_var 1) (je_var 2)) ja_nil))))))))⟩)
/-- plus(x, y) -/
def r_plus : MF := mDef backF 2 2 ((mRet (mCall 2 r_fraction (mCons (mOp addD (mOp mulD (mOp ixD (mVar 0) (mC (.int 0))) (mOp ixD (mVar 1) (mC (.int 1)))) (mOp mulD (mOp ixD (mVar 1) (mC (.int 0))) (mOp ixD (mVar 0) (mC (.int 1))))) (mCons (mOp mulD (mOp ixD (mVar 0) (mC (.int 1))) (mOp ixD (mVar 1) (mC (.int 1)))) mNil)))))
theorem ok_plus (T : Top G.K mg G) : FnD P w G.K mg base G 3 "plus" 2 r_plus := by
  exact def_e rfl (back := backF) (N := n_plus) (ps := p_plus) backF_ok T.f_plus sc_plus (fun _ _ _ _ _ _ us hl => match us, hl with | [_, _], _ => rfl) (fun f cdv A outer s H E hr W => ⟨_, (jss_one (js_ret (je_call ((ok_fraction T).mono (by decide)) hr (ja_cons (je_op (op_addA (by rfl)) s_add (je_op op_mulA s_mul (je_ix (je_var 0) je_int) (je_ix (je_var 1) je_int)) (je_op op_mulA s_mul (je_ix (je_var 1) je_int) (je_ix (je_var 0) je_int))) (ja_cons (je_op op_mulA s_mul (je_ix (je_var 0) je_int) (je_ix (je_var 1) je_int)) ja_nil)))))⟩)
/-- is_far(one, other, third) -/
def r_is_far : MF := mDef backF 3 7 ((mSeq (mAsg (mLst (mCons (mTup (mCons (mVar 0) (mCons (mVar 1) (mCons (mVar 2) mNil)))) (mCons (mTup (mCons (mVar 1) (mCons (mVar 0) (mCons (mVar 2) mNil)))) (mCons (mTup (mCons (mVar 2) (mCons (mVar 0) (mCons (mVar 1) mNil)))) mNil)))) (mgName 3)) (mRet (mCB anyF (mCons (mLc [4, 5, 6] (mIter (mVar 3)) (mgTup 3 (mgCons (mgName 4) (mgCons (mgName 5) (mgCons (mgName 6) mgNil)))) mYes (mCall 2 r_less (mCons (mCall 2 r_plus (mCons (mVar 5) (mCons (mVar 6) mNil))) (mCons (mVar 4) mNil)))) mNil)))))
theorem ok_is_far (T : Top G.K mg G) : FnD P w G.K mg base G 4 "is_far" 3 r_is_far := by
  exact def_e rfl (back := backF) (N := n_is_far) (ps := p_is_far) backF_ok T.f_is_far sc_is_far (fun _ _ _ _ _ _ us hl => match us, hl with | [_, _, _], _ => rfl) (fun f cdv A outer s H E hr W => ⟨_, (jss_cons (js_set (i := 3) sc_is_far.nd (je_lst (ja_cons (je_tup (ja_cons (je_var 0) (ja_cons (je_var 1) (ja_cons (je_var 2) ja_nil)))) (ja_cons (je_tup (ja_cons (je_var 1) (ja_cons (je_var 0) (ja_cons (je_var 2) ja_nil)))) (ja_cons (je_tup (ja_cons (je_var 2) (ja_cons (je_var 0) (ja_cons (je_var 1) ja_nil)))) ja_nil))))) (jss_one (js_ret (je_cb (cr_anyK (by rfl) rfl) sc_any T.b_any (ja_cons (je_lc rfl (own := [("a", 4), ("b", 5), ("c", 6)]) sc_is_far.nd (ji_any (je_var 3)) (blkOk_by (N := n_is_far) (sc := defScope s_is_far) (by decide +kernel)) (keeps_tup (keeps_cons (by decide) (keeps_cons (by decide) (keeps_cons (by decide) (keeps_nil))))) (fun _ _ _ _ _ => (jg_tup (n := 3) rfl (jgs_cons (jg_name (i := 4) sc_is_far.nd) (jgs_cons (jg_name (i := 5) sc_is_far.nd) (jgs_cons (jg_name (i := 6) sc_is_far.nd) jgs_nil))))) (fun _ _ _ _ _ => jts_nil) (fun _ _ _ _ _ => (je_call ((ok_less T).mono (by decide)) hr (ja_cons (je_call ((ok_plus T).mono (by decide)) hr (ja_cons (je_var 5) (ja_cons (je_var 6) ja_nil))) (ja_cons (je_var 4) ja_nil))))) ja_nil)))))⟩)
/-- are_four(table, i, j, k, l) -/
def b_are_four_2 : MS := (mIfS (mAnd (mTest (mOp eqD (mOp ixD (mVar 5) (mVar 6)) (mOp ixD (mVar 5) (mVar 7)))) (mNot (mTest (mCall 2 r_less (mCons (mOp ixD (mVar 5) (mVar 6)) (mCons (mOp ixD (mVar 5) (mVar 8)) mNil)))))) (mRet (mC (.bl true))) mNext)
def l_are_four_2 : MS := (mFor (mIter (mTup (mCons (mTup (mCons (mC (.int 0)) (mCons (mC (.int 1)) (mCons (mC (.int 2)) mNil)))) (mCons (mTup (mCons (mC (.int 0)) (mCons (mC (.int 2)) (mCons (mC (.int 1)) mNil)))) (mCons (mTup (mCons (mC (.int 1)) (mCons (mC (.int 2)) (mCons (mC (.int 0)) mNil)))) mNil))))) (mgTup 3 (mgCons (mgName 6) (mgCons (mgName 7) (mgCons (mgName 8) mgNil)))) b_are_four_2)
def t_are_four_5 : MS := (mRet (mC (.bl false)))
def t_are_four_2 : MS := (mSeq l_are_four_2 t_are_four_5)
def r_are_four : MF := mDef backF 5 9 ((mSeq (mAsg (mLst (mCons (mCall 2 r_plus (mCons (mOp ixD (mOp ixD (mVar 0) (mVar 1)) (mVar 2)) (mCons (mOp ixD (mOp ixD (mVar 0) (mVar 3)) (mVar 4)) mNil))) (mCons (mCall 2 r_plus (mCons (mOp ixD (mOp ixD (mVar 0) (mVar 1)) (mVar 3)) (mCons (mOp ixD (mOp ixD (mVar 0) (mVar 2)) (mVar 4)) mNil))) (mCons (mCall 2 r_plus (mCons (mOp ixD (mOp ixD (mVar 0) (mVar 1)) (mVar 4)) (mCons (mOp ixD (mOp ixD (mVar 0) (mVar 2)) (mVar 3)) mNil))) mNil)))) (mgName 5)) t_are_four_2))
theorem ok_are_four (T : Top G.K mg G) : FnD P w G.K mg base G 4 "are_four" 5 r_are_four := by
  exact def_e rfl (back := backF) (N := n_are_four) (ps := p_are_four) backF_ok T.f_are_four sc_are_four (fun _ _ _ _ _ _ us hl => match us, hl with | [_, _, _, _, _], _ => rfl) (fun f cdv A outer s H E hr W => ⟨_, (jss_cons (js_set (i := 5) sc_are_four.nd (je_lst (ja_cons (je_call ((ok_plus T).mono (by decide)) hr (ja_cons (je_ix (je_ix (je_var 0) (je_var 1)) (je_var 2)) (ja_cons (je_ix (je_ix (je_var 0) (je_var 3)) (je_var 4)) ja_nil))) (ja_cons (je_call ((ok_plus T).mono (by decide)) hr (ja_cons (je_ix (je_ix (je_var 0) (je_var 1)) (je_var 3)) (ja_cons (je_ix (je_ix (je_var 0) (je_var 2)) (je_var 4)) ja_nil))) (ja_cons (je_call ((ok_plus T).mono (by decide)) hr (ja_cons (je_ix (je_ix (je_var 0) (je_var 1)) (je_var 4)) (ja_cons (je_ix (je_ix (je_var 0) (je_var 2)) (je_var 3)) ja_nil))) ja_nil))))) (jss_cons (js_for rfl (ji_any (je_tup (ja_cons (je_tup (ja_cons je_int (ja_cons je_int (ja_cons je_int ja_nil)))) (ja_cons (je_tup (ja_cons je_int (ja_cons je_int (ja_cons je_int ja_nil)))) (ja_cons (je_tup (ja_cons je_int (ja_cons je_int (ja_cons je_int ja_nil)))) ja_nil))))) (jg_tup (n := 3) rfl (jgs_cons (jg_name (i := 6) sc_are_four.nd) (jgs_cons (jg_name (i := 7) sc_are_four.nd) (jgs_cons (jg_name (i := 8) sc_are_four.nd) jgs_nil)))) (jss_one (js_if ((jw_and (jt_cmp (op_eqK (by rfl) hr.units) s_eq (je_ix (je_var 5) (je_var 6)) (je_ix (je_var 5) (je_var 7))) (jw_and1 (jt_not (jt_val (je_call ((ok_less T).mono (by decide)) hr (ja_cons (je_ix (je_var 5) (je_var 6)) (ja_cons (je_ix (je_var 5) (je_var 8)) ja_nil)))))))).jt (jss_one (js_ret je_bl)) jss_nil))) (jss_one (js_ret je_bl))))⟩)
/-- fault(table) -/
def b_fault_5 : MS := (mIfS (mTest (mCall 3 r_is_far (mCons (mOp ixD (mOp ixD (mVar 0) (mVar 2)) (mVar 3)) (mCons (mOp ixD (mOp ixD (mVar 0) (mVar 2)) (mVar 4)) (mCons (mOp ixD (mOp ixD (mVar 0) (mVar 3)) (mVar 4)) mNil))))) (mRet (mTup (mCons (mVar 2) (mCons (mVar 3) (mCons (mVar 4) mNil))))) mNext)
def l_fault_5 : MS := (mFor (mRng2 (mCons (mOp addD (mVar 3) (mC (.int 1))) (mCons (mVar 1) mNil))) (mgName 4) b_fault_5)
def l_fault_4 : MS := (mFor (mRng2 (mCons (mOp addD (mVar 2) (mC (.int 1))) (mCons (mVar 1) mNil))) (mgName 3) l_fault_5)
def l_fault_3 : MS := (mFor (mRng1 (mCons (mVar 1) mNil)) (mgName 2) l_fault_4)
def b_fault_11 : MS := (mIfS (mNot (mTest (mCall 5 r_are_four (mCons (mVar 0) (mCons (mVar 2) (mCons (mVar 3) (mCons (mVar 4) (mCons (mVar 5) mNil)))))))) (mRet (mTup (mCons (mVar 2) (mCons (mVar 3) (mCons (mVar 4) (mCons (mVar 5) mNil)))))) mNext)
def l_fault_11 : MS := (mFor (mRng2 (mCons (mOp addD (mVar 4) (mC (.int 1))) (mCons (mVar 1) mNil))) (mgName 5) b_fault_11)
def l_fault_10 : MS := (mFor (mRng2 (mCons (mOp addD (mVar 3) (mC (.int 1))) (mCons (mVar 1) mNil))) (mgName 4) l_fault_11)
def l_fault_9 : MS := (mFor (mRng2 (mCons (mOp addD (mVar 2) (mC (.int 1))) (mCons (mVar 1) mNil))) (mgName 3) l_fault_10)
def l_fault_8 : MS := (mFor (mRng1 (mCons (mVar 1) mNil)) (mgName 2) l_fault_9)
def t_fault_14 : MS := (mRet (mC .non))
def t_fault_8 : MS := (mSeq l_fault_8 t_fault_14)
def t_fault_3 : MS := (mSeq l_fault_3 t_fault_8)
def t_fault_2 : MS := (mSeq (mAsg (mCB lenF (mCons (mVar 0) mNil)) (mgName 1)) t_fault_3)
def r_fault : MF := mDef backF 1 6 ((mSeq (mExpr (mCall 1 r_look_at_table (mCons (mVar 0) mNil))) t_fault_2))
theorem ok_fault (T : Top G.K mg G) : FnD P w G.K mg base G 5 "fault" 1 r_fault := by
  exact def_e rfl (back := backF) (N := n_fault) (ps := p_fault) backF_ok T.f_fault sc_fault (fun _ _ _ _ _ _ us hl => match us, hl with | [_], _ => rfl) (fun f cdv A outer s H E hr W => ⟨_, (jss_cons (js_expr (je_call ((ok_look_at_table T).mono (by decide)) hr (ja_cons (je_var 0) ja_nil))) (jss_cons (js_set (i := 1) sc_fault.nd (je_cb (call_lenA (by rfl)) sc_len T.b_len (ja_cons (je_var 0) ja_nil))) (jss_cons (js_for rfl (ji_rng1 T.b_range (ja_cons (je_var 1) ja_nil)) (jg_name (i := 2) sc_fault.nd) (jss_one (js_for rfl (ji_rng2 T.b_range (ja_cons (je_op (op_addA (by rfl)) s_add (je_var 2) je_int) (ja_cons (je_var 1) ja_nil))) (jg_name (i := 3) sc_fault.nd) (jss_one (js_for rfl (ji_rng2 T.b_range (ja_cons (je_op (op_addA (by rfl)) s_add (je_var 3) je_int) (ja_cons (je_var 1) ja_nil))) (jg_name (i := 4) sc_fault.nd) (jss_one (js_if (jt_val (je_call ((ok_is_far T).mono (by decide)) hr (ja_cons (je_ix (je_ix (je_var 0) (je_var 2)) (je_var 3)) (ja_cons (je_ix (je_ix (je_var 0) (je_var 2)) (je_var 4)) (ja_cons (je_ix (je_ix (je_var 0) (je_var 3)) (je_var 4)) ja_nil))))) (jss_one (js_ret (je_tup (ja_cons (je_var 2) (ja_cons (je_var 3) (ja_cons (je_var 4) ja_nil)))))) jss_nil))))))) (jss_cons (js_for rfl (ji_rng1 T.b_range (ja_cons (je_var 1) ja_nil)) (jg_name (i := 2) sc_fault.nd) (jss_one (js_for rfl (ji_rng2 T.b_range (ja_cons (je_op (op_addA (by rfl)) s_add (je_var 2) je_int) (ja_cons (je_var 1) ja_nil))) (jg_name (i := 3) sc_fault.nd) (jss_one (js_for rfl (ji_rng2 T.b_range (ja_cons (je_op (op_addA (by rfl)) s_add (je_var 3) je_int) (ja_cons (je_var 1) ja_nil))) (jg_name (i := 4) sc_fault.nd) (jss_one (js_for rfl (ji_rng2 T.b_range (ja_cons (je_op (op_addA (by rfl)) s_add (je_var 4) je_int) (ja_cons (je_var 1) ja_nil))) (jg_name (i := 5) sc_fault.nd) (jss_one (js_if (jt_not (jt_val (je_call ((ok_are_four T).mono (by decide)) hr (ja_cons (je_var 0) (ja_cons (je_var 2) (ja_cons (je_var 3) (ja_cons (je_var 4) (ja_cons (je_var 5) ja_nil)))))))) (jss_one (js_ret (je_tup (ja_cons (je_var 2) (ja_cons (je_var 3) (ja_cons (je_var 4) (ja_cons (je_var 5) ja_nil))))))) jss_nil))))))))) (jss_one (js_ret je_non))))))⟩)
/-- four_points(table) -/
def r_four_points : MF := mDef backF 1 1 ((mRet (mOp isND (mCall 1 r_fault (mCons (mVar 0) mNil)) (mC .non))))
theorem ok_four_points (T : Top G.K mg G) : FnD P w G.K mg base G 6 "four_points" 1 r_four_points := by
  exact def_e rfl (back := backF) (N := n_four_points) (ps := p_four_points) backF_ok T.f_four_points sc_four_points (fun _ _ _ _ _ _ us hl => match us, hl with | [_], _ => rfl) (fun f cdv A outer s H E hr W => ⟨_, (jss_one (js_ret (je_cmp op_isN s_isN (je_call ((ok_fault T).mono (by decide)) hr (ja_cons (je_var 0) ja_nil)) je_non)))⟩)
/-- _law_told(call, table) -/
def r__law_told : MF := mDef backF 2 2 ((mTry (mRet (mCallV 0 [("fault", 1, r_fault), ("four_points", 1, r_four_points)] (mCons (mVar 1) mNil))) [("BadValue", (mRet (mC (.str "value"))))]))
theorem ok__law_told (T : Top G.K mg G) : FnD P w G.K mg base G 7 "_law_told" 2 r__law_told := by
  exact def_e rfl (back := backF) (N := n__law_told) (ps := p__law_told) backF_ok T.f__law_told sc__law_told (fun _ _ _ _ _ _ us hl => match us, hl with | [_, _], _ => rfl) (fun f cdv A outer s H E hr W => ⟨_, (jss_one (js_try T.em rfl rfl (fun W _ _ => (jss_one (js_ret (je_callV (i := 0) (FsOk.cons ((ok_fault T).mono (by decide)) (FsOk.cons ((ok_four_points T).mono (by decide)) FsOk.nil)) hr (ja_cons (je_var 1) ja_nil))))) (HsOk.cons T.c_BadValue rfl (by decide) (fun _ _ _ => (jss_one (js_ret je_str))) HsOk.nil)))⟩)
/-- law(script) -/
def b_law_6 : MS := (mIfS (mOr (mTest (mOp neD (mCall 2 r__law_told (mCons (mC (.fn "fault")) (mCons (mVar 4) mNil))) (mC (.str "value")))) (mTest (mOp neD (mCall 2 r__law_told (mCons (mC (.fn "four_points")) (mCons (mVar 4) mNil))) (mC (.str "value"))))) (mRet (mC (.bl false))) mNext)
def l_law_6 : MS := (mFor (mIter (mLst (mCons (mC .non) (mCons (mSl slD (mVar 2) mNoPart (mPart (mUn negD (mC (.int 1))))) (mCons (mCB listF (mCons (mVar 2) mNil)) (mCons (mTup (mCons (mTup (mCons (mTup (mCons (mC (.int 0)) (mCons (mC (.int 1)) mNil))) (mCons (mTup (mCons (mC (.int 1)) (mCons (mC (.int 2)) mNil))) mNil))) (mCons (mTup (mCons (mTup (mCons (mC (.int 1)) (mCons (mC (.int 3)) mNil))) (mCons (mTup (mCons (mC (.int 0)) (mCons (mC (.int 1)) mNil))) mNil))) mNil))) (mCons (mTup (mCons (mTup (mCons (mTup (mCons (mC (.int 0)) (mCons (mC (.int 1)) mNil))) mNil)) mNil)) mNil))))))) (mgName 4) b_law_6)
def t_law_4 : MS := (mSeq (mIfS (mOr (mTest (mOp neD (mCall 1 r_fault (mCons (mVar 2) mNil)) (mVar 3))) (mTest (mOp neD (mCall 1 r_four_points (mCons (mVar 2) mNil)) (mOp isND (mVar 3) (mC .non))))) (mRet (mC (.bl false))) mNext) l_law_6)
def t_law_3 : MS := (mSeq (mAsg (mCall 1 r__law_due (mCons (mVar 2) mNil)) (mgName 3)) t_law_4)
def b_law_1 : MS := (mSeq (mAsg (mCall 1 r__law_table (mCons (mCall 2 r__law_bag (mCons (mVar 0) (mCons (mVar 1) mNil))) mNil)) (mgName 2)) t_law_3)
def l_law_1 : MS := (mFor (mRng1 (mCons (mCB min2F (mCons (mCB max2F (mCons (mCB lenF (mCons (mVar 0) mNil)) (mCons (mC (.int 1)) mNil))) (mCons (mC (.int 5)) mNil))) mNil)) (mgName 1) b_law_1)
def t_law_9 : MS := (mRet (mC (.bl true)))
def r_law : MF := mDef backF 1 5 ((mSeq l_law_1 t_law_9))
theorem fn_law (T : Top G.K mg G) {f : Addr} {fd : FuncData} (F : Fun G.K "law" "law" s_law f fd) : FnOk P w G.K mg base (L2.CX P w) 8 f fd p_law (spD G G.K 1 r_law) :=
  def_fn rfl (back := backF) (N := n_law) (ps := p_law) backF_ok F sc_law (fun cdv A outer s H E hr W => ⟨_, (jss_cons (js_for rfl (ji_rng1 T.b_range (ja_cons (je_cb (call_min2 rfl) sc_min2 T.b_min (ja_cons (je_cb (call_max2 rfl) sc_max2 T.b_max (ja_cons (je_cb (call_lenA (by rfl)) sc_len T.b_len (ja_cons (je_var 0) ja_nil)) (ja_cons je_int ja_nil))) (ja_cons je_int ja_nil))) ja_nil)) (jg_name (i := 1) sc_law.nd) (jss_cons (js_set (i := 2) sc_law.nd (je_call ((ok__law_table T).mono (by decide)) hr (ja_cons (je_call ((ok__law_bag T).mono (by decide)) hr (ja_cons (je_var 0) (ja_cons (je_var 1) ja_nil))) ja_nil))) (jss_cons (js_set (i := 3) sc_law.nd (je_call ((ok__law_due T).mono (by decide)) hr (ja_cons (je_var 2) ja_nil))) (jss_cons (js_if ((jw_or (jt_cmp (op_neK (by rfl) hr.units) s_ne (je_call ((ok_fault T).mono (by decide)) hr (ja_cons (je_var 2) ja_nil)) (je_var 3)) (jw_or1 (jt_cmp (op_neK (by rfl) hr.units) s_ne (je_call ((ok_four_points T).mono (by decide)) hr (ja_cons (je_var 2) ja_nil)) (je_cmp op_isN s_isN (je_var 3) je_non))))).jt (jss_one (js_ret je_bl)) jss_nil) (jss_one (js_for rfl (ji_any (je_lst (ja_cons je_non (ja_cons (je_sl (je_var 2) jo_none (jo_some (je_neg je_int))) (ja_cons (je_ct (call_listK (by rfl)) sc_list T.b_list (ja_cons (je_var 2) ja_nil)) (ja_cons (je_tup (ja_cons (je_tup (ja_cons (je_tup (ja_cons je_int (ja_cons je_int ja_nil))) (ja_cons (je_tup (ja_cons je_int (ja_cons je_int ja_nil))) ja_nil))) (ja_cons (je_tup (ja_cons (je_tup (ja_cons je_int (ja_cons je_int ja_nil))) (ja_cons (je_tup (ja_cons je_int (ja_cons je_int ja_nil))) ja_nil))) ja_nil))) (ja_cons (je_tup (ja_cons (je_tup (ja_cons (je_tup (ja_cons je_int (ja_cons je_int ja_nil))) ja_nil)) ja_nil)) ja_nil))))))) (jg_name (i := 4) sc_law.nd) (jss_one (js_if ((jw_or (jt_cmp (op_neK (by rfl) hr.units) s_ne (je_call ((ok__law_told T).mono (by decide)) hr (ja_cons (je_fn (ok_fault T)) (ja_cons (je_var 4) ja_nil))) je_str) (jw_or1 (jt_cmp (op_neK (by rfl) hr.units) s_ne (je_call ((ok__law_told T).mono (by decide)) hr (ja_cons (je_fn (ok_four_points T)) (ja_cons (je_var 4) ja_nil))) je_str)))).jt (jss_one (js_ret je_bl)) jss_nil)))))))) (jss_one (js_ret je_bl)))⟩)
end
end
end K68


namespace K68
open PySem PySem.Spec PyProof.Rows L2 DL
local macro_rules | `(tactic| walk_at "sem1") => `(tactic| (simp only [mDef, mSeq, mRet, mRetN, mNext, mIfS, mAsg, mExpr, mPar, mPar3, toOut, mOp, mUn, mVar, mC, mTest, mCall, mCons, mNil, mgName, mgTup, mgCons, mgNil, mgSub, noEx, outR, mCB, mTup, mLst, mIsi, mAnd, mOr, mNot, mAndV, mOrV, mNotV, mIf, mChain, mRaise, mPart, mNoPart, mSl, mYes,
  R.bind_ok, R.bind_ex, R.bind_stuck, List.length_cons, List.length_nil, List.map_cons, List.map_nil, List.replicate_zero, List.replicate_succ, List.cons_append, List.nil_append, List.append_nil, List.getElem?_cons_zero, List.getElem?_cons_succ, List.set_cons_zero, List.set_cons_succ, Nat.sub_self, Nat.add_one_sub_one, Nat.reduceAdd, Nat.reduceSub, Nat.reduceLeDiff, if_true, if_false, reduceIte, backT, backF,
  eqD_int, neD_int, addD, subD, cmpD, negD, absF, intF, max2F, min2F, modD, bne_iff_ne, Bool.not_true, Bool.not_false, beq_self_eq_true]))
local macro_rules | `(tactic| walk_at "sem") => `(tactic| (repeat walk_at "sem1"))
/-! ### the program's fractions -/
theorem common_ok (p q : Int) (s : Sto) : r_common [.int p, .int q] s = .ok (.int (Int.gcd p q : Nat)) s := by
  unfold r_common
  obtain ⟨g, h1, _, h3⟩ := euclid_while (i := 0) (j := 1) (by decide) q.natAbs p q [some (.int p), some (.int q)] s (Nat.le_refl _) rfl rfl
  walk_at "sem"
  rw [h3]
  walk_at "sem"
  have e : (if g < 0 then -g else g) = ((Int.gcd p q : Nat) : Int) := by split <;> omega
  rw [e]
theorem gcd_small {p q : Int} {N : Nat} (hq : q.natAbs < 2 ^ N) (h0 : q ≠ 0) : ((Int.gcd p q : Nat) : Int) ≠ 0 ∧ ((Int.gcd p q : Nat) : Int).natAbs < 2 ^ N := by
  have h1 : 0 < Int.gcd p q := Int.gcd_pos_of_ne_zero_right _ h0
  have h2 : Int.gcd p q ≤ q.natAbs := Int.gcd_le_natAbs_right _ h0
  omega
theorem fraction_ok {p q : Int} {N : Nat} (s : Sto) (hq : q.natAbs < 2 ^ N) (h0 : q ≠ 0) (hN : 0 < N) (h9 : N ≤ 9000) : r_fraction [.int p, .int q] s = .ok (fr (Rat.divInt p q)) s := by
  have pos : ∀ {p q : Int}, q.natAbs < 2 ^ N → 0 < q → (fdivD (.int p) (.int (Int.gcd p q : Nat)) s).bind (fun d s1 => (fdivD (.int q) (.int (Int.gcd p q : Nat)) s1).bind fun e s2 => .ok [d, e] s2) = .ok [.int (Rat.divInt p q).num, .int (Rat.divInt p q).den] s := fun {p q} hq h0 => by
    obtain ⟨g0, g1⟩ := gcd_small (p := p) hq (by omega)
    have hd := divOk_of g0 g1 hN h9
    simp only [fdivD, hd, if_true, R.bind_ok]
    rw [divInt_num h0, divInt_den h0]
  unfold r_fraction
  walk_at "sem"
  have e0 : (q == 0) = false := by simp [h0]
  rw [e0]
  walk_at "sem"
  by_cases hneg : q < 0
  · have e1 : decide (q < 0) = true := by simp [hneg]
    rw [e1]
    walk_at "sem"
    rw [common_ok]
    walk_at "sem"
    have k := pos (p := -p) (q := -q) (by rw [Int.natAbs_neg]; exact hq) (by omega)
    rw [Rat.neg_divInt_neg] at k
    obtain ⟨g0, g1⟩ := gcd_small (p := -p) (q := -q) (N := N) (by rw [Int.natAbs_neg]; exact hq) (by omega)
    have hd := divOk_of g0 g1 hN h9
    simp only [fdivD, hd, if_true, R.bind_ok] at k ⊢
    injection k with k1 k2
    simp only [List.cons.injEq, D.int.injEq, and_true] at k1
    rw [k1.1, k1.2]
    walk_at "sem"
    rfl
  · have e1 : decide (q < 0) = false := by simp [hneg]
    rw [e1]
    walk_at "sem"
    rw [common_ok]
    walk_at "sem"
    have k := pos (p := p) (q := q) hq (by omega)
    obtain ⟨g0, g1⟩ := gcd_small (p := p) (q := q) (N := N) hq (by omega)
    have hd := divOk_of g0 g1 hN h9
    simp only [fdivD, hd, if_true, R.bind_ok] at k ⊢
    injection k with k1 k2
    simp only [List.cons.injEq, D.int.injEq, and_true] at k1
    rw [k1.1, k1.2]
    walk_at "sem"
    rfl

theorem ix0 (x : Rat) (s : Sto) : ixD (fr x) (.int 0) s = .ok (.int x.num) s := rfl
theorem ix1 (x : Rat) (s : Sto) : ixD (fr x) (.int 1) s = .ok (.int (x.den : Int)) s := rfl
theorem mulD_of {i j : Int} {a b : Nat} (s : Sto) (ha : i.natAbs < 2 ^ a) (hb : j.natAbs < 2 ^ b) (h0 : 0 < a) (h1 : 0 < b) (h : a + b ≤ 1000000) : mulD (.int i) (.int j) s = .ok (.int (i * j)) s := by
  simp only [mulD, mulOk_of ha hb h0 h1 h, if_true]
theorem den_mul_ne (x y : Rat) : (x.den : Int) * (y.den : Int) ≠ 0 := by
  have h1 := x.den_nz
  have h2 := y.den_nz
  exact Int.mul_ne_zero (by omega) (by omega)
theorem plus_ok {x y : Rat} {M N : Nat} (s : Sto) (hx : Sm M x) (hy : Sm N y) (hM : 0 < M) (hN : 0 < N) (h : M + N ≤ 9000) : r_plus [fr x, fr y] s = .ok (fr (x + y)) s := by
  unfold r_plus
  walk_at "sem"
  simp only [ix0, ix1, R.bind_ok]
  rw [mulD_of s hx.1 (den_lt hy) hM hN (by omega)]
  simp only [R.bind_ok]
  rw [mulD_of s hy.1 (den_lt hx) hN hM (by omega)]
  walk_at "sem"
  rw [mulD_of s (den_lt hx) (den_lt hy) hM hN (by omega)]
  walk_at "sem"
  rw [fraction_ok (N := M + N) s (natAbs_mul_lt (den_lt hx) (den_lt hy)) (den_mul_ne x y) (by omega) h, add_divInt]
  walk_at "sem"
theorem plus_sm {x y : Rat} {M N : Nat} (hx : Sm M x) (hy : Sm N y) : Sm (M + N + 1) (x + y) := by
  rw [add_divInt]
  refine divInt_sm (natAbs_add_lt (natAbs_mul_lt hx.1 (den_lt hy)) (by rw [Nat.add_comm]; exact natAbs_mul_lt hy.1 (den_lt hx))) ?_ (den_mul_ne x y)
  exact Nat.lt_of_lt_of_le (natAbs_mul_lt (den_lt hx) (den_lt hy)) (Nat.pow_le_pow_right (by decide) (by omega))
theorem less_ok {x y : Rat} {M N : Nat} (s : Sto) (hx : Sm M x) (hy : Sm N y) (hM : 0 < M) (hN : 0 < N) (h : M + N ≤ 9000) : r_less [fr x, fr y] s = .ok (.bl (decide (x < y))) s := by
  unfold r_less
  walk_at "sem"
  simp only [ix0, ix1, R.bind_ok]
  rw [mulD_of s hx.1 (den_lt hy) hM hN (by omega)]
  simp only [R.bind_ok]
  rw [mulD_of s hy.1 (den_lt hx) hN hM (by omega)]
  walk_at "sem"
  have e : decide (x.num * (y.den : Int) < y.num * (x.den : Int)) = decide (x < y) := by
    rw [decide_eq_decide, Rat.lt_iff]
  rw [e]
theorem sign_ok (x : Rat) (s : Sto) : r_sign [fr x] s = .ok (.int (x.num.sign)) s := by
  unfold r_sign
  walk_at "sem"
  simp only [ix0, R.bind_ok]
  walk_at "sem"
  rcases Int.lt_trichotomy x.num 0 with h | h | h
  · rw [decide_eq_false (show ¬ (0 < x.num) by omega), decide_eq_true h, Int.sign_eq_neg_one_of_neg h]; rfl
  · rw [h]; rfl
  · rw [decide_eq_true h, decide_eq_false (show ¬ (x.num < 0) by omega), Int.sign_eq_one_of_pos h]; rfl
/-! ### the law's fractions -/
theorem lfr_ok {p q : Int} {N : Nat} (s : Sto) (hq : q.natAbs < 2 ^ N) (h0 : q ≠ 0) (hN : 0 < N) (h9 : N ≤ 9000) : r__law_fr [.int p, .int q] s = .ok (fr (Rat.divInt p q)) s := by
  obtain ⟨g, h1, h2, h3⟩ := euclid_while (i := 2) (j := 3) (by decide) (if q < 0 then -q else q).natAbs (if p < 0 then -p else p) (if q < 0 then -q else q) [some (.int p), some (.int q), some (.int (if p < 0 then -p else p)), some (.int (if q < 0 then -q else q))] s (Nat.le_refl _) rfl rfl
  have hg0 : 0 ≤ g := h2 (by split <;> omega) (by split <;> omega)
  have hgcd : g = ((Int.gcd p q : Nat) : Int) := by
    have e : Int.gcd (if p < 0 then -p else p) (if q < 0 then -q else q) = Int.gcd p q := by
      unfold Int.gcd
      have e1 : (if p < 0 then -p else p).natAbs = p.natAbs := by split <;> omega
      have e2 : (if q < 0 then -q else q).natAbs = q.natAbs := by split <;> omega
      rw [e1, e2]
    omega
  subst hgcd
  obtain ⟨g0, g1⟩ := gcd_small (p := p) hq h0
  unfold r__law_fr
  walk_at "sem"
  rw [h3]
  walk_at "sem"
  by_cases hneg : q < 0
  · have e1 : decide (q < 0) = true := by simp [hneg]
    rw [e1]
    walk_at "sem"
    have hd : divOk (0 - ((Int.gcd p q : Nat) : Int)) = true := divOk_of (by omega) (show (0 - ((Int.gcd p q : Nat) : Int)).natAbs < 2 ^ N by omega) hN h9
    simp only [fdivD, hd, if_true, R.bind_ok]
    walk_at "sem"
    have ep : p.fdiv (0 - ((Int.gcd p q : Nat) : Int)) = (Rat.divInt p q).num := by
      rw [← Rat.neg_divInt_neg, divInt_num (by omega), Int.zero_sub, Int.neg_gcd, Int.gcd_neg, Int.fdiv_eq_ediv_of_dvd (by rw [Int.neg_dvd]; exact Int.gcd_dvd_left ..), Int.fdiv_eq_ediv_of_nonneg _ (by omega), Int.ediv_neg, Int.neg_ediv_of_dvd (Int.gcd_dvd_left ..)]
    have eq : q.fdiv (0 - ((Int.gcd p q : Nat) : Int)) = ((Rat.divInt p q).den : Int) := by
      rw [← Rat.neg_divInt_neg, divInt_den (by omega), Int.zero_sub, Int.neg_gcd, Int.gcd_neg, Int.fdiv_eq_ediv_of_dvd (by rw [Int.neg_dvd]; exact Int.gcd_dvd_right ..), Int.fdiv_eq_ediv_of_nonneg _ (by omega), Int.ediv_neg, Int.neg_ediv_of_dvd (Int.gcd_dvd_right ..)]
    rw [ep, eq]
    rfl
  · have e1 : decide (q < 0) = false := by simp [hneg]
    rw [e1]
    walk_at "sem"
    have hd := divOk_of g0 g1 hN h9
    simp only [fdivD, hd, if_true, R.bind_ok]
    walk_at "sem"
    rw [← divInt_num (by omega), ← divInt_den (by omega)]
    rfl
theorem ladd_ok {x y : Rat} {M N : Nat} (s : Sto) (hx : Sm M x) (hy : Sm N y) (hM : 0 < M) (hN : 0 < N) (h : M + N ≤ 9000) : r__law_add [fr x, fr y] s = .ok (fr (x + y)) s := by
  unfold r__law_add
  walk_at "sem"
  simp only [ix0, ix1, R.bind_ok]
  rw [mulD_of s hx.1 (den_lt hy) hM hN (by omega)]
  simp only [R.bind_ok]
  rw [mulD_of s hy.1 (den_lt hx) hN hM (by omega)]
  walk_at "sem"
  rw [mulD_of s (den_lt hx) (den_lt hy) hM hN (by omega)]
  walk_at "sem"
  rw [lfr_ok (N := M + N) s (natAbs_mul_lt (den_lt hx) (den_lt hy)) (den_mul_ne x y) (by omega) h, add_divInt]
  walk_at "sem"
theorem lless_ok {x y : Rat} {M N : Nat} (s : Sto) (hx : Sm M x) (hy : Sm N y) (hM : 0 < M) (hN : 0 < N) (h : M + N ≤ 9000) : r__law_is_less [fr x, fr y] s = .ok (.bl (decide (x < y))) s := by
  unfold r__law_is_less
  walk_at "sem"
  simp only [ix0, ix1, R.bind_ok]
  rw [mulD_of s hx.1 (den_lt hy) hM hN (by omega)]
  simp only [R.bind_ok]
  rw [mulD_of s hy.1 (den_lt hx) hN hM (by omega)]
  walk_at "sem"
  have e : decide (x.num * (y.den : Int) < y.num * (x.den : Int)) = decide (x < y) := by
    rw [decide_eq_decide, Rat.lt_iff]
  rw [e]
theorem draw_ok {s : Sto} {n : Nat} (h : BagAt s n) {many : Int} (h0 : 0 < many) (h1 : many < 2 ^ 62) :
    ∃ (r : Int) (s' : Sto), r__law_draw [.ref n, .int many] s = .ok (.int r) s' ∧ 0 ≤ r ∧ r < many ∧ Drew s s' n := by
  obtain ⟨a, b, c, hb, hc⟩ := h
  have hn : n < s.length := (List.getElem?_eq_some_iff.mp hb).1
  have hd : divOk many = true := divOk_of (b := 62) (by omega) (by omega) (by decide) (by decide)
  have st : ∀ (s : Sto) (x y z v : D), s[n]? = some (.lst [x, y, z]) → setD (.ref n) (.int 0) v s = .ok () (s.set n (.lst [v, y, z])) := fun s x y z v h1 => by
    simp only [setD, h1]; rfl
  have st1 : ∀ (s : Sto) (x y z v : D), s[n]? = some (.lst [x, y, z]) → setD (.ref n) (.int 1) v s = .ok () (s.set n (.lst [x, v, z])) := fun s x y z v h1 => by
    simp only [setD, h1]; rfl
  -- what comes behind the seed
  have tail : ∀ (s : Sto) (x y z : Int) (l2 : Option D), s[n]? = some (.lst [.int x, .int y, .int z]) → z.natAbs < 2 ^ 64 →
      ∃ (r : Int) (s' : Sto), outR (mSeq (mAsg (mOp ixD (mVar 0) (mC (.int 0))) (mgName 3)) (mSeq (mAsg (mOp fdivD (mVar 3) (mVar 1)) (mgSub setD (mVar 0) (mC (.int 0)))) (mRet (mOp modD (mCB intF (mCons (mVar 3) mNil)) (mVar 1)))) [some (.ref n), some (.int many), l2, none] s) = .ok (.int r) s' ∧ 0 ≤ r ∧ r < many ∧ Drew s s' n := fun s x y z l2 h1 hz => by
    refine ⟨x.fmod many, s.set n (.lst [.int (x.fdiv many), .int y, .int z]), ?_, Int.fmod_nonneg_of_pos x h0, Int.fmod_lt_of_pos x h0, _, _, _, rfl, hz⟩
    walk_at "sem"
    rw [ixAt (k := 0) (v := .int x) h1 rfl]
    walk_at "sem"
    simp only [fdivD, hd, if_true, R.bind_ok, mgSub]
    walk_at "sem"
    rw [st s _ _ _ _ h1]
    walk_at "sem"
    rw [if_neg (by omega)]
    walk_at "sem"
  have len : ∀ (r : Int) (s' : Sto), Drew s s' n → backF s.length (.ok (.int r) s') = .ok (.int r) s' := fun r s' hd => by
    simp only [backF, hd.len, if_true]
  have e48 : mulOk b 48271 = true := mulOk_r (by decide)
  have e69 : mulOk c 69621 = true := mulOk_r (by decide)
  have e16 : mulOk c 16807 = true := mulOk_r (by decide)
  have i0 := ixAt (k := 0) (v := .int a) hb rfl
  have i1 := ixAt (k := 1) (v := .int b) hb rfl
  have i2 := ixAt (k := 2) (v := .int c) hb rfl
  unfold r__law_draw
  simp only [mDef, List.length_cons, List.length_nil, Nat.reduceAdd, if_true, List.map_cons, List.map_nil, Nat.reduceSub, List.replicate_succ, List.replicate_zero, List.cons_append, List.nil_append]
  by_cases ha : a = 0
  · subst ha
    obtain ⟨r, s', h2, h3, h4, h5⟩ := tail (s.set n (.lst [.int ((b * 48271 + c * 69621 + 11).fmod 2147483647 * 2147483629 + ((b * 48271 + c * 69621 + 11).fmod 2147483647 * (b * 48271 + c * 69621 + 11).fmod 2147483647 + c * 16807).fmod 2147483629), .int ((b * 48271 + c * 69621 + 11).fmod 2147483647), .int c])) _ _ _ (some (.int ((b * 48271 + c * 69621 + 11).fmod 2147483647))) (by rw [List.getElem?_set_self hn]) hc
    have d5 : Drew s s' n := by
      obtain ⟨x, y, z, e, hz⟩ := h5
      exact ⟨x, y, z, by rw [e, List.set_set], hz⟩
    refine ⟨r, s', ?_, h3, h4, d5⟩
    rw [← len r s' d5, ← h2]
    congr 1
    congr 1
    conv => lhs; rw [mSeq]
    have hs1 := Int.fmod_nonneg_of_pos (b * 48271 + c * 69621 + 11) (show (0 : Int) < 2147483647 by decide)
    have hs2 := Int.fmod_lt_of_pos (b * 48271 + c * 69621 + 11) (show (0 : Int) < 2147483647 by decide)
    have eA : mulOk ((b * 48271 + c * 69621 + 11).fmod 2147483647) 2147483629 = true := mulOk_r (by decide)
    have eB : mulOk ((b * 48271 + c * 69621 + 11).fmod 2147483647) ((b * 48271 + c * 69621 + 11).fmod 2147483647) = true := mulOk_l (by omega)
    generalize mSeq (mAsg (mOp ixD (mVar 0) (mC (.int 0))) (mgName 3)) (mSeq (mAsg (mOp fdivD (mVar 3) (mVar 1)) (mgSub setD (mVar 0) (mC (.int 0)))) (mRet (mOp modD (mCB intF (mCons (mVar 3) mNil)) (mVar 1)))) = rest
    repeat (first | walk_at "sem1" | simp only [i0, i1, i2, mulD, e48, e69, e16, eA, eB, (by decide : ¬ ((2147483647 : Int) = 0)), (by decide : ¬ ((2147483629 : Int) = 0))])
    rw [st s _ _ _ _ hb]
    walk_at "sem"
    rw [st1 _ _ _ _ _ (by rw [List.getElem?_set_self hn])]
    walk_at "sem"
    rw [List.set_set]
  · obtain ⟨r, s', h2, h3, h4, h5⟩ := tail s a b c none hb hc
    refine ⟨r, s', ?_, h3, h4, h5⟩
    rw [← len r s' h5, ← h2]
    congr 1
    congr 1
    conv => lhs; rw [mSeq]
    generalize mSeq (mAsg (mOp ixD (mVar 0) (mC (.int 0))) (mgName 3)) (mSeq (mAsg (mOp fdivD (mVar 3) (mVar 1)) (mgSub setD (mVar 0) (mC (.int 0)))) (mRet (mOp modD (mCB intF (mCons (mVar 3) mNil)) (mVar 1)))) = rest
    have e0 : (a == 0) = false := by simp [ha]
    repeat (first | walk_at "sem1" | simp only [i0, e0])
theorem draw_in {base : Sto} {b : Nat} (h : BagAt base b) (t : Sto) {many : Int} (h0 : 0 < many) (h1 : many < 2 ^ 62) :
    ∃ (r : Int) (base' : Sto), r__law_draw [.ref b, .int many] (base ++ t) = .ok (.int r) (base' ++ t) ∧ 0 ≤ r ∧ r < many ∧ Drew base base' b ∧ BagAt base' b := by
  obtain ⟨r, s', e, h2, h3, h4⟩ := draw_ok (h.app t) h0 h1
  obtain ⟨s1, rfl, h5⟩ := h4.app h.lt
  exact ⟨r, s1, e, h2, h3, h5, h5.bag h.lt⟩
/-- what holds of a table after each step: n rows, all to k filled -/
structure TabOk (M : Nat → Nat → Rat) (k N : Nat) : Prop where
  sym : ∀ i j, M i j = M j i
  dia : ∀ i, M i i = 0
  pos : ∀ i j, i < k → j < k → i ≠ j → 0 < M i j
  sm : ∀ i j, Sm N (M i j)
theorem Sm.zero : Sm 1 0 := ⟨by decide, by decide⟩
theorem TabOk.both {M : Nat → Nat → Rat} {k N N' : Nat} (h : TabOk M k N) (hN : N ≤ N') {i j : Nat} (hij : i ≠ j) {v : Rat} (hv : 0 < v) (hs : Sm N' v) : TabOk (updM (updM M i j v) j i v) k N' := by
  refine ⟨fun a b => ?_, fun a => ?_, fun a b ha hb hab => ?_, fun a b => ?_⟩
  · have := h.sym a b
    simp only [updM]
    grind
  · have := h.dia a
    simp only [updM]
    grind
  · have := h.pos a b ha hb hab
    simp only [updM]
    grind
  · have := (h.sm a b).mono hN
    simp only [updM]
    grind
theorem frD_pos {p q : Int} (hp : 0 ≤ p) (hq : 0 ≤ q) (hp2 : p < 7) (hq2 : q < 7) (s : Sto) : r__law_fr [.int (1 + p), .int (1 + q)] s = .ok (fr (Rat.divInt (1 + p) (1 + q))) s ∧ 0 < Rat.divInt (1 + p) (1 + q) ∧ Sm 3 (Rat.divInt (1 + p) (1 + q)) :=
  ⟨lfr_ok (N := 3) s (by omega) (by omega) (by decide) (by decide), divInt_pos (by omega) (by omega), divInt_sm (by omega) (by omega) (by omega)⟩
/-- one place of a row -/
theorem table_in {base : Sto} {b n L i : Nat} {pick : Int} {place : Nat} {long : Rat} {N : Nat} (hL : base.length = L) (hB : BagAt base b) (hi : i < n) (hp : place < i) (hl : 0 < long) (hls : Sm 3 long) (hN : 2 ≤ N) (hN2 : N ≤ 100)
    {M : Nat → Nat → Rat} (hM : TabOk M i N) {x7 : Option D} :
    ∃ (base' : Sto) (M' : Nat → Nat → Rat) (x7' : Option D), forL (mgName 7) b__law_table_7 (rangeD 0 i)
      [some (.ref b), some (.int n), some (refsD L n), some (.int pick), some (.int i), some (.int place), some (fr long), x7, none] (base ++ matS n n M)
      = .nx [some (.ref b), some (.int n), some (refsD L n), some (.int pick), some (.int i), some (.int place), some (fr long), x7', none] (base' ++ matS n n M') ∧ Drew base base' b ∧ TabOk M' (i + 1) (N + 4) := by
  have key := forL_inv (mg := mgName 7) (mb := b__law_table_7) (ds := rangeD 0 i)
    (fun k l s => ∃ (base' : Sto) (M' : Nat → Nat → Rat) (x7' : Option D), l = [some (.ref b), some (.int n), some (refsD L n), some (.int pick), some (.int i), some (.int place), some (fr long), x7', none] ∧ s = base' ++ matS n n M' ∧ Drew base base' b ∧ TabOk M' i (N + 4) ∧ (∀ j, j < i → Sm N (M' place j)) ∧ ∀ j, j < k → 0 < M' j i)
    (fun k d l s hd ⟨base1, M1, x7, el, es, hD, hT, hS, hP⟩ => by
      obtain ⟨hk, rfl⟩ := rangeD_get hd
      subst el es
      have hL1 : base1.length = L := by rw [hD.len, hL]
      have hB1 := hD.bag hB.lt
      obtain ⟨r1, base2, d1, r10, r11, hD1, hB2⟩ := draw_in hB1 (matS n n (updM M1 i k (M1 place k + long))) (many := 6) (by decide) (by decide)
      obtain ⟨r2, base3, d2, r20, r21, hD2, hB3⟩ := draw_in hB2 (matS n n (updM M1 i k (M1 place k + long))) (many := 2) (by decide) (by decide)
      obtain ⟨f1, f2, f3⟩ := frD_pos (p := r1) (q := r2) r10 r20 (by omega) (by omega) (base3 ++ matS n n (updM M1 i k (M1 place k + long)))
      have hL3 : base3.length = L := by rw [hD2.len, hD1.len, hL1]
      have e1 : ∀ (j : Nat) (s : Sto), j < n → ixD (refsD L n) (.int (j : Int)) s = .ok (.ref (L + j)) s := fun j s hj => ix_refs s hj
      have e1p := fun s => e1 place s (by omega)
      have e1i := fun s => e1 i s hi
      have e1k := fun s => e1 k s (by omega)
      have e2 : ∀ (B : Sto) (M : Nat → Nat → Rat) (a c : Nat), B.length = L → a < n → c < n → ixD (.ref (L + a)) (.int (c : Int)) (B ++ matS n n M) = .ok (fr (M a c)) (B ++ matS n n M) := fun B M a c hB ha hc => by rw [← hB]; exact ix_mat ha hc
      have e2p := e2 base1 M1 place k hL1 (by omega) (by omega)
      have e2i := fun B M hB => e2 B M i k hB hi (by omega)
      have e3 := fun s => ladd_ok (M := N) (N := 3) s (hS k hk) hls (by omega) (by omega) (by omega)
      have e4 : ∀ (B : Sto) (M : Nat → Nat → Rat) (a c : Nat) (v : Rat), B.length = L → a < n → c < n → setD (.ref (L + a)) (.int (c : Int)) (fr v) (B ++ matS n n M) = .ok () (B ++ matS n n (updM M a c v)) := fun B M a c v hB ha hc => by rw [← hB]; exact set_mat ha hc
      have e4i := fun B M v hB => e4 B M i k v hB hi (by omega)
      have e4k := fun B M v hB => e4 B M k i v hB (by omega) hi
      have fin : ∀ (B : Sto) (v : Rat), Drew base B b → 0 < v → Sm (N + 4) v → ∃ l2 s2, Out.nx [some (.ref b), some (.int n), some (refsD L n), some (.int pick), some (.int i), some (.int place), some (fr long), some (.int k), none] (B ++ matS n n (updM (updM M1 i k v) k i v)) = .nx l2 s2 ∧ ∃ (base' : Sto) (M' : Nat → Nat → Rat) (x7' : Option D), l2 = [some (.ref b), some (.int n), some (refsD L n), some (.int pick), some (.int i), some (.int place), some (fr long), x7', none] ∧ s2 = base' ++ matS n n M' ∧ Drew base base' b ∧ TabOk M' i (N + 4) ∧ (∀ j, j < i → Sm N (M' place j)) ∧ ∀ j, j < k + 1 → 0 < M' j i := fun B v hB hv hvs => by
        refine ⟨_, _, rfl, B, _, _, rfl, rfl, hB, hT.both (Nat.le_refl _) (by omega) hv hvs, fun j hj => ?_, fun j hj => ?_⟩
        · have := hS j hj
          have e : updM (updM M1 i k v) k i v place j = M1 place j := by
            simp only [updM]
            rw [if_neg (by omega), if_neg (by omega)]
          rw [e]; exact this
        · by_cases hjk : j = k
          · subst hjk
            have e : updM (updM M1 i j v) j i v j i = v := by simp [updM]
            rw [e]; exact hv
          · have e : updM (updM M1 i k v) k i v j i = M1 j i := by
              simp only [updM]
              rw [if_neg (by omega), if_neg (by omega)]
            rw [e]; exact hP j (by omega)
      have hpos : 0 ≤ M1 place k := by
        by_cases e : place = k
        · rw [e, hT.dia]; exact Rat.le_refl
        · exact Rat.le_of_lt (hT.pos place k hp hk e)
      have hv1 : 0 < M1 place k + long := by grind
      have hs1 : Sm (N + 4) (M1 place k + long) := plus_sm (hS k hk) hls
      refine ⟨_, _, rfl, ?_⟩
      have s0 : (0 : Int) + (k : Int) = (k : Int) := by omega
      rw [s0]
      simp only [b__law_table_7, t__law_table_9, t__law_table_11]
      by_cases h2 : pick = 2
      · subst h2
        have u1 : ∀ v, updM (updM M1 i k (M1 place k + long)) i k v = updM M1 i k v := fun v => by
          funext a c
          simp only [updM]
          split <;> rfl
        have u2 : ∀ v, updM M1 i k v i k = v := fun v => by simp [updM]
        have := fin base3 (Rat.divInt (1 + r1) (1 + r2)) ((hD.trans hD1).trans hD2) f2 (f3.mono (by omega))
        repeat (first | walk_at "sem1" | simp only [e1p, e2p, e3, e1i, e4i base1 M1 _ hL1, d1, d2, f1, e4i base3 _ _ hL3, u1, e2i base3 _ hL3, u2, e1k, e4k base3 _ _ hL3])
        exact this
      · have hn : (pick == 2) = false := by simp [h2]
        have u2 : ∀ v, updM M1 i k v i k = v := fun v => by simp [updM]
        have := fin base1 _ hD hv1 hs1
        repeat (first | walk_at "sem1" | simp only [e1p, e2p, e3, e1i, e4i base1 M1 _ hL1, hn, e2i base1 _ hL1, u2, e1k, e4k base1 _ _ hL1])
        exact this)
    (l := [some (.ref b), some (.int n), some (refsD L n), some (.int pick), some (.int i), some (.int place), some (fr long), x7, none]) (s := base ++ matS n n M)
    ⟨base, M, x7, rfl, rfl, Drew.refl hB, ⟨hM.sym, hM.dia, hM.pos, fun a c => (hM.sm a c).mono (by omega)⟩, fun j _ => hM.sm place j, fun j hj => by omega⟩
  obtain ⟨l', s', e, base', M', x7', rfl, rfl, hD, hT, _, hP⟩ := key
  refine ⟨base', M', x7', e, hD, hT.sym, hT.dia, fun a c ha hc hac => ?_, hT.sm⟩
  rw [rangeD_len] at hP
  by_cases h1 : a = i
  · subst h1
    rw [hT.sym]
    exact hP c (by omega)
  · by_cases h2 : c = i
    · subst h2
      exact hP a (by omega)
    · exact hT.pos a c (by omega) (by omega) hac
theorem table_mid {base : Sto} {b n L : Nat} {pick : Int} (hL : base.length = L) (hB : BagAt base b) (hn : n ≤ 7)
    {M : Nat → Nat → Rat} (hM : TabOk M 1 4) :
    ∃ (base' : Sto) (M' : Nat → Nat → Rat) (x4 x5 x6 x7 : Option D), forL (mgName 4) b__law_table_4 (rangeD 1 (n - 1))
      [some (.ref b), some (.int n), some (refsD L n), some (.int pick), none, none, none, none, none] (base ++ matS n n M)
      = .nx [some (.ref b), some (.int n), some (refsD L n), some (.int pick), x4, x5, x6, x7, none] (base' ++ matS n n M') ∧ Drew base base' b ∧ TabOk M' (n - 1 + 1) (4 * (n - 1) + 4) := by
  obtain ⟨l', s', e, base', M', x4, x5, x6, x7, rfl, rfl, hD, hT⟩ := forL_inv (ds := rangeD 1 (n - 1)) (mg := mgName 4) (mb := b__law_table_4)
    (fun k l s => ∃ (base' : Sto) (M' : Nat → Nat → Rat) (x4 x5 x6 x7 : Option D), l = [some (.ref b), some (.int n), some (refsD L n), some (.int pick), x4, x5, x6, x7, none] ∧ s = base' ++ matS n n M' ∧ Drew base base' b ∧ TabOk M' (k + 1) (4 * k + 4))
    (fun k d l s hd ⟨base1, M1, x4, x5, x6, x7, el, es, hD, hT⟩ => by
      obtain ⟨hk, rfl⟩ := rangeD_get hd
      subst el es
      have hL1 : base1.length = L := by rw [hD.len, hL]
      have hB1 := hD.bag hB.lt
      have s0 : (1 : Int) + (k : Int) = ((k + 1 : Nat) : Int) := by omega
      obtain ⟨r1, base2, d1, r10, r11, hD1, hB2⟩ := draw_in hB1 (matS n n M1) (many := ((k + 1 : Nat) : Int)) (by omega) (by omega)
      obtain ⟨r2, base3, d2, r20, r21, hD2, hB3⟩ := draw_in hB2 (matS n n M1) (many := 5) (by decide) (by decide)
      obtain ⟨r3, base4, d3, r30, r31, hD3, hB4⟩ := draw_in hB3 (matS n n M1) (many := 3) (by decide) (by decide)
      obtain ⟨f1, f2, f3⟩ := frD_pos (p := r2) (q := r3) r20 r30 (by omega) (by omega) (base4 ++ matS n n M1)
      obtain ⟨p, rfl⟩ := Int.eq_ofNat_of_zero_le r10
      obtain ⟨base5, M5, x7', h5, hD5, hT5⟩ := table_in (L := L) (n := n) (i := k + 1) (pick := pick) (place := p) (N := 4 * k + 4) (long := Rat.divInt (1 + r2) (1 + r3)) (x7 := x7) (by rw [hD3.len, hD2.len, hD1.len, hL1]) hB4 (by omega) (by omega) f2 f3 (by omega) (by omega) hT
      have g1 : intB ((k + 1 : Nat) : Int) = true := intB_small (by omega) (by omega)
      refine ⟨_, _, rfl, [some (.ref b), some (.int n), some (refsD L n), some (.int pick), some (.int ((k + 1 : Nat) : Int)), some (.int p), some (fr (Rat.divInt (1 + r2) (1 + r3))), x7', none], base5 ++ matS n n M5, ?_, base5, M5, _, _, _, _, rfl, rfl, (((hD.trans hD1).trans hD2).trans hD3).trans hD5, ⟨hT5.sym, hT5.dia, hT5.pos, fun a c => (hT5.sm a c).mono (by omega)⟩⟩
      rw [s0]
      simp only [b__law_table_4, t__law_table_6, l__law_table_7]
      repeat (first | walk_at "sem1" | simp only [d1, d2, d3, f1])
      rw [for_ok (rng1_ok (n := k + 1) rfl (by omega)), h5])
    (l := [some (.ref b), some (.int n), some (refsD L n), some (.int pick), none, none, none, none, none]) (s := base ++ matS n n M)
    ⟨base, M, none, none, none, none, rfl, rfl, Drew.refl hB, hM⟩
  rw [rangeD_len] at hT
  exact ⟨base', M', x4, x5, x6, x7, e, hD, hT⟩
theorem rep_row (n : Nat) : (List.replicate n [(.tup [.int 0, .int 1] : D)]).flatten = rowD n (fun _ => 0) := by
  unfold rowD
  rw [fr_zero]
  induction n with
  | zero => rfl
  | succ n ih => rw [List.replicate_succ', List.flatten_append, ih, List.range_succ, List.map_append]; rfl
theorem table_ok {s : Sto} {b : Nat} (hB : BagAt s b) (hs : plS s) :
    ∃ (n : Nat) (T : Nat → Nat → Rat) (s' : Sto), r__law_table [.ref b] s = .ok (tabD n n T) s' ∧ Drew s s' b ∧ 2 ≤ n ∧ n ≤ 7 ∧ TabOk T n 40 := by
  obtain ⟨r1, s1, d1, r10, r11, hD1, hB1⟩ := draw_in hB [] (many := 6) (by decide) (by decide)
  rw [List.append_nil, List.append_nil] at d1
  obtain ⟨m, rfl⟩ := Int.eq_ofNat_of_zero_le r10
  have en : (2 : Int) + (m : Int) = ((m + 2 : Nat) : Int) := by omega
  have hL1 : s1.length = s.length := hD1.len
  obtain ⟨r2, s2, d2, r20, r21, hD2, hB2⟩ := draw_in hB1 (matS (m + 2) (m + 2) fun _ _ => 0) (many := 3) (by decide) (by decide)
  have hL2 : s2.length = s.length := by rw [hD2.len, hL1]
  obtain ⟨s3, M3, x4, x5, x6, x7, h3, hD3, hT3⟩ := table_mid (L := s.length) (n := m + 2) (pick := r2) hL2 hB2 (by omega) (M := fun _ _ => 0) ⟨fun _ _ => rfl, fun _ => rfl, fun i j _ _ _ => by omega, fun _ _ => Sm.zero.mono (by omega)⟩
  have hL3 : s3.length = s.length := by rw [hD3.len, hL2]
  have hB3 := hD3.bag hB2.lt
  have hb := hB.lt
  -- the rows
  have hrows : lcL (mgName 4) mYes (mOp mulN (mLst (mCons (mTup (mCons (mC (.int 0)) (mCons (mC (.int 1)) mNil))) mNil)) (mVar 1)) (rangeD 0 (m + 2)) [some (.ref b), some (.int ((m + 2 : Nat) : Int)), none, none, none, none, none, none, none] s1 = .ok ((List.range (m + 2)).map fun i => .ref (s.length + i)) (s1 ++ matS (m + 2) (m + 2) fun _ _ => 0) := by
    have := lcL_new (tg := mgName 4) (tt := mYes) (me := mOp mulN (mLst (mCons (mTup (mCons (mC (.int 0)) (mCons (mC (.int 1)) mNil))) mNil)) (mVar 1)) (l := [some (.ref b), some (.int ((m + 2 : Nat) : Int)), none, none, none, none, none, none, none]) (fun _ => .lst (rowD (m + 2) fun _ => 0)) (ds := rangeD 0 (m + 2)) s1 (fun d hd t => by
      refine ⟨_, rfl, rfl, ?_⟩
      walk_at "sem"
      have c : 1 * (m + 2) ≤ 100000 ∧ (-100000 : Int) ≤ ((m + 2 : Nat) : Int) ∧ ((m + 2 : Nat) : Int) ≤ 100000 := ⟨by omega, by omega, by omega⟩
      simp only [mulN, Int.toNat_natCast, List.length_cons, List.length_nil, Nat.zero_add, if_pos c, rep_row])
    rw [this, rangeD_len, hL1]
    congr 2
    simp [rangeD, matS, Function.comp_def]
  have g1 : intB ((m + 2 : Nat) : Int) = true := intB_small (by omega) (by omega)
  have g0 : intB 1 = true := intB_small (by decide) (by decide)
  have g2 : (((m + 2 : Nat) : Int) - 1).toNat = m + 2 - 1 := by omega
  have g3 : (List.map (fun i => D.ref (s.length + i)) (List.range (m + 2))).length ≤ 100000 := by simp; omega
  have g4 : ∀ (f : Nat → D), ((List.range (m + 2)).map f).length ≤ 100000 := fun f => by simp; omega
  -- the end
  have fin : ∀ (B : Sto) (M : Nat → Nat → Rat) (x4 x5 x6 x7 : Option D), Drew s B b → backF s.length (outR (t__law_table_17 [some (.ref b), some (.int ((m + 2 : Nat) : Int)), some (refsD s.length (m + 2)), some (.int r2), x4, x5, x6, x7, none] (B ++ matS (m + 2) (m + 2) M))) = .ok (tabD (m + 2) (m + 2) M) B := fun B M x4 x5 x6 x7 hD => by
    have hL : B.length = s.length := hD.len
    have hl : lcL (mgName 8) mYes (mCB tupleF (mCons (mVar 8) mNil)) ((List.range (m + 2)).map fun i => .ref (s.length + i)) [some (.ref b), some (.int ((m + 2 : Nat) : Int)), some (refsD s.length (m + 2)), some (.int r2), x4, x5, x6, x7, none] (B ++ matS (m + 2) (m + 2) M) = .ok ((List.range (m + 2)).map fun i => .tup (rowD (m + 2) (M i))) (B ++ matS (m + 2) (m + 2) M) := by
      have := lcL_pure (tg := mgName 8) (tt := mYes) (me := mCB tupleF (mCons (mVar 8) mNil)) (l := [some (.ref b), some (.int ((m + 2 : Nat) : Int)), some (refsD s.length (m + 2)), some (.int r2), x4, x5, x6, x7, none]) (s := B ++ matS (m + 2) (m + 2) M) (fun d => match d with | .ref a => .tup (rowD (m + 2) (M (a - s.length))) | _ => .non) (ds := (List.range (m + 2)).map fun i => .ref (s.length + i)) (fun d hd => by
        obtain ⟨i, hi, rfl⟩ := List.mem_map.mp hd
        have hi := List.mem_range.mp hi
        refine ⟨_, rfl, rfl, ?_⟩
        walk_at "sem"
        have e : (B ++ matS (m + 2) (m + 2) M)[s.length + i]? = some (.lst (rowD (m + 2) (M i))) := by
          rw [← hL, List.getElem?_append_right (by omega), Nat.add_sub_cancel_left, matS_get hi]
        simp only [tupleF, rdL, e, Nat.add_sub_cancel_left])
      rw [this, List.map_map]
      refine congrArg (fun x => R.ok x _) (List.map_congr_left fun i _ => ?_)
      simp only [Function.comp, Nat.add_sub_cancel_left]
    simp only [t__law_table_17]
    walk_at "sem"
    simp only [mLc, mIter, mVar, List.getElem?_cons_succ, List.getElem?_cons_zero, R.bind_ok, refsD, stands, wipeD, List.set_cons_succ, List.set_cons_zero]
    simp only [refsD] at hl
    rw [hl]
    simp only [noEx, R.bind_ok, g4, if_true, tupleF, rdL]
    walk_at "sem"
    have := backF_pl' (t := matS (m + 2) (m + 2) M) (d := tabD (m + 2) (m + 2) M) hL.symm (hD.plS hs) (plN_mono plN_tab (by decide))
    simpa only [backF, tabD] using this
  have h3 : forL (mgName 4) b__law_table_4 (rangeD 1 (m + 1)) [some (.ref b), some (.int ((m + 2 : Nat) : Int)), some (refsD s.length (m + 2)), some (.int r2), none, none, none, none, none] (s2 ++ matS (m + 2) (m + 2) fun _ _ => 0) = _ := h3
  have g2 : (((m + 2 : Nat) : Int) - 1).toNat = m + 1 := g2
  -- up to the last
  have step : r__law_table [.ref b] s = backF s.length (outR (t__law_table_12 [some (.ref b), some (.int ((m + 2 : Nat) : Int)), some (refsD s.length (m + 2)), some (.int r2), x4, x5, x6, x7, none] (s3 ++ matS (m + 2) (m + 2) M3))) := by
    unfold r__law_table
    simp only [mDef, List.length_cons, List.length_nil, Nat.reduceAdd, if_true, List.map_cons, List.map_nil, Nat.reduceSub, List.replicate_succ, List.replicate_zero, List.cons_append, List.nil_append]
    refine congrArg (fun x => backF s.length (outR x)) ?_
    have q1 : mLc [4] (mRng1 (mCons (mVar 1) mNil)) (mgName 4) mYes (mOp mulN (mLst (mCons (mTup (mCons (mC (.int 0)) (mCons (mC (.int 1)) mNil))) mNil)) (mVar 1)) [some (.ref b), some (.int ((m + 2 : Nat) : Int)), none, none, none, none, none, none, none] s1 = .ok (refsD s.length (m + 2)) (s1 ++ matS (m + 2) (m + 2) fun _ _ => 0) := lc_ok (rng1_ok (n := m + 2) rfl (by omega)) hrows g3
    have q2 : mFor (mRng2 (mCons (mC (.int 1)) (mCons (mVar 1) mNil))) (mgName 4) b__law_table_4 [some (.ref b), some (.int ((m + 2 : Nat) : Int)), some (refsD s.length (m + 2)), some (.int r2), none, none, none, none, none] (s2 ++ matS (m + 2) (m + 2) fun _ _ => 0) = .nx [some (.ref b), some (.int ((m + 2 : Nat) : Int)), some (refsD s.length (m + 2)), some (.int r2), x4, x5, x6, x7, none] (s3 ++ matS (m + 2) (m + 2) M3) := by
      rw [for_ok (rng2_ok (n := m + 1) rfl rfl (by omega) (by omega) (by omega) (by omega) (by omega)), h3]
    simp only [t__law_table_2, t__law_table_3, t__law_table_4]
    generalize mLc [4] (mRng1 (mCons (mVar 1) mNil)) (mgName 4) mYes (mOp mulN (mLst (mCons (mTup (mCons (mC (.int 0)) (mCons (mC (.int 1)) mNil))) mNil)) (mVar 1)) = part1 at *
    repeat (first | walk_at "sem1" | simp only [d1, en, q1, d2])
    rw [l__law_table_4, q2]
  rw [step]
  by_cases h1 : r2 = 1
  · subst h1
    obtain ⟨r4, s4, d4, r40, r41, hD4, hB4⟩ := draw_in hB3 (matS (m + 2) (m + 2) M3) (many := ((m + 2 : Nat) : Int)) (by omega) (by omega)
    obtain ⟨r5, s5, d5, r50, r51, hD5, hB5⟩ := draw_in hB4 (matS (m + 2) (m + 2) M3) (many := ((m + 2 : Nat) : Int) - 1) (by omega) (by omega)
    obtain ⟨r6, s6, d6, r60, r61, hD6, hB6⟩ := draw_in hB5 (matS (m + 2) (m + 2) M3) (many := 4) (by omega) (by omega)
    obtain ⟨i, rfl⟩ := Int.eq_ofNat_of_zero_le r40
    obtain ⟨j, hj⟩ := Int.eq_ofNat_of_zero_le (Int.fmod_nonneg_of_pos ((i : Int) + 1 + r5) (show (0 : Int) < ((m + 2 : Nat) : Int) by omega))
    have hjl := Int.fmod_lt_of_pos ((i : Int) + 1 + r5) (show (0 : Int) < ((m + 2 : Nat) : Int) by omega)
    have hij : (j : Int) ≠ (i : Int) := by
      rw [← hj, Int.fmod_eq_emod_of_nonneg _ (by omega)]
      by_cases c : (i : Int) + 1 + r5 < ((m + 2 : Nat) : Int)
      · rw [Int.emod_eq_of_lt (by omega) c]; omega
      · rw [← Int.sub_emod_right, Int.emod_eq_of_lt (by omega) (by omega)]; omega
    rw [hj] at hjl
    have hL5 : s5.length = s.length := by rw [hD5.len, hD4.len, hL3]
    have hL6 : s6.length = s.length := by rw [hD6.len, hL5]
    have hv : Sm 3 (Rat.divInt 1 (1 + r6)) := divInt_sm (by decide) (by omega) (by omega)
    have hvp : 0 < Rat.divInt 1 (1 + r6) := divInt_pos (by decide) (by omega)
    have e1 : ∀ (j : Nat) (t : Sto), j < m + 2 → ixD (refsD s.length (m + 2)) (.int (j : Int)) t = .ok (.ref (s.length + j)) t := fun j s hj => ix_refs s hj
    have e1i := fun s => e1 i s (by omega)
    have e1j := fun s => e1 j s (by omega)
    have e2 : ∀ (M : Nat → Nat → Rat) (B : Sto), B.length = s.length → ixD (.ref (s.length + i)) (.int (j : Int)) (B ++ matS (m + 2) (m + 2) M) = .ok (fr (M i j)) (B ++ matS (m + 2) (m + 2) M) := fun M B hB => by rw [← hB]; exact ix_mat (by omega) (by omega)
    have e4 : ∀ (M : Nat → Nat → Rat) (a c : Nat) (v : Rat), a < m + 2 → c < m + 2 → setD (.ref (s.length + a)) (.int (c : Int)) (fr v) (s6 ++ matS (m + 2) (m + 2) M) = .ok () (s6 ++ matS (m + 2) (m + 2) (updM M a c v)) := fun M a c v ha hc => by rw [← hL6]; exact set_mat ha hc
    have hb4 : 4 * (m + 1) + 4 ≤ 32 := by omega
    have hsm := (hT3.sm i j).mono (N := 32) (by omega)
    have e3 := fun s => ladd_ok (M := 32) (N := 3) s hsm hv (by decide) (by decide) (by decide)
    have u1 : (.tup [.int 1, .int (1 + r6)] : D) = fr (Rat.divInt 1 (1 + r6)) := by
      have h1 := divInt_num (p := 1) (q := 1 + r6) (by omega)
      have h2 := divInt_den (p := 1) (q := 1 + r6) (by omega)
      simp only [Int.one_gcd, Int.natCast_one, Int.fdiv_one] at h1 h2
      unfold fr
      rw [h1, h2]
    have u2 : ∀ v, updM M3 i j v i j = v := fun v => by simp [updM]
    have hpos : 0 ≤ M3 i j := Rat.le_of_lt (hT3.pos i j (by omega) (by omega) (by omega))
    have hv1 : 0 < M3 i j + Rat.divInt 1 (1 + r6) := by grind
    have hs1 : Sm 36 (M3 i j + Rat.divInt 1 (1 + r6)) := plus_sm hsm hv
    have hD := ((((hD1.trans hD2).trans hD3).trans hD4).trans hD5).trans hD6
    have hn0 : ¬ (((m + 2 : Nat) : Int) = 0) := by omega
    have hM := hT3.both (i := i) (j := j) (N' := 36) (by omega) (by omega) hv1 hs1
    refine ⟨m + 2, _, s6, ?_, hD, by omega, by omega, ⟨hM.sym, hM.dia, hM.pos, fun a c => (hM.sm a c).mono (by omega)⟩⟩
    rw [← fin s6 _ (some (.int i)) x5 x6 (some (.int j)) hD]
    refine congrArg (fun x => backF s.length (outR x)) ?_
    simp only [t__law_table_12, t__law_table_14, t__law_table_15, t__law_table_16]
    generalize t__law_table_17 = rest
    generalize refsD s.length (m + 2) = rows at *
    repeat (first | walk_at "sem1" | simp only [d4, d5, hn0, hj, d6, u1, e1i, e1j, e2 _ _ hL6, e2 _ _ hL5, e3, e4 _ i j _ (show i < m + 2 by omega) (show j < m + 2 by omega), e4 _ j i _ (show j < m + 2 by omega) (show i < m + 2 by omega), u2])
  · refine ⟨m + 2, M3, s3, ?_, (hD1.trans hD2).trans hD3, by omega, by omega, ⟨hT3.sym, hT3.dia, hT3.pos, fun a c => (hT3.sm a c).mono (by omega)⟩⟩
    rw [← fin s3 M3 x4 x5 x6 x7 ((hD1.trans hD2).trans hD3)]
    refine congrArg (fun x => backF s.length (outR x)) ?_
    have hn : (r2 == 1) = false := by simp [h1]
    simp only [t__law_table_12]
    generalize t__law_table_17 = rest
    repeat (first | walk_at "sem1" | simp only [hn])
theorem isnum_ok (p q : Int) (s : Sto) : r_is_number [.tup [.int p, .int q]] s = .ok (.bl (decide (1 ≤ q) && decide (Int.gcd p q = 1))) s := by
  have t2 : lenF [.tup [.int p, .int q]] s = .ok (.int 2) s := rfl
  have t3 : ∀ i : Int, isiF "int" (.int i) s = .ok (.bl true) s := fun _ => rfl
  have t4 : ∀ i : Int, isiF "bool" (.int i) s = .ok (.bl false) s := fun _ => rfl
  have t5 : isiF "tuple" (.tup [.int p, .int q]) s = .ok (.bl true) s := rfl
  unfold r_is_number
  by_cases hq : q < 1
  · rw [decide_eq_false (show ¬ (1 ≤ q) by omega)]
    have e1 : decide (q < 1) = true := decide_eq_true hq
    repeat (first | walk_at "sem1" | simp only [t5, t2, t3, t4, e1])
    rfl
  · rw [decide_eq_true (show (1 ≤ q) by omega)]
    have e1 : decide (q < 1) = false := decide_eq_false hq
    have h := euclid2_while (i := 1) (j := 2) (by decide) p.natAbs p q [some (.tup [.int p, .int q]), some (.int p), some (.int q)] s (Nat.le_refl _) (by omega) rfl rfl
    generalize mWhile (mTest (mOp neD (mVar 1) (mC (.int 0)))) (mPar 1 2 (mCons (mOp modD (mVar 2) (mCB absF (mCons (mVar 1) mNil))) (mCons (mCB absF (mCons (mVar 1) mNil)) mNil))) = w at *
    repeat (first | walk_at "sem1" | simp only [t5, t2, t3, t4, e1, h])
    rw [Bool.true_and]
    refine congrArg (fun b => R.ok (D.bl b) s) ?_
    by_cases hg : Int.gcd p q = 1
    · simp [hg]
    · have : ¬ (((Int.gcd p q : Nat) : Int) = 1) := by omega
      simp [hg, this]
theorem isnum_fr (x : Rat) (s : Sto) : r_is_number [fr x] s = .ok (.bl true) s := by
  have h := isnum_ok x.num x.den s
  have h1 : (1 : Int) ≤ x.den := by have := x.den_pos; omega
  have h2 : Int.gcd x.num x.den = 1 := by
    have := x.reduced
    simpa [Int.gcd, Nat.Coprime] using this
  rw [decide_eq_true h1, decide_eq_true h2] at h
  exact h
/-- what is_table asks of row i -/
def goodRow (T : Nat → Nat → Rat) (i : Nat) : Bool := decide (T i i = 0) && (List.range i).all fun j => decide (0 < T i j) && decide (T i j = T j i)
theorem rows_ok {n : Nat} {T : Nat → Nat → Rat} {s : Sto} (tab : D) (ht : n ≤ 16) : ∃ x2, forL (mgName 2) b_is_table_4 ((List.range n).map fun i => .tup (rowD n (T i))) [some tab, some (.int n), none, none, none, none] s = .nx [some tab, some (.int n), x2, none, none, none] s := by
  obtain ⟨l', s', e, x2, rfl, rfl⟩ := forL_inv (mg := mgName 2) (mb := b_is_table_4) (ds := (List.range n).map fun i => .tup (rowD n (T i)))
    (fun _ l s' => ∃ x2, l = [some tab, some (.int n), x2, none, none, none] ∧ s' = s)
    (fun k d l s' hd ⟨x2, el, es⟩ => by
      subst el es
      obtain ⟨i, hi, rfl⟩ := List.mem_map.mp (List.mem_of_getElem? hd)
      refine ⟨_, _, rfl, _, _, ?_, some (.tup (rowD n (T i))), rfl, rfl⟩
      have h1 := lcL_pure (tg := mgName 4) (tt := mYes) (me := mCall 1 r_is_number (mCons (mVar 4) mNil)) (l := [some tab, some (.int n), some (.tup (rowD n (T i))), none, none, none]) (s := s') (fun _ => .bl true) (ds := rowD n (T i)) (fun d hd => by
        obtain ⟨j, _, rfl⟩ := List.mem_map.mp hd
        refine ⟨_, rfl, rfl, ?_⟩
        repeat (first | walk_at "sem1" | simp only [isnum_fr]))
      have h2 : mLc [4] (mIter (mVar 2)) (mgName 4) mYes (mCall 1 r_is_number (mCons (mVar 4) mNil)) [some tab, some (.int n), some (.tup (rowD n (T i))), none, none, none] s' = .ok (.lst ((rowD n (T i)).map fun _ => .bl true)) s' := lc_ok (iter_ok rfl rfl) h1 (by rw [List.length_map, rowD_len]; omega)
      have h3 := allF_map (rowD n (T i)) (fun _ => true) s'
      have h4 : ((rowD n (T i)).all fun _ => true) = true := by simp
      rw [h4] at h3
      simp only [b_is_table_4]
      generalize mLc [4] (mIter (mVar 2)) (mgName 4) mYes (mCall 1 r_is_number (mCons (mVar 4) mNil)) = part at *
      repeat (first | walk_at "sem1" | simp only [isi_tup, lenF_tup, rowD_len, h2, h3]))
    (l := [some tab, some (.int n), none, none, none, none]) (s := s) ⟨_, rfl, rfl⟩
  exact ⟨x2, e⟩
theorem istable_ok {n : Nat} {T : Nat → Nat → Rat} (s : Sto) (h2 : 2 ≤ n) (h7 : n ≤ 16) : r_is_table [tabD n n T] s = .ok (.bl ((List.range n).all (goodRow T))) s := by
  obtain ⟨x2, e1⟩ := rows_ok (T := T) (s := s) (tabD n n T) h7
  have key := forL_look (mg := mgName 3) (mb := b_is_table_7) (lo := 0) (n := n) (fun l => ∃ x3, l = [some (tabD n n T), some (.int n), x2, x3, none, none]) s
    (fun i => if goodRow T i = true then none else some (.bl false))
    (fun i l hi ⟨x3, el⟩ => by
      subst el
      refine ⟨_, rfl, ?_⟩
      rw [Int.zero_add]
      have i1 : ∀ s, ixD (tabD n n T) (.int i) s = .ok (.tup (rowD n (T i))) s := fun s => ix_tab s hi
      have i2 : ∀ s, ixD (.tup (rowD n (T i))) (.int i) s = .ok (fr (T i i)) s := fun s => ix_row s hi
      have h1 := lcL_pure (tg := mgName 5) (tt := mYes) (me := mAndV (mOp gtD (mCall 1 r_sign (mCons (mOp ixD (mOp ixD (mVar 0) (mVar 3)) (mVar 5)) mNil)) (mC (.int 0))) (mOp eqD (mOp ixD (mOp ixD (mVar 0) (mVar 3)) (mVar 5)) (mOp ixD (mOp ixD (mVar 0) (mVar 5)) (mVar 3)))) (l := [some (tabD n n T), some (.int n), x2, some (.int (i : Int)), none, none]) (s := s) (fun d => .bl (match d with | .int j => decide (0 < T i j.toNat) && decide (T i j.toNat = T j.toNat i) | _ => false)) (ds := rangeD 0 i) (fun d hd => by
        obtain ⟨j, hj, rfl⟩ := rangeD_mem hd
        refine ⟨_, rfl, rfl, ?_⟩
        rw [Int.zero_add]
        simp only [Int.toNat_natCast]
        have j1 : ∀ s, ixD (tabD n n T) (.int j) s = .ok (.tup (rowD n (T j))) s := fun s => ix_tab s (by omega)
        have j2 : ∀ s, ixD (.tup (rowD n (T i))) (.int j) s = .ok (fr (T i j)) s := fun s => ix_row s (by omega)
        have j3 : ∀ s, ixD (.tup (rowD n (T j))) (.int i) s = .ok (fr (T j i)) s := fun s => ix_row s hi
        by_cases hp : 0 < T i j
        · have c1 : decide ((0 : Int) < (T i j).num.sign) = true := by
            have := num_pos.mpr hp
            rw [Int.sign_eq_one_of_pos this]; rfl
          rw [decide_eq_true hp, Bool.true_and]
          repeat (first | walk_at "sem1" | simp only [i1, j1, j2, j3, sign_ok, c1, eqD_fr])
        · have c1 : decide ((0 : Int) < (T i j).num.sign) = false := by
            have : ¬ 0 < (T i j).num := fun h => hp (num_pos.mp h)
            refine decide_eq_false fun h => this ?_
            exact Int.sign_pos_iff.mp h
          rw [decide_eq_false hp, Bool.false_and]
          repeat (first | walk_at "sem1" | simp only [i1, j1, j2, j3, sign_ok, c1, eqD_fr]))
      have h2' : mLc [5] (mRng1 (mCons (mVar 3) mNil)) (mgName 5) mYes (mAndV (mOp gtD (mCall 1 r_sign (mCons (mOp ixD (mOp ixD (mVar 0) (mVar 3)) (mVar 5)) mNil)) (mC (.int 0))) (mOp eqD (mOp ixD (mOp ixD (mVar 0) (mVar 3)) (mVar 5)) (mOp ixD (mOp ixD (mVar 0) (mVar 5)) (mVar 3)))) [some (tabD n n T), some (.int n), x2, some (.int (i : Int)), none, none] s = _ := lc_ok (rng1_ok (n := i) rfl (by omega)) h1 (by rw [List.length_map, rangeD_len]; omega)
      have h3 := allF_map (rangeD 0 i) (fun d => match d with | .int j => decide (0 < T i j.toNat) && decide (T i j.toNat = T j.toNat i) | _ => false) s
      have h4 : ((rangeD 0 i).all fun d => match d with | .int j => decide (0 < T i j.toNat) && decide (T i j.toNat = T j.toNat i) | _ => false) = (List.range i).all fun j => decide (0 < T i j) && decide (T i j = T j i) := by
        simp only [rangeD, List.all_map]
        congr 1
        funext j
        simp only [Function.comp, Int.zero_add, Int.toNat_natCast]
      rw [h4] at h3
      simp only [b_is_table_7, t_is_table_10]
      generalize mLc [5] (mRng1 (mCons (mVar 3) mNil)) (mgName 5) mYes (mAndV (mOp gtD (mCall 1 r_sign (mCons (mOp ixD (mOp ixD (mVar 0) (mVar 3)) (mVar 5)) mNil)) (mC (.int 0))) (mOp eqD (mOp ixD (mOp ixD (mVar 0) (mVar 3)) (mVar 5)) (mOp ixD (mOp ixD (mVar 0) (mVar 5)) (mVar 3)))) = part at *
      rw [fr_zero]
      have hg : goodRow T i = (decide (T i i = 0) && (List.range i).all fun j => decide (0 < T i j) && decide (T i j = T j i)) := rfl
      have iff1 : ∀ b : Bool, (if b = true then none else some (D.bl false)) = none → b = true := fun b h => by cases b <;> simp_all
      have iff2 : ∀ (b : Bool) r, (if b = true then none else some (D.bl false)) = some r → b = false ∧ r = .bl false := fun b r h => by cases b <;> simp_all
      refine ⟨fun r hr => ?_, fun hr => ?_⟩
      · obtain ⟨hb, rfl⟩ := iff2 _ _ hr
        rw [hg] at hb
        by_cases z : T i i = 0
        · rw [decide_eq_true z, Bool.true_and] at hb
          have hz : (!decide (T i i = 0)) = false := by simp [z]
          rw [hb] at h3
          repeat (first | walk_at "sem1" | simp only [i1, i2, neD_fr, hz, h2', h3])
        · have hz : (!decide (T i i = 0)) = true := by simp [z]
          repeat (first | walk_at "sem1" | simp only [i1, i2, neD_fr, hz])
      · have hb := iff1 _ hr
        rw [hg, Bool.and_eq_true, decide_eq_true_eq] at hb
        have hz : (!decide (T i i = 0)) = false := by simp [hb.1]
        rw [hb.2] at h3
        refine ⟨[some (tabD n n T), some (.int n), x2, some (.int (i : Int)), none, none], ?_, _, rfl⟩
        repeat (first | walk_at "sem1" | simp only [i1, i2, neD_fr, hz, h2', h3]))
    (l := [some (tabD n n T), some (.int n), x2, none, none, none]) ⟨_, rfl⟩
  have eF : (List.range n).findSome? (fun i => if goodRow T i = true then none else some (D.bl false)) = if (List.range n).all (goodRow T) = true then none else some (D.bl false) := by
    generalize List.range n = ds
    induction ds with
    | nil => rfl
    | cons d ds ih =>
      simp only [List.findSome?_cons, List.all_cons, ih]
      rcases Bool.eq_false_or_eq_true (goodRow T d) with h | h <;> simp [h]
  rw [eF] at key
  have c1 : decide ((2 : Int) ≤ n) = true := decide_eq_true (by omega)
  have c2 : decide ((n : Int) ≤ 16) = true := decide_eq_true (by omega)
  have t1 : isiF "tuple" (tabD n n T) s = .ok (.bl true) s := rfl
  have t2 : lenF [tabD n n T] s = .ok (.int n) s := by rw [tabD, lenF_tup]; simp
  have g1 : l_is_table_4 [some (tabD n n T), some (.int n), none, none, none, none] s = .nx [some (tabD n n T), some (.int n), x2, none, none, none] s := by
    unfold l_is_table_4
    rw [for_ok (iter_ok rfl rfl), e1]
  have g2 : l_is_table_7 [some (tabD n n T), some (.int n), x2, none, none, none] s = forL (mgName 3) b_is_table_7 (rangeD 0 n) [some (tabD n n T), some (.int n), x2, none, none, none] s := by
    unfold l_is_table_7
    rw [for_ok (rng1_ok (n := n) rfl (by omega))]
  unfold r_is_table
  generalize tabD n n T = tab at *
  cases hh : (List.range n).all (goodRow T) with
  | true =>
    rw [hh] at key
    obtain ⟨l', hl, x3, rfl⟩ := key.2 rfl
    simp only [t_is_table_3, t_is_table_4, t_is_table_7, t_is_table_12]
    repeat (first | walk_at "sem1" | simp only [t1, t2, c1, c2, g1, g2, hl])
  | false =>
    rw [hh] at key
    replace key := key.1 _ rfl
    simp only [t_is_table_3, t_is_table_4, t_is_table_7, t_is_table_12]
    repeat (first | walk_at "sem1" | simp only [t1, t2, c1, c2, g1, g2, key])
def far (a b c : Rat) : Bool := decide (b + c < a) || decide (a + c < b) || decide (a + b < c)
def four (a b c : Rat) : Bool := (decide (a = b) && !decide (a < c)) || (decide (a = c) && !decide (a < b)) || (decide (b = c) && !decide (b < a))
theorem far_ok {a b c : Rat} (s : Sto) (ha : Sm 40 a) (hb : Sm 40 b) (hc : Sm 40 c) : r_is_far [fr a, fr b, fr c] s = .ok (.bl (far a b c)) s := by
  have p1 := fun s => plus_ok s hb hc (by decide) (by decide) (by decide)
  have p2 := fun s => plus_ok s ha hc (by decide) (by decide) (by decide)
  have p3 := fun s => plus_ok s ha hb (by decide) (by decide) (by decide)
  have q1 := fun s => less_ok s (plus_sm hb hc) ha (by decide) (by decide) (by decide)
  have q2 := fun s => less_ok s (plus_sm ha hc) hb (by decide) (by decide) (by decide)
  have q3 := fun s => less_ok s (plus_sm ha hb) hc (by decide) (by decide) (by decide)
  have g : ∀ x y z : Bool, anyF [.lst [.bl x, .bl y, .bl z]] s = .ok (.bl (x || y || z)) s := fun x y z => by
    cases x <;> cases y <;> cases z <;> rfl
  have h : lcL (mgTup 3 (mgCons (mgName 4) (mgCons (mgName 5) (mgCons (mgName 6) mgNil)))) mYes (mCall 2 r_less (mCons (mCall 2 r_plus (mCons (mVar 5) (mCons (mVar 6) mNil))) (mCons (mVar 4) mNil))) [.tup [fr a, fr b, fr c], .tup [fr b, fr a, fr c], .tup [fr c, fr a, fr b]] [some (fr a), some (fr b), some (fr c), some (.lst [.tup [fr a, fr b, fr c], .tup [fr b, fr a, fr c], .tup [fr c, fr a, fr b]]), none, none, none] s = .ok [.bl (decide (b + c < a)), .bl (decide (a + c < b)), .bl (decide (a + b < c))] s := by
    repeat (first | walk_at "sem1" | simp only [lcL, p1, p2, p3, q1, q2, q3])
  have h2 := lc_ok (own := [4, 5, 6]) (mi := mIter (mVar 3)) (l := [some (fr a), some (fr b), some (fr c), some (.lst [.tup [fr a, fr b, fr c], .tup [fr b, fr a, fr c], .tup [fr c, fr a, fr b]]), none, none, none]) (s := s) (iter_ok rfl rfl) h (by simp)
  unfold r_is_far
  generalize mLc [4, 5, 6] (mIter (mVar 3)) (mgTup 3 (mgCons (mgName 4) (mgCons (mgName 5) (mgCons (mgName 6) mgNil)))) mYes (mCall 2 r_less (mCons (mCall 2 r_plus (mCons (mVar 5) (mCons (mVar 6) mNil))) (mCons (mVar 4) mNil))) = part at *
  have i3 : (3 : Nat) ≤ 100000 := by decide
  repeat (first | walk_at "sem1" | simp only [h2, g, far, i3])
def d3 (T : Nat → Nat → Rat) (i j k : Nat) : Option D := if far (T i j) (T i k) (T j k) = true then some (.tup [.int i, .int j, .int k]) else none
def d4 (T : Nat → Nat → Rat) (i j k m : Nat) : Option D := if four (T i j + T k m) (T i k + T j m) (T i m + T j k) = true then none else some (.tup [.int i, .int j, .int k, .int m])
def due3 (T : Nat → Nat → Rat) (n : Nat) : Option D := (List.range n).findSome? fun i => (List.range (n - (i + 1))).findSome? fun j => (List.range (n - (i + 1 + j + 1))).findSome? fun k => d3 T i (i + 1 + j) (i + 1 + j + 1 + k)
def due4 (T : Nat → Nat → Rat) (n : Nat) : Option D := (List.range n).findSome? fun i => (List.range (n - (i + 1))).findSome? fun j => (List.range (n - (i + 1 + j + 1))).findSome? fun k => (List.range (n - (i + 1 + j + 1 + k + 1))).findSome? fun m => d4 T i (i + 1 + j) (i + 1 + j + 1 + k) (i + 1 + j + 1 + k + 1 + m)
def due (T : Nat → Nat → Rat) (n : Nat) : D := match due3 T n with
  | some r => r
  | none => match due4 T n with
    | some r => r
    | none => .non
section
variable {n : Nat} {T : Nat → Nat → Rat} {s : Sto}
theorem fault3 (hn : n ≤ 7) (hT : ∀ i j, Sm 40 (T i j)) : Look l_fault_3 s (fun l => ∃ x2 x3 x4 x5, l = [some (tabD n n T), some (.int n), x2, x3, x4, x5]) (due3 T n) := by
  unfold l_fault_3 due3
  refine look_for (lo := 0) (Q := fun i l => ∃ x3 x4 x5, l = [some (tabD n n T), some (.int n), some (.int (i : Nat)), x3, x4, x5]) ?_ ?_ (fun i hi => ?_) ?_
  · rintro l ⟨x2, x3, x4, x5, rfl⟩
    exact rng1_ok (n := n) rfl (by omega)
  · rintro i l hi ⟨x2, x3, x4, x5, rfl⟩
    rw [Int.zero_add]
    exact ⟨_, rfl, _, _, _, rfl⟩
  · unfold l_fault_4
    refine look_for (lo := (i : Int) + 1) (Q := fun j l => ∃ x4 x5, l = [some (tabD n n T), some (.int n), some (.int (i : Nat)), some (.int ((i + 1 + j : Nat) : Int)), x4, x5]) ?_ ?_ (fun j hj => ?_) ?_
    · rintro l ⟨x3, x4, x5, rfl⟩
      exact rng2_ok (n := n - (i + 1)) rfl rfl (by omega) (by omega) (by omega) (by omega) (by omega)
    · rintro j l hj ⟨x3, x4, x5, rfl⟩
      rw [show (i : Int) + 1 + (j : Int) = ((i + 1 + j : Nat) : Int) by omega]
      exact ⟨_, rfl, _, _, rfl⟩
    · unfold l_fault_5
      refine look_for (lo := ((i + 1 + j : Nat) : Int) + 1) (Q := fun k l => ∃ x5, l = [some (tabD n n T), some (.int n), some (.int (i : Nat)), some (.int ((i + 1 + j : Nat) : Int)), some (.int ((i + 1 + j + 1 + k : Nat) : Int)), x5]) ?_ ?_ (fun k hk => ?_) ?_
      · rintro l ⟨x4, x5, rfl⟩
        exact rng2_ok (n := n - (i + 1 + j + 1)) rfl rfl (by omega) (by omega) (by omega) (by omega) (by omega)
      · rintro k l hk ⟨x4, x5, rfl⟩
        rw [show ((i + 1 + j : Nat) : Int) + 1 + (k : Int) = ((i + 1 + j + 1 + k : Nat) : Int) by omega]
        exact ⟨_, rfl, _, rfl⟩
      · rintro l ⟨x5, rfl⟩
        have a1 := fun s => ix_tab (n := n) (m := n) (M := T) s (i := i) (by omega)
        have a2 := fun s => ix_tab (n := n) (m := n) (M := T) s (i := i + 1 + j) (by omega)
        have b1 := fun s => ix_row (m := n) (f := T i) s (j := i + 1 + j) (by omega)
        have b2 := fun s => ix_row (m := n) (f := T i) s (j := i + 1 + j + 1 + k) (by omega)
        have b3 := fun s => ix_row (m := n) (f := T (i + 1 + j)) s (j := i + 1 + j + 1 + k) (by omega)
        have c1 := far_ok s (hT i (i + 1 + j)) (hT i (i + 1 + j + 1 + k)) (hT (i + 1 + j) (i + 1 + j + 1 + k))
        generalize hI : i + 1 + j = J at *
        generalize hK : J + 1 + k = K at *
        unfold b_fault_5 d3
        have i3 : (3 : Nat) ≤ 100000 := by decide
        cases hf : far (T i J) (T i K) (T J K) with
        | true =>
          rw [hf] at c1
          refine ⟨fun v hv => ?_, fun hv => by simp at hv⟩
          simp only [if_true, Option.some.injEq] at hv
          subst hv
          repeat (first | walk_at "sem1" | simp only [a1, a2, b1, b2, b3, c1, i3])
        | false =>
          rw [hf] at c1
          refine ⟨fun v hv => by simp at hv, fun _ => ⟨[some (tabD n n T), some (.int n), some (.int (i : Nat)), some (.int J), some (.int K), x5], ?_, _, rfl⟩⟩
          repeat (first | walk_at "sem1" | simp only [a1, a2, b1, b2, b3, c1])
      · rintro k l ⟨x5, rfl⟩
        exact ⟨_, _, rfl⟩
    · rintro j l ⟨x4, x5, rfl⟩
      exact ⟨_, _, _, rfl⟩
  · rintro i l ⟨x3, x4, x5, rfl⟩
    exact ⟨_, _, _, _, rfl⟩
end
theorem four_body {a b c x y z : Rat} {p q r : Int} {x0 x1 x2 x3 x4 : Option D} {s : Sto} (ha : Sm 81 a) (hb : Sm 81 b) (hc : Sm 81 c)
    (hp : ixD (.lst [fr a, fr b, fr c]) (.int p) s = .ok (fr x) s) (hq : ixD (.lst [fr a, fr b, fr c]) (.int q) s = .ok (fr y) s) (hr : ixD (.lst [fr a, fr b, fr c]) (.int r) s = .ok (fr z) s) (hx : Sm 81 x) (hz : Sm 81 z) :
    b_are_four_2 [x0, x1, x2, x3, x4, some (.lst [fr a, fr b, fr c]), some (.int p), some (.int q), some (.int r)] s = if (decide (x = y) && !decide (x < z)) = true then .rt (.bl true) s else .nx [x0, x1, x2, x3, x4, some (.lst [fr a, fr b, fr c]), some (.int p), some (.int q), some (.int r)] s := by
  have q1 := less_ok s hx hz (by decide) (by decide) (by decide)
  unfold b_are_four_2
  by_cases e : x = y
  · have e1 : decide (x = y) = true := decide_eq_true e
    rw [e1, Bool.true_and]
    by_cases h : x < z
    · have h1 : decide (x < z) = true := decide_eq_true h
      rw [h1, Bool.not_true]
      rw [h1] at q1
      repeat (first | walk_at "sem1" | simp only [hp, hq, hr, eqD_fr, e1, q1, Bool.false_eq_true])
    · have h1 : decide (x < z) = false := decide_eq_false h
      rw [h1, Bool.not_false]
      rw [h1] at q1
      repeat (first | walk_at "sem1" | simp only [hp, hq, hr, eqD_fr, e1, q1])
  · have e1 : decide (x = y) = false := decide_eq_false e
    rw [e1, Bool.false_and]
    repeat (first | walk_at "sem1" | simp only [hp, hq, hr, eqD_fr, e1, Bool.false_eq_true])
theorem four_ok {n i j k m : Nat} {T : Nat → Nat → Rat} (s : Sto) (hT : ∀ i j, Sm 40 (T i j)) (hi : i < n) (hj : j < n) (hk : k < n) (hm : m < n) :
    r_are_four [tabD n n T, .int i, .int j, .int k, .int m] s = .ok (.bl (four (T i j + T k m) (T i k + T j m) (T i m + T j k))) s := by
  have ha := plus_sm (hT i j) (hT k m)
  have hb := plus_sm (hT i k) (hT j m)
  have hc := plus_sm (hT i m) (hT j k)
  have p1 := fun s => plus_ok s (hT i j) (hT k m) (by decide) (by decide) (by decide)
  have p2 := fun s => plus_ok s (hT i k) (hT j m) (by decide) (by decide) (by decide)
  have p3 := fun s => plus_ok s (hT i m) (hT j k) (by decide) (by decide) (by decide)
  have a1 := fun s => ix_tab (n := n) (m := n) (M := T) s hi
  have a2 := fun s => ix_tab (n := n) (m := n) (M := T) s hj
  have a3 := fun s => ix_tab (n := n) (m := n) (M := T) s hk
  have b1 := fun s => ix_row (m := n) (f := T i) s hj
  have b2 := fun s => ix_row (m := n) (f := T i) s hk
  have b3 := fun s => ix_row (m := n) (f := T i) s hm
  have b4 := fun s => ix_row (m := n) (f := T j) s hk
  have b5 := fun s => ix_row (m := n) (f := T j) s hm
  have b6 := fun s => ix_row (m := n) (f := T k) s hm
  generalize T i j + T k m = a at *
  generalize T i k + T j m = b at *
  generalize T i m + T j k = c at *
  have v1 := four_body (p := 0) (q := 1) (r := 2) (x := a) (y := b) (z := c) (x0 := some (tabD n n T)) (x1 := some (.int i)) (x2 := some (.int j)) (x3 := some (.int k)) (x4 := some (.int m)) (s := s) ha hb hc rfl rfl rfl ha hc
  have v2 := four_body (p := 0) (q := 2) (r := 1) (x := a) (y := c) (z := b) (x0 := some (tabD n n T)) (x1 := some (.int i)) (x2 := some (.int j)) (x3 := some (.int k)) (x4 := some (.int m)) (s := s) ha hb hc rfl rfl rfl ha hb
  have v3 := four_body (p := 1) (q := 2) (r := 0) (x := b) (y := c) (z := a) (x0 := some (tabD n n T)) (x1 := some (.int i)) (x2 := some (.int j)) (x3 := some (.int k)) (x4 := some (.int m)) (s := s) ha hb hc rfl rfl rfl hb ha
  have i3 : (3 : Nat) ≤ 100000 := by decide
  have hl : (mSeq l_are_four_2 t_are_four_5) [some (tabD n n T), some (.int i), some (.int j), some (.int k), some (.int m), some (.lst [fr a, fr b, fr c]), none, none, none] s = .rt (.bl (four a b c)) s := by
    unfold l_are_four_2 t_are_four_5 four
    rw [mSeq, for_ok (ds := [.tup [.int 0, .int 1, .int 2], .tup [.int 0, .int 2, .int 1], .tup [.int 1, .int 2, .int 0]]) (iter_ok rfl rfl)]
    generalize (decide (a = b) && !decide (a < c)) = t1 at *
    generalize (decide (a = c) && !decide (a < b)) = t2 at *
    generalize (decide (b = c) && !decide (b < a)) = t3 at *
    cases t1
    · cases t2
      · cases t3
        · repeat (first | walk_at "sem1" | simp only [forL, v1, v2, v3, Bool.false_eq_true, Bool.or_self])
        · repeat (first | walk_at "sem1" | simp only [forL, v1, v2, v3, Bool.false_eq_true, Bool.or_true])
      · repeat (first | walk_at "sem1" | simp only [forL, v1, v2, Bool.false_eq_true, Bool.or_true, Bool.true_or])
    · repeat (first | walk_at "sem1" | simp only [forL, v1, Bool.true_or])
  unfold r_are_four
  simp only [t_are_four_2]
  generalize mSeq l_are_four_2 t_are_four_5 = rest at *
  repeat (first | walk_at "sem1" | simp only [a1, a2, a3, b1, b2, b3, b4, b5, b6, p1, p2, p3, i3, hl])
section
variable {n : Nat} {T : Nat → Nat → Rat} {s : Sto}
theorem fault4 (hn : n ≤ 7) (hT : ∀ i j, Sm 40 (T i j)) : Look l_fault_8 s (fun l => ∃ x2 x3 x4 x5, l = [some (tabD n n T), some (.int n), x2, x3, x4, x5]) (due4 T n) := by
  unfold l_fault_8 due4
  refine look_for (lo := 0) (Q := fun i l => ∃ x3 x4 x5, l = [some (tabD n n T), some (.int n), some (.int (i : Nat)), x3, x4, x5]) ?_ ?_ (fun i hi => ?_) ?_
  · rintro l ⟨x2, x3, x4, x5, rfl⟩
    exact rng1_ok (n := n) rfl (by omega)
  · rintro i l hi ⟨x2, x3, x4, x5, rfl⟩
    rw [Int.zero_add]
    exact ⟨_, rfl, _, _, _, rfl⟩
  · unfold l_fault_9
    refine look_for (lo := (i : Int) + 1) (Q := fun j l => ∃ x4 x5, l = [some (tabD n n T), some (.int n), some (.int (i : Nat)), some (.int ((i + 1 + j : Nat) : Int)), x4, x5]) ?_ ?_ (fun j hj => ?_) ?_
    · rintro l ⟨x3, x4, x5, rfl⟩
      exact rng2_ok (n := n - (i + 1)) rfl rfl (by omega) (by omega) (by omega) (by omega) (by omega)
    · rintro j l hj ⟨x3, x4, x5, rfl⟩
      rw [show (i : Int) + 1 + (j : Int) = ((i + 1 + j : Nat) : Int) by omega]
      exact ⟨_, rfl, _, _, rfl⟩
    · unfold l_fault_10
      refine look_for (lo := ((i + 1 + j : Nat) : Int) + 1) (Q := fun k l => ∃ x5, l = [some (tabD n n T), some (.int n), some (.int (i : Nat)), some (.int ((i + 1 + j : Nat) : Int)), some (.int ((i + 1 + j + 1 + k : Nat) : Int)), x5]) ?_ ?_ (fun k hk => ?_) ?_
      · rintro l ⟨x4, x5, rfl⟩
        exact rng2_ok (n := n - (i + 1 + j + 1)) rfl rfl (by omega) (by omega) (by omega) (by omega) (by omega)
      · rintro k l hk ⟨x4, x5, rfl⟩
        rw [show ((i + 1 + j : Nat) : Int) + 1 + (k : Int) = ((i + 1 + j + 1 + k : Nat) : Int) by omega]
        exact ⟨_, rfl, _, rfl⟩
      · unfold l_fault_11
        refine look_for (lo := ((i + 1 + j + 1 + k : Nat) : Int) + 1) (Q := fun m l => l = [some (tabD n n T), some (.int n), some (.int (i : Nat)), some (.int ((i + 1 + j : Nat) : Int)), some (.int ((i + 1 + j + 1 + k : Nat) : Int)), some (.int ((i + 1 + j + 1 + k + 1 + m : Nat) : Int))]) ?_ ?_ (fun m hm => ?_) ?_
        · rintro l ⟨x5, rfl⟩
          exact rng2_ok (n := n - (i + 1 + j + 1 + k + 1)) rfl rfl (by omega) (by omega) (by omega) (by omega) (by omega)
        · rintro m l hm ⟨x5, rfl⟩
          rw [show ((i + 1 + j + 1 + k : Nat) : Int) + 1 + (m : Int) = ((i + 1 + j + 1 + k + 1 + m : Nat) : Int) by omega]
          exact ⟨_, rfl, rfl⟩
        · rintro l rfl
          have c1 := four_ok (n := n) (T := T) (i := i) (j := i + 1 + j) (k := i + 1 + j + 1 + k) (m := i + 1 + j + 1 + k + 1 + m) s hT (by omega) (by omega) (by omega) (by omega)
          generalize hI : i + 1 + j = J at *
          generalize hK : J + 1 + k = K at *
          generalize hM : K + 1 + m = M at *
          unfold b_fault_11 d4
          have i3 : (4 : Nat) ≤ 100000 := by decide
          cases hf : four (T i J + T K M) (T i K + T J M) (T i M + T J K) with
          | true =>
            rw [hf] at c1
            refine ⟨fun v hv => by simp at hv, fun _ => ⟨_, ?_, rfl⟩⟩
            repeat (first | walk_at "sem1" | simp only [c1])
          | false =>
            rw [hf] at c1
            refine ⟨fun v hv => ?_, fun hv => by simp at hv⟩
            simp only [Bool.false_eq_true, if_false, Option.some.injEq] at hv
            subst hv
            repeat (first | walk_at "sem1" | simp only [c1, i3])
        · rintro m l rfl
          exact ⟨_, rfl⟩
      · rintro k l ⟨x5, rfl⟩
        exact ⟨_, _, rfl⟩
    · rintro j l ⟨x4, x5, rfl⟩
      exact ⟨_, _, _, rfl⟩
  · rintro i l ⟨x3, x4, x5, rfl⟩
    exact ⟨_, _, _, _, rfl⟩
end
theorem due_eq (T : Nat → Nat → Rat) (n : Nat) : due T n = ((due3 T n).or (due4 T n)).getD .non := by
  unfold due
  cases due3 T n <;> cases due4 T n <;> rfl
theorem fault_ok {n : Nat} {T : Nat → Nat → Rat} (s : Sto) (h2 : 2 ≤ n) (hn : n ≤ 7) (hT : TabOk T n 40) : r_fault [tabD n n T] s = .ok (due T n) s := by
  have hg : (List.range n).all (goodRow T) = true := by
    rw [List.all_eq_true]
    intro i hi
    have hi := List.mem_range.mp hi
    unfold goodRow
    rw [Bool.and_eq_true, decide_eq_true_eq, List.all_eq_true]
    refine ⟨hT.dia i, fun j hj => ?_⟩
    have hj := List.mem_range.mp hj
    rw [Bool.and_eq_true, decide_eq_true_eq, decide_eq_true_eq]
    exact ⟨hT.pos i j hi (by omega) (by omega), hT.sym i j⟩
  have t1 := istable_ok (T := T) s h2 (by omega : n ≤ 16)
  rw [hg] at t1
  have t2 : lenF [tabD n n T] s = .ok (.int n) s := by rw [tabD, lenF_tup]; simp
  have lk := (look_seq (fault3 (s := s) hn hT.sm) (fault4 (s := s) hn hT.sm)) [some (tabD n n T), some (.int n), none, none, none, none] ⟨_, _, _, _, rfl⟩
  rw [due_eq]
  unfold r_fault
  simp only [t_fault_2, t_fault_3]
  generalize hw : (due3 T n).or (due4 T n) = w at *
  have lt : r_look_at_table [tabD n n T] s = .ok .non s := by
    unfold r_look_at_table
    repeat (first | walk_at "sem1" | simp only [t1])
  generalize l_fault_3 = la at *
  simp only [t_fault_8, t_fault_14]
  generalize l_fault_8 = lb at *
  generalize tabD n n T = tab at *
  have as : mSeq la (mSeq lb (mRet (mC .non))) [some tab, some (.int n), none, none, none, none] s = .rt (w.getD .non) s := by
    rw [mSeq_assoc, mSeq]
    cases w with
    | some v => rw [lk.1 v rfl]; rfl
    | none =>
      obtain ⟨l', e, _⟩ := lk.2 rfl
      rw [e]; rfl
  generalize mSeq la (mSeq lb (mRet (mC .non))) = rest at *
  repeat (first | walk_at "sem1" | simp only [lt, t2, as])
section
variable {n : Nat} {T : Nat → Nat → Rat} {s : Sto}
theorem law3_body {a b c : Rat} {i j k : Int} {x0 x1 x8 x9 x10 x11 : Option D} (ha : Sm 40 a) (hb : Sm 40 b) (hc : Sm 40 c) :
    t__law_due_6 [x0, x1, some (.int i), some (.int j), some (.int k), some (fr a), some (fr b), some (fr c), x8, x9, x10, x11] s = if far a b c = true then .rt (.tup [.int i, .int j, .int k]) s else .nx [x0, x1, some (.int i), some (.int j), some (.int k), some (fr a), some (fr b), some (fr c), x8, x9, x10, x11] s := by
  have p1 := fun s => ladd_ok s ha hb (by decide) (by decide) (by decide)
  have p2 := fun s => ladd_ok s ha hc (by decide) (by decide) (by decide)
  have p3 := fun s => ladd_ok s hb hc (by decide) (by decide) (by decide)
  have q1 := fun s => lless_ok s (plus_sm ha hb) hc (by decide) (by decide) (by decide)
  have q2 := fun s => lless_ok s (plus_sm ha hc) hb (by decide) (by decide) (by decide)
  have q3 := fun s => lless_ok s (plus_sm hb hc) ha (by decide) (by decide) (by decide)
  have i3 : (3 : Nat) ≤ 100000 := by decide
  unfold t__law_due_6 far
  generalize decide (a + b < c) = t1 at *
  generalize decide (a + c < b) = t2 at *
  generalize decide (b + c < a) = t3 at *
  cases t1
  · cases t2
    · cases t3
      · repeat (first | walk_at "sem1" | simp only [p1, p2, p3, q1, q2, q3, Bool.or_self, Bool.false_eq_true])
      · repeat (first | walk_at "sem1" | simp only [p1, p2, p3, q1, q2, q3, i3, Bool.true_or])
    · repeat (first | walk_at "sem1" | simp only [p1, p2, p3, q1, q2, q3, i3, Bool.or_true, Bool.true_or])
  · repeat (first | walk_at "sem1" | simp only [p1, p2, p3, q1, q2, q3, i3, Bool.or_true])
theorem law3 (hn : n ≤ 7) (hT : ∀ i j, Sm 40 (T i j)) : Look l__law_due_2 s (fun l => ∃ x2 x3 x4 x5 x6 x7 x8 x9 x10 x11, l = [some (tabD n n T), some (.int n), x2, x3, x4, x5, x6, x7, x8, x9, x10, x11]) (due3 T n) := by
  unfold l__law_due_2 due3
  refine look_for (lo := 0) (Q := fun i l => ∃ x3 x4 x5 x6 x7 x8 x9 x10 x11, l = [some (tabD n n T), some (.int n), some (.int (i : Nat)), x3, x4, x5, x6, x7, x8, x9, x10, x11]) ?_ ?_ (fun i hi => ?_) ?_
  · rintro l ⟨x2, x3, x4, x5, x6, x7, x8, x9, x10, x11, rfl⟩
    exact rng1_ok (n := n) rfl (by omega)
  · rintro i l hi ⟨x2, x3, x4, x5, x6, x7, x8, x9, x10, x11, rfl⟩
    rw [Int.zero_add]
    exact ⟨_, rfl, _, _, _, _, _, _, _, _, _, rfl⟩
  · unfold l__law_due_3
    refine look_for (lo := (i : Int) + 1) (Q := fun j l => ∃ x4 x5 x6 x7 x8 x9 x10 x11, l = [some (tabD n n T), some (.int n), some (.int (i : Nat)), some (.int ((i + 1 + j : Nat) : Int)), x4, x5, x6, x7, x8, x9, x10, x11]) ?_ ?_ (fun j hj => ?_) ?_
    · rintro l ⟨x3, x4, x5, x6, x7, x8, x9, x10, x11, rfl⟩
      exact rng2_ok (n := n - (i + 1)) rfl rfl (by omega) (by omega) (by omega) (by omega) (by omega)
    · rintro j l hj ⟨x3, x4, x5, x6, x7, x8, x9, x10, x11, rfl⟩
      rw [show (i : Int) + 1 + (j : Int) = ((i + 1 + j : Nat) : Int) by omega]
      exact ⟨_, rfl, _, _, _, _, _, _, _, _, rfl⟩
    · unfold l__law_due_4
      refine look_for (lo := ((i + 1 + j : Nat) : Int) + 1) (Q := fun k l => ∃ x5 x6 x7 x8 x9 x10 x11, l = [some (tabD n n T), some (.int n), some (.int (i : Nat)), some (.int ((i + 1 + j : Nat) : Int)), some (.int ((i + 1 + j + 1 + k : Nat) : Int)), x5, x6, x7, x8, x9, x10, x11]) ?_ ?_ (fun k hk => ?_) ?_
      · rintro l ⟨x4, x5, x6, x7, x8, x9, x10, x11, rfl⟩
        exact rng2_ok (n := n - (i + 1 + j + 1)) rfl rfl (by omega) (by omega) (by omega) (by omega) (by omega)
      · rintro k l hk ⟨x4, x5, x6, x7, x8, x9, x10, x11, rfl⟩
        rw [show ((i + 1 + j : Nat) : Int) + 1 + (k : Int) = ((i + 1 + j + 1 + k : Nat) : Int) by omega]
        exact ⟨_, rfl, _, _, _, _, _, _, _, rfl⟩
      · rintro l ⟨x5, x6, x7, x8, x9, x10, x11, rfl⟩
        have a1 := fun s => ix_tab (n := n) (m := n) (M := T) s (i := i) (by omega)
        have a2 := fun s => ix_tab (n := n) (m := n) (M := T) s (i := i + 1 + j) (by omega)
        have b1 := fun s => ix_row (m := n) (f := T i) s (j := i + 1 + j) (by omega)
        have b2 := fun s => ix_row (m := n) (f := T i) s (j := i + 1 + j + 1 + k) (by omega)
        have b3 := fun s => ix_row (m := n) (f := T (i + 1 + j)) s (j := i + 1 + j + 1 + k) (by omega)
        have c1 := law3_body (x0 := some (tabD n n T)) (x1 := some (.int n)) (i := (i : Nat)) (j := (i + 1 + j : Nat)) (k := (i + 1 + j + 1 + k : Nat)) (x8 := x8) (x9 := x9) (x10 := x10) (x11 := x11) (s := s) (hT i (i + 1 + j)) (hT i (i + 1 + j + 1 + k)) (hT (i + 1 + j) (i + 1 + j + 1 + k))
        generalize hI : i + 1 + j = J at *
        generalize hK : J + 1 + k = K at *
        unfold b__law_due_4 d3
        cases hf : far (T i J) (T i K) (T J K) with
        | true =>
          rw [hf, if_pos rfl] at c1
          refine ⟨fun v hv => ?_, fun hv => by simp at hv⟩
          simp only [if_true, Option.some.injEq] at hv
          subst hv
          repeat (first | walk_at "sem1" | simp only [a1, a2, b1, b2, b3, c1])
        | false =>
          rw [hf, if_neg (by decide)] at c1
          refine ⟨fun v hv => by simp at hv, fun _ => ⟨[some (tabD n n T), some (.int n), some (.int (i : Nat)), some (.int J), some (.int K), some (fr (T i J)), some (fr (T i K)), some (fr (T J K)), x8, x9, x10, x11], ?_, _, _, _, _, _, _, _, rfl⟩⟩
          repeat (first | walk_at "sem1" | simp only [a1, a2, b1, b2, b3, c1])
      · rintro k l ⟨x5, x6, x7, x8, x9, x10, x11, rfl⟩
        exact ⟨_, _, _, _, _, _, _, _, rfl⟩
    · rintro j l ⟨x4, x5, x6, x7, x8, x9, x10, x11, rfl⟩
      exact ⟨_, _, _, _, _, _, _, _, _, rfl⟩
  · rintro i l ⟨x3, x4, x5, x6, x7, x8, x9, x10, x11, rfl⟩
    exact ⟨_, _, _, _, _, _, _, _, _, _, rfl⟩
/-- the greatest of three, as the law finds it -/
def top3 (a b c : Rat) : Rat := if a < b then (if b < c then c else b) else (if a < c then c else a)
theorem top_count (a b c : Rat) : decide (((([a, b, c].filter fun x => decide (x = top3 a b c)).length : Nat) : Int) < 2) = !four a b c := by
  unfold top3 four
  by_cases h1 : a < b
  · by_cases h2 : b < c
    · have e1 : a ≠ c := by grind
      have e2 : b ≠ c := by grind
      have e3 : a ≠ b := by grind
      simp [h1, h2, e1, e2, e3]
    · by_cases e : b = c
      · subst e
        have e1 : a ≠ b := by grind
        have e2 : ¬ b < a := by grind
        simp [h1, e1, e2]
      · have e1 : a ≠ b := by grind
        have e2 : ¬ (c = b) := by grind
        by_cases e3 : a = c
        · simp [h1, h2, e1, e2, e, e3, List.filter_cons]
          grind
        · simp [h1, h2, e1, e2, e, e3, List.filter_cons]
  · by_cases h2 : a < c
    · by_cases e : a = b
      · have e2 : a ≠ c := by grind
        have e3 : b ≠ c := by grind
        simp [h1, h2, e, e2, e3, List.filter_cons]
        grind
      · have e2 : a ≠ c := by grind
        have e3 : b ≠ c := by grind
        simp [h1, h2, e, e2, e3, List.filter_cons]
    · by_cases e : a = b
      · subst e
        by_cases e2 : a = c
        · subst e2; simp [List.filter_cons]
        · have e3 : ¬ (c = a) := by grind
          simp [h2, e2, e3, List.filter_cons]
      · have e1 : ¬ (b = a) := by grind
        by_cases e2 : a = c
        · subst e2; simp [h1, e, e1, List.filter_cons]
        · have e3 : ¬ (c = a) := by grind
          by_cases e4 : b = c
          · simp [h1, h2, e, e1, e2, e3, e4, List.filter_cons]
            grind
          · simp [h1, h2, e, e1, e2, e3, e4, List.filter_cons]
open Classical in
theorem law4_body {a b c : Rat} {i j k m : Int} {x0 x1 x5 x6 x7 x10 x11 : Option D} (ha : Sm 81 a) (hb : Sm 81 b) (hc : Sm 81 c) :
    (four a b c = false → t__law_due_13 [x0, x1, some (.int i), some (.int j), some (.int k), x5, x6, x7, some (.int m), some (.lst [fr a, fr b, fr c]), x10, x11] s = .rt (.tup [.int i, .int j, .int k, .int m]) s) ∧
    (four a b c = true → ∃ y10 y11, t__law_due_13 [x0, x1, some (.int i), some (.int j), some (.int k), x5, x6, x7, some (.int m), some (.lst [fr a, fr b, fr c]), x10, x11] s = .nx [x0, x1, some (.int i), some (.int j), some (.int k), x5, x6, x7, some (.int m), some (.lst [fr a, fr b, fr c]), y10, y11] s) := by
  have hl : forL (mgName 11) b__law_due_14 [fr a, fr b, fr c] [x0, x1, some (.int i), some (.int j), some (.int k), x5, x6, x7, some (.int m), some (.lst [fr a, fr b, fr c]), some (fr a), x11] s = .nx [x0, x1, some (.int i), some (.int j), some (.int k), x5, x6, x7, some (.int m), some (.lst [fr a, fr b, fr c]), some (fr (top3 a b c)), some (fr c)] s := by
    have l1 := lless_ok s ha ha (by decide) (by decide) (by decide)
    have l2 := lless_ok s ha hb (by decide) (by decide) (by decide)
    have l3 := lless_ok s ha hc (by decide) (by decide) (by decide)
    have l4 := lless_ok s hb hc (by decide) (by decide) (by decide)
    have e0 : decide (a < a) = false := decide_eq_false Rat.lt_irrefl
    rw [e0] at l1
    unfold top3 b__law_due_14
    by_cases h1 : a < b
    · have d1 : decide (a < b) = true := decide_eq_true h1
      rw [d1] at l2
      by_cases h2 : b < c
      · have d2 : decide (b < c) = true := decide_eq_true h2
        rw [d2] at l4
        simp only [h1, h2, if_true]
        repeat (first | walk_at "sem1" | simp only [forL, l1, l2, l3, l4])
      · have d2 : decide (b < c) = false := decide_eq_false h2
        rw [d2] at l4
        simp only [h1, h2, if_true, if_false]
        repeat (first | walk_at "sem1" | simp only [forL, l1, l2, l3, l4])
    · have d1 : decide (a < b) = false := decide_eq_false h1
      rw [d1] at l2
      by_cases h2 : a < c
      · have d2 : decide (a < c) = true := decide_eq_true h2
        rw [d2] at l3
        simp only [h1, h2, if_true, if_false]
        repeat (first | walk_at "sem1" | simp only [forL, l1, l2, l3, l4])
      · have d2 : decide (a < c) = false := decide_eq_false h2
        rw [d2] at l3
        simp only [h1, h2, if_false]
        repeat (first | walk_at "sem1" | simp only [forL, l1, l2, l3, l4])
  have hf := lcL_filter (tg := mgName 11) (tt := mTest (mOp eqD (mVar 11) (mVar 10))) (me := mVar 11) (l := [x0, x1, some (.int i), some (.int j), some (.int k), x5, x6, x7, some (.int m), some (.lst [fr a, fr b, fr c]), some (fr (top3 a b c)), none]) (s := s) (fun d => decide (d = fr (top3 a b c))) (fun d => d) (ds := [a, b, c].map fr) (fun d hd => by
    obtain ⟨x, _, rfl⟩ := List.mem_map.mp hd
    refine ⟨_, rfl, ?_, fun _ => rfl⟩
    have e : decide (fr x = fr (top3 a b c)) = decide (x = top3 a b c) := decide_eq_decide.mpr fr_inj
    rw [e]
    repeat (first | walk_at "sem1" | simp only [eqD_fr]))
  have hlen : (([a, b, c].map fr).filter fun d => decide (d = fr (top3 a b c))).length = ([a, b, c].filter fun x => decide (x = top3 a b c)).length := by
    rw [List.filter_map, List.length_map]
    congr 2
    funext x
    exact decide_eq_decide.mpr fr_inj
  have hc3 : (List.map (fun d => d) (([a, b, c].map fr).filter fun d => decide (d = fr (top3 a b c)))).length ≤ 100000 := by
    rw [List.length_map]
    exact Nat.le_trans (List.length_filter_le ..) (by simp)
  have hcomp := lc_ok (own := [11]) (mi := mIter (mVar 9)) (l := [x0, x1, some (.int i), some (.int j), some (.int k), x5, x6, x7, some (.int m), some (.lst [fr a, fr b, fr c]), some (fr (top3 a b c)), some (fr c)]) (s := s) (iter_ok rfl rfl) hf hc3
  have hL := lenF_lst (List.map (fun d => d) (([a, b, c].map fr).filter fun d => decide (d = fr (top3 a b c)))) s
  rw [List.length_map, hlen] at hL
  have tc := top_count a b c
  generalize List.map (fun d => d) (([a, b, c].map fr).filter fun d => decide (d = fr (top3 a b c))) = ys at *
  have i4 : (4 : Nat) ≤ 100000 := by decide
  have st : t__law_due_13 [x0, x1, some (.int i), some (.int j), some (.int k), x5, x6, x7, some (.int m), some (.lst [fr a, fr b, fr c]), x10, x11] s = t__law_due_17 [x0, x1, some (.int i), some (.int j), some (.int k), x5, x6, x7, some (.int m), some (.lst [fr a, fr b, fr c]), some (fr (top3 a b c)), some (fr c)] s := by
    simp only [t__law_due_13, t__law_due_14]
    have lf : l__law_due_14 [x0, x1, some (.int i), some (.int j), some (.int k), x5, x6, x7, some (.int m), some (.lst [fr a, fr b, fr c]), some (fr a), x11] s = .nx [x0, x1, some (.int i), some (.int j), some (.int k), x5, x6, x7, some (.int m), some (.lst [fr a, fr b, fr c]), some (fr (top3 a b c)), some (fr c)] s := by
      unfold l__law_due_14
      rw [for_ok (iter_ok rfl rfl), hl]
    have i0 : ixD (.lst [fr a, fr b, fr c]) (.int 0) s = .ok (fr a) s := rfl
    generalize t__law_due_17 = rest
    repeat (first | walk_at "sem1" | simp only [i0, lf])
  rw [st]
  unfold t__law_due_17
  generalize mLc [11] (mIter (mVar 9)) (mgName 11) (mTest (mOp eqD (mVar 11) (mVar 10))) (mVar 11) = part at *
  refine ⟨fun h => ?_, fun h => ⟨some (fr (top3 a b c)), some (fr c), ?_⟩⟩
  · rw [h, Bool.not_false] at tc
    repeat (first | walk_at "sem1" | simp only [hcomp, hL, tc, i4])
  · rw [h, Bool.not_true] at tc
    repeat (first | walk_at "sem1" | simp only [hcomp, hL, tc])
theorem law4 (hn : n ≤ 7) (hT : ∀ i j, Sm 40 (T i j)) : Look l__law_due_8 s (fun l => ∃ x2 x3 x4 x5 x6 x7 x8 x9 x10 x11, l = [some (tabD n n T), some (.int n), x2, x3, x4, x5, x6, x7, x8, x9, x10, x11]) (due4 T n) := by
  unfold l__law_due_8 due4
  refine look_for (lo := 0) (Q := fun i l => ∃ x3 x4 x5 x6 x7 x8 x9 x10 x11, l = [some (tabD n n T), some (.int n), some (.int (i : Nat)), x3, x4, x5, x6, x7, x8, x9, x10, x11]) ?_ ?_ (fun i hi => ?_) ?_
  · rintro l ⟨x2, x3, x4, x5, x6, x7, x8, x9, x10, x11, rfl⟩
    exact rng1_ok (n := n) rfl (by omega)
  · rintro i l hi ⟨x2, x3, x4, x5, x6, x7, x8, x9, x10, x11, rfl⟩
    rw [Int.zero_add]
    exact ⟨_, rfl, _, _, _, _, _, _, _, _, _, rfl⟩
  · unfold l__law_due_9
    refine look_for (lo := (i : Int) + 1) (Q := fun j l => ∃ x4 x5 x6 x7 x8 x9 x10 x11, l = [some (tabD n n T), some (.int n), some (.int (i : Nat)), some (.int ((i + 1 + j : Nat) : Int)), x4, x5, x6, x7, x8, x9, x10, x11]) ?_ ?_ (fun j hj => ?_) ?_
    · rintro l ⟨x3, x4, x5, x6, x7, x8, x9, x10, x11, rfl⟩
      exact rng2_ok (n := n - (i + 1)) rfl rfl (by omega) (by omega) (by omega) (by omega) (by omega)
    · rintro j l hj ⟨x3, x4, x5, x6, x7, x8, x9, x10, x11, rfl⟩
      rw [show (i : Int) + 1 + (j : Int) = ((i + 1 + j : Nat) : Int) by omega]
      exact ⟨_, rfl, _, _, _, _, _, _, _, _, rfl⟩
    · unfold l__law_due_10
      refine look_for (lo := ((i + 1 + j : Nat) : Int) + 1) (Q := fun k l => ∃ x5 x6 x7 x8 x9 x10 x11, l = [some (tabD n n T), some (.int n), some (.int (i : Nat)), some (.int ((i + 1 + j : Nat) : Int)), some (.int ((i + 1 + j + 1 + k : Nat) : Int)), x5, x6, x7, x8, x9, x10, x11]) ?_ ?_ (fun k hk => ?_) ?_
      · rintro l ⟨x4, x5, x6, x7, x8, x9, x10, x11, rfl⟩
        exact rng2_ok (n := n - (i + 1 + j + 1)) rfl rfl (by omega) (by omega) (by omega) (by omega) (by omega)
      · rintro k l hk ⟨x4, x5, x6, x7, x8, x9, x10, x11, rfl⟩
        rw [show ((i + 1 + j : Nat) : Int) + 1 + (k : Int) = ((i + 1 + j + 1 + k : Nat) : Int) by omega]
        exact ⟨_, rfl, _, _, _, _, _, _, _, rfl⟩
      · unfold l__law_due_11
        refine look_for (lo := ((i + 1 + j + 1 + k : Nat) : Int) + 1) (Q := fun m l => ∃ x5 x6 x7 x9 x10 x11, l = [some (tabD n n T), some (.int n), some (.int (i : Nat)), some (.int ((i + 1 + j : Nat) : Int)), some (.int ((i + 1 + j + 1 + k : Nat) : Int)), x5, x6, x7, some (.int ((i + 1 + j + 1 + k + 1 + m : Nat) : Int)), x9, x10, x11]) ?_ ?_ (fun m hm => ?_) ?_
        · rintro l ⟨x5, x6, x7, x8, x9, x10, x11, rfl⟩
          exact rng2_ok (n := n - (i + 1 + j + 1 + k + 1)) rfl rfl (by omega) (by omega) (by omega) (by omega) (by omega)
        · rintro m l hm ⟨x5, x6, x7, x8, x9, x10, x11, rfl⟩
          rw [show ((i + 1 + j + 1 + k : Nat) : Int) + 1 + (m : Int) = ((i + 1 + j + 1 + k + 1 + m : Nat) : Int) by omega]
          exact ⟨_, rfl, _, _, _, _, _, _, rfl⟩
        · rintro l ⟨x5, x6, x7, x9, x10, x11, rfl⟩
          have a1 := fun s => ix_tab (n := n) (m := n) (M := T) s (i := i) (by omega)
          have a2 := fun s => ix_tab (n := n) (m := n) (M := T) s (i := i + 1 + j) (by omega)
          have a3 := fun s => ix_tab (n := n) (m := n) (M := T) s (i := i + 1 + j + 1 + k) (by omega)
          have b1 := fun s => ix_row (m := n) (f := T i) s (j := i + 1 + j) (by omega)
          have b2 := fun s => ix_row (m := n) (f := T i) s (j := i + 1 + j + 1 + k) (by omega)
          have b3 := fun s => ix_row (m := n) (f := T i) s (j := i + 1 + j + 1 + k + 1 + m) (by omega)
          have b4 := fun s => ix_row (m := n) (f := T (i + 1 + j)) s (j := i + 1 + j + 1 + k) (by omega)
          have b5 := fun s => ix_row (m := n) (f := T (i + 1 + j)) s (j := i + 1 + j + 1 + k + 1 + m) (by omega)
          have b6 := fun s => ix_row (m := n) (f := T (i + 1 + j + 1 + k)) s (j := i + 1 + j + 1 + k + 1 + m) (by omega)
          generalize hI : i + 1 + j = J at *
          generalize hK : J + 1 + k = K at *
          generalize hM : K + 1 + m = M at *
          have p1 := fun s => ladd_ok s (hT i J) (hT K M) (by decide) (by decide) (by decide)
          have p2 := fun s => ladd_ok s (hT i K) (hT J M) (by decide) (by decide) (by decide)
          have p3 := fun s => ladd_ok s (hT i M) (hT J K) (by decide) (by decide) (by decide)
          have c1 := law4_body (x0 := some (tabD n n T)) (x1 := some (.int n)) (i := (i : Nat)) (j := (J : Nat)) (k := (K : Nat)) (m := (M : Nat)) (x5 := x5) (x6 := x6) (x7 := x7) (x10 := x10) (x11 := x11) (s := s) (plus_sm (hT i J) (hT K M)) (plus_sm (hT i K) (hT J M)) (plus_sm (hT i M) (hT J K))
          have i3 : (3 : Nat) ≤ 100000 := by decide
          unfold b__law_due_11 d4
          generalize t__law_due_13 = rest at *
          cases hf : four (T i J + T K M) (T i K + T J M) (T i M + T J K) with
          | true =>
            obtain ⟨y10, y11, c2⟩ := c1.2 hf
            refine ⟨fun v hv => by simp at hv, fun _ => ⟨[some (tabD n n T), some (.int n), some (.int (i : Nat)), some (.int J), some (.int K), x5, x6, x7, some (.int M), some (.lst [fr (T i J + T K M), fr (T i K + T J M), fr (T i M + T J K)]), y10, y11], ?_, _, _, _, _, _, _, rfl⟩⟩
            · repeat (first | walk_at "sem1" | simp only [a1, a2, a3, b1, b2, b3, b4, b5, b6, p1, p2, p3, i3, c2])
          | false =>
            have c2 := c1.1 hf
            refine ⟨fun v hv => ?_, fun hv => by simp at hv⟩
            simp only [Bool.false_eq_true, if_false, Option.some.injEq] at hv
            subst hv
            repeat (first | walk_at "sem1" | simp only [a1, a2, a3, b1, b2, b3, b4, b5, b6, p1, p2, p3, i3, c2])
        · rintro m l ⟨x5, x6, x7, x9, x10, x11, rfl⟩
          exact ⟨_, _, _, _, _, _, _, rfl⟩
      · rintro k l ⟨x5, x6, x7, x8, x9, x10, x11, rfl⟩
        exact ⟨_, _, _, _, _, _, _, _, rfl⟩
    · rintro j l ⟨x4, x5, x6, x7, x8, x9, x10, x11, rfl⟩
      exact ⟨_, _, _, _, _, _, _, _, _, rfl⟩
  · rintro i l ⟨x3, x4, x5, x6, x7, x8, x9, x10, x11, rfl⟩
    exact ⟨_, _, _, _, _, _, _, _, _, _, rfl⟩
end
theorem due_ok {n : Nat} {T : Nat → Nat → Rat} (s : Sto) (hn : n ≤ 7) (hT : TabOk T n 40) : r__law_due [tabD n n T] s = .ok (due T n) s := by
  have t2 : lenF [tabD n n T] s = .ok (.int n) s := by rw [tabD, lenF_tup]; simp
  have lk := (look_seq (law3 (s := s) hn hT.sm) (law4 (s := s) hn hT.sm)) [some (tabD n n T), some (.int n), none, none, none, none, none, none, none, none, none, none] ⟨_, _, _, _, _, _, _, _, _, _, rfl⟩
  rw [due_eq]
  unfold r__law_due
  simp only [t__law_due_2]
  generalize hw : (due3 T n).or (due4 T n) = w at *
  generalize l__law_due_2 = la at *
  simp only [t__law_due_8, t__law_due_19]
  generalize l__law_due_8 = lb at *
  generalize tabD n n T = tab at *
  have as : mSeq la (mSeq lb (mRet (mC .non))) [some tab, some (.int n), none, none, none, none, none, none, none, none, none, none] s = .rt (w.getD .non) s := by
    rw [mSeq_assoc, mSeq]
    cases w with
    | some v => rw [lk.1 v rfl]; rfl
    | none =>
      obtain ⟨l', e, _⟩ := lk.2 rfl
      rw [e]; rfl
  generalize mSeq la (mSeq lb (mRet (mC .non))) = rest at *
  repeat (first | walk_at "sem1" | simp only [t2, as])
theorem bag_ok {ns : List Int} (h63 : ns.length ≤ 63) (k : Nat) (hk : k ≤ 63) (s : Sto) : ∃ a b c : Int, r__law_bag [.scr ns, .int k] s = .ok (.ref s.length) (s ++ [.lst [.int a, .int b, .int c]]) ∧ c.natAbs < 2 ^ 64 := by
  have hl : lenF [.scr ns] s = .ok (.int ns.length) s := by
    show R.ok (D.int ((ns.map D.int).length : Int)) s = _
    rw [List.length_map]
  have hc : ((k : Nat) : Int).natAbs < 2 ^ 64 := by
    have : (63 : Nat) < 2 ^ 64 := by decide
    omega
  have hp : powD (.int 10) (.int 18) s = .ok (.int 1000000000000000000) s := by
    have : powOk 10 18 = true := by decide
    simp only [powD, this, if_true]
    congr 2
  unfold r__law_bag
  by_cases h : k < ns.length
  · have e1 : decide (((k : Nat) : Int) < (ns.length : Int)) = true := decide_eq_true (by omega)
    have hx : ixD (.scr ns) (.int k) s = .ok (.int (ns[k]'h)) s := by
      have : (ns.map D.int)[k]? = some (.int (ns[k]'h)) := by rw [List.getElem?_map, List.getElem?_eq_getElem h]; rfl
      simp only [ixD, rdS, atI_of this]
    by_cases hb : (1000000000000000000 : Int) ≤ ns[k]'h
    · have e2 : decide ((1000000000000000000 : Int) ≤ ns[k]'h) = true := decide_eq_true hb
      refine ⟨ns[k]'h, ns[k]'h, (k : Nat), ?_, hc⟩
      repeat (first | walk_at "sem1" | simp only [hl, e1, hx, hp, e2, ge_iff_le, mNew])
    · have e2 : decide ((1000000000000000000 : Int) ≤ ns[k]'h) = false := decide_eq_false hb
      refine ⟨0, ns[k]'h, (k : Nat), ?_, hc⟩
      repeat (first | walk_at "sem1" | simp only [hl, e1, hx, hp, e2, ge_iff_le, mNew])
  · have e1 : decide (((k : Nat) : Int) < (ns.length : Int)) = false := decide_eq_false (by omega)
    have e2 : decide ((1000000000000000000 : Int) ≤ 0) = false := by decide
    refine ⟨0, 0, (k : Nat), ?_, hc⟩
    repeat (first | walk_at "sem1" | simp only [hl, e1, hp, e2, ge_iff_le, mNew])
theorem told_bad {odd : D} {s : Sto} (h : r_is_table [odd] s = .ok (.bl false) s) (x : String) (hx : x = "fault" ∨ x = "four_points") : r__law_told [.fn x, odd] s = .ok (.str "value") s := by
  have lt : r_look_at_table [odd] s = .ex ⟨"BadValue", none⟩ s := by
    unfold r_look_at_table
    repeat (first | walk_at "sem1" | simp only [h])
  have ft : r_fault [odd] s = .ex ⟨"BadValue", none⟩ s := by
    unfold r_fault
    repeat (first | walk_at "sem1" | simp only [lt])
  have fp : r_four_points [odd] s = .ex ⟨"BadValue", none⟩ s := by
    unfold r_four_points
    repeat (first | walk_at "sem1" | simp only [ft])
  have k1 : ([("fault", 1, r_fault), ("four_points", 1, r_four_points)] : List (String × Nat × MF)).lookup "fault" = some (1, r_fault) := rfl
  have k2 : ([("fault", 1, r_fault), ("four_points", 1, r_four_points)] : List (String × Nat × MF)).lookup "four_points" = some (1, r_four_points) := rfl
  have k3 : ∀ m : MS, ([("BadValue", m)] : List (String × MS)).lookup "BadValue" = some m := fun m => rfl
  unfold r__law_told
  rcases hx with rfl | rfl
  · repeat (first | walk_at "sem1" | simp only [mTry, mCallV, k1, ft, k3, noExO, eq_self])
  · repeat (first | walk_at "sem1" | simp only [mTry, mCallV, k2, fp, k3, noExO, eq_self])
theorem bad_non (s : Sto) : r_is_table [.non] s = .ok (.bl false) s := by
  unfold r_is_table
  repeat (first | walk_at "sem1" | simp only [isi_non])
theorem bad_lst (xs : List D) (s : Sto) : r_is_table [.lst xs] s = .ok (.bl false) s := by
  unfold r_is_table
  repeat (first | walk_at "sem1" | simp only [isi_lst])
theorem bad_one (d : D) (s : Sto) : r_is_table [.tup [d]] s = .ok (.bl false) s := by
  have e1 : decide ((2 : Int) ≤ 1) = false := by decide
  have e2 : lenF [.tup [d]] s = .ok (.int 1) s := rfl
  unfold r_is_table
  repeat (first | walk_at "sem1" | simp only [isi_tup, e1, e2])
theorem bad_cut {n : Nat} {T : Nat → Nat → Rat} (s : Sto) (h2 : 2 ≤ n) (h7 : n ≤ 7) : r_is_table [.tup ((List.range (n - 1)).map fun i => .tup (rowD n (T i)))] s = .ok (.bl false) s := by
  have hl : lenF [.tup ((List.range (n - 1)).map fun i => .tup (rowD n (T i)))] s = .ok (.int ((n - 1 : Nat) : Int)) s := by rw [lenF_tup]; simp
  have c2 : decide (((n - 1 : Nat) : Int) ≤ 16) = true := decide_eq_true (by omega)
  by_cases h : n = 2
  · subst h
    exact bad_one _ s
  · have c1 : decide ((2 : Int) ≤ ((n - 1 : Nat) : Int)) = true := decide_eq_true (by omega)
    have c3 : (!(((n : Nat) : Int) == ((n - 1 : Nat) : Int))) = true := by
      have : ¬ (((n : Nat) : Int) = ((n - 1 : Nat) : Int)) := by omega
      simp [this]
    obtain ⟨m, rfl⟩ : ∃ m, n = m + 2 := ⟨n - 2, by omega⟩
    have hr : (List.range (m + 2 - 1)).map (fun i => D.tup (rowD (m + 2) (T i))) = .tup (rowD (m + 2) (T 0)) :: (List.range m).map fun i => .tup (rowD (m + 2) (T (i + 1))) := by
      rw [show m + 2 - 1 = m + 1 from rfl, List.range_succ_eq_map, List.map_cons, List.map_map]; rfl
    have c4 : (!(((m + 2 : Nat) : Int) == ((m + 1 : Nat) : Int))) = true := c3
    have lr : lenF [.tup (rowD (m + 2) (T 0))] s = .ok (.int ((m + 2 : Nat) : Int)) s := by rw [lenF_tup, rowD_len]
    rw [hr] at hl ⊢
    have hf : forL (mgName 2) b_is_table_4 (.tup (rowD (m + 2) (T 0)) :: (List.range m).map fun i => .tup (rowD (m + 2) (T (i + 1)))) [some (.tup (.tup (rowD (m + 2) (T 0)) :: (List.range m).map fun i => .tup (rowD (m + 2) (T (i + 1))))), some (.int ((m + 2 - 1 : Nat) : Int)), none, none, none, none] s = .rt (.bl false) s := by
      generalize (List.range m).map (fun i => D.tup (rowD (m + 2) (T (i + 1)))) = rest
      unfold b_is_table_4
      repeat (first | walk_at "sem1" | simp only [forL, isi_tup, lr, c4])
    have lf : l_is_table_4 [some (.tup (.tup (rowD (m + 2) (T 0)) :: (List.range m).map fun i => .tup (rowD (m + 2) (T (i + 1))))), some (.int ((m + 2 - 1 : Nat) : Int)), none, none, none, none] s = .rt (.bl false) s := by
      unfold l_is_table_4
      rw [for_ok (iter_ok rfl rfl), hf]
    unfold r_is_table
    simp only [t_is_table_3, t_is_table_4]
    generalize ((m + 2 - 1 : Nat) : Int) = n1 at *
    generalize (D.tup (rowD (m + 2) (T 0)) :: (List.range m).map fun i => D.tup (rowD (m + 2) (T (i + 1)))) = xs at *
    repeat (first | walk_at "sem1" | simp only [isi_tup, hl, c1, c2, lf])
theorem bad_two (s : Sto) : r_is_table [.tup [.tup [.tup [.int 0, .int 1], .tup [.int 1, .int 2]], .tup [.tup [.int 1, .int 3], .tup [.int 0, .int 1]]]] s = .ok (.bl false) s := by
  have u1 : ∀ q : Int, 0 < q → (.tup [.int 1, .int q] : D) = fr (Rat.divInt 1 q) := fun q hq => by
    have h1 := divInt_num (p := 1) (q := q) hq
    have h2 := divInt_den (p := 1) (q := q) hq
    simp only [Int.one_gcd, Int.natCast_one, Int.fdiv_one] at h1 h2
    unfold fr
    rw [h1, h2]
  have e : (.tup [.tup [.tup [.int 0, .int 1], .tup [.int 1, .int 2]], .tup [.tup [.int 1, .int 3], .tup [.int 0, .int 1]]] : D) = tabD 2 2 (fun i j => if i = j then 0 else if i < j then Rat.divInt 1 2 else Rat.divInt 1 3) := by
    rw [u1 2 (by decide), u1 3 (by decide), fr_zero]
    simp [tabD, rowD, List.range_succ]
  rw [e, istable_ok s (by decide) (by decide)]
  rfl
theorem plN_due (T : Nat → Nat → Rat) (n : Nat) : plN 2 (due T n) = true := by
  rw [due_eq]
  have h3 : ∀ v, due3 T n = some v → plN 2 v = true := fun v h => by
    obtain ⟨i, _, h⟩ := List.exists_of_findSome?_eq_some h
    obtain ⟨j, _, h⟩ := List.exists_of_findSome?_eq_some h
    obtain ⟨k, _, h⟩ := List.exists_of_findSome?_eq_some h
    unfold d3 at h
    split at h <;> cases h
    rfl
  have h4 : ∀ v, due4 T n = some v → plN 2 v = true := fun v h => by
    obtain ⟨i, _, h⟩ := List.exists_of_findSome?_eq_some h
    obtain ⟨j, _, h⟩ := List.exists_of_findSome?_eq_some h
    obtain ⟨k, _, h⟩ := List.exists_of_findSome?_eq_some h
    obtain ⟨k, _, h⟩ := List.exists_of_findSome?_eq_some h
    unfold d4 at h
    split at h <;> cases h
    rfl
  cases e3 : due3 T n with
  | some v => exact h3 v e3
  | none =>
    cases e4 : due4 T n with
    | some v => exact h4 v e4
    | none => rfl
theorem isN_due (T : Nat → Nat → Rat) (n : Nat) (s : Sto) : ∃ b, isND (due T n) .non s = .ok (.bl b) s := by
  have := plN_due T n
  cases h : due T n <;> first | exact ⟨_, rfl⟩ | (rw [h] at this; cases this)
theorem neD_bl (b : Bool) (s : Sto) : neD (.bl b) (.bl b) s = .ok (.bl false) s := by
  cases b <;> rfl
theorem neD_value (s : Sto) : neD (.str "value") (.str "value") s = .ok (.bl false) s := by
  have h1 : (Str.ofString "value").length ≤ 100000 := by decide
  have h2 : SeqAt.shaped (.str (Str.ofString "value")) = true := by
    simp only [SeqAt.shaped, PyData.canLay0, PyData.depth]
    decide +kernel
  simp only [neD, eqB, toPyR, toPy, h1, if_true, h2, and_self]
  simp [PyData.eqv]
theorem main : ∀ ns : List Int, ns.length ≤ 63 → r_law [.scr ns] [] = .ok (.bl true) [] := by
  intro ns h63
  have hl : ∀ s, lenF [.scr ns] s = .ok (.int ns.length) s := fun s => by
    show R.ok (D.int ((ns.map D.int).length : Int)) s = _
    rw [List.length_map]
  obtain ⟨cells, hcells, hc5⟩ : ∃ c : Nat, (if (5 : Int) < (if (1 : Int) > (ns.length : Int) then 1 else (ns.length : Int)) then 5 else (if (1 : Int) > (ns.length : Int) then 1 else (ns.length : Int))) = (c : Int) ∧ c ≤ 5 := by
    refine ⟨(if (5 : Int) < (if (1 : Int) > (ns.length : Int) then 1 else (ns.length : Int)) then 5 else (if (1 : Int) > (ns.length : Int) then 1 else (ns.length : Int))).toNat, ?_, ?_⟩ <;> split <;> split <;> omega
  obtain ⟨l', s', e, x1, x2, x3, x4, rfl, hp⟩ := forL_inv (mg := mgName 1) (mb := b_law_1) (ds := rangeD 0 cells)
    (fun _ l s => ∃ x1 x2 x3 x4, l = [some (.scr ns), x1, x2, x3, x4] ∧ plS s)
    (fun k d l s hd ⟨x1, x2, x3, x4, el, hp⟩ => by
      subst el
      obtain ⟨hk, rfl⟩ := rangeD_get hd
      rw [Int.zero_add]
      obtain ⟨a, b, c, e1, hc⟩ := bag_ok h63 k (by omega) s
      have hB : BagAt (s ++ [.lst [.int a, .int b, .int c]]) s.length := ⟨a, b, c, by rw [List.getElem?_append_right (Nat.le_refl _), Nat.sub_self]; rfl, hc⟩
      have hp1 : plS (s ++ [.lst [.int a, .int b, .int c]]) := fun o ho => by
        rcases List.mem_append.mp ho with h | h
        · exact hp o h
        · rw [List.mem_singleton] at h
          exact ⟨_, h, rfl⟩
      obtain ⟨n, T, s2, e2, hD, h2, h7, hT⟩ := table_ok hB hp1
      have e3 := due_ok s2 h7 hT
      have e4 := fault_ok s2 h2 h7 hT
      have e5 : neD (due T n) (due T n) s2 = .ok (.bl false) s2 := by
        rw [neD_pl 2 (plN_due T n) (plN_due T n) (by decide)]
        simp
      obtain ⟨b0, e6⟩ := isN_due T n s2
      have e7 : r_four_points [tabD n n T] s2 = .ok (.bl b0) s2 := by
        unfold r_four_points
        generalize tabD n n T = tab at *
        generalize due T n = du at *
        repeat (first | walk_at "sem1" | simp only [e4, e6])
      have e8 := neD_bl b0 s2
      refine ⟨_, _, rfl, [some (.scr ns), some (.int (k : Nat)), some (tabD n n T), some (due T n), some (.tup [.tup [.tup [.int 0, .int 1]]])], s2, ?_, ⟨_, _, _, _, rfl, hD.plS hp1⟩⟩
      -- what is no table
      have hcut : slD (tabD n n T) none (some (-1)) s2 = .ok (.tup ((List.range (n - 1)).map fun i => .tup (rowD n (T i)))) s2 := by
        have : DL.cutD ((List.range n).map fun i => D.tup (rowD n (T i))) none (some (-1)) = (List.range (n - 1)).map fun i => D.tup (rowD n (T i)) := by
          have e : ∀ m : Nat, HT.sIx m m (some (-1)) = m - 1 := fun m => by
            unfold HT.sIx
            simp only
            rw [if_pos (by decide)]
            omega
          unfold DL.cutD
          rw [HT.sIx_none, List.drop_zero, Nat.sub_zero, e, ← List.map_take, List.length_map, List.length_range, List.take_range]
          congr 2
          omega
        simp only [slD, tabD, this]
      have hlst : listF [tabD n n T] s2 = .ok (.lst ((List.range n).map fun i => .tup (rowD n (T i)))) s2 := rfl
      have hb1 := bad_non s2
      have hb2 := bad_cut (T := T) s2 h2 h7
      have hb3 := bad_lst ((List.range n).map fun i => .tup (rowD n (T i))) s2
      have hb4 := bad_two s2
      have hb5 := bad_one (.tup [.tup [.int 0, .int 1]]) s2
      have turn : ∀ (odd : D) (x4 : Option D), r_is_table [odd] s2 = .ok (.bl false) s2 → b_law_6 [some (.scr ns), some (.int (k : Nat)), some (tabD n n T), some (due T n), some odd] s2 = .nx [some (.scr ns), some (.int (k : Nat)), some (tabD n n T), some (due T n), some odd] s2 := fun odd x4 h => by
        have t1 := told_bad h "fault" (.inl rfl)
        have t2 := told_bad h "four_points" (.inr rfl)
        unfold b_law_6
        generalize tabD n n T = tab
        generalize due T n = du
        repeat (first | walk_at "sem1" | simp only [t1, t2, neD_value])
      have hloop : l_law_6 [some (.scr ns), some (.int (k : Nat)), some (tabD n n T), some (due T n), x4] s2 = .nx [some (.scr ns), some (.int (k : Nat)), some (tabD n n T), some (due T n), some (.tup [.tup [.tup [.int 0, .int 1]]])] s2 := by
        have hi : (mIter (mLst (mCons (mC .non) (mCons (mSl slD (mVar 2) mNoPart (mPart (mUn negD (mC (.int 1))))) (mCons (mCB listF (mCons (mVar 2) mNil)) (mCons (mTup (mCons (mTup (mCons (mTup (mCons (mC (.int 0)) (mCons (mC (.int 1)) mNil))) (mCons (mTup (mCons (mC (.int 1)) (mCons (mC (.int 2)) mNil))) mNil))) (mCons (mTup (mCons (mTup (mCons (mC (.int 1)) (mCons (mC (.int 3)) mNil))) (mCons (mTup (mCons (mC (.int 0)) (mCons (mC (.int 1)) mNil))) mNil))) mNil))) (mCons (mTup (mCons (mTup (mCons (mTup (mCons (mC (.int 0)) (mCons (mC (.int 1)) mNil))) mNil)) mNil)) mNil))))))) [some (.scr ns), some (.int (k : Nat)), some (tabD n n T), some (due T n), x4] s2 = .ok [.non, .tup ((List.range (n - 1)).map fun i => .tup (rowD n (T i))), .lst ((List.range n).map fun i => .tup (rowD n (T i))), .tup [.tup [.tup [.int 0, .int 1], .tup [.int 1, .int 2]], .tup [.tup [.int 1, .int 3], .tup [.int 0, .int 1]]], .tup [.tup [.tup [.int 0, .int 1]]]] s2 := by
          have m1 : (-(1 : Int)) = -1 := rfl
          have w2 : (2 : Nat) ≤ 100000 := by decide
          have w1 : (1 : Nat) ≤ 100000 := by decide
          have w5 : (5 : Nat) ≤ 100000 := by decide
          generalize tabD n n T = tab at *
          generalize (List.range (n - 1)).map (fun i => D.tup (rowD n (T i))) = xs1 at *
          generalize (List.range n).map (fun i => D.tup (rowD n (T i))) = xs2 at *
          repeat (first | walk_at "sem1" | simp only [mIter, m1, hcut, hlst, w1, w2, w5, stands])
        unfold l_law_6
        rw [for_ok hi]
        have t1 := turn _ none hb1
        have t2 := turn _ none hb2
        have t3 := turn _ none hb3
        have t4 := turn _ none hb4
        have t5 := turn _ none hb5
        generalize tabD n n T = tab at *
        generalize (List.range (n - 1)).map (fun i => D.tup (rowD n (T i))) = xs1 at *
        generalize (List.range n).map (fun i => D.tup (rowD n (T i))) = xs2 at *
        generalize due T n = du at *
        repeat (first | walk_at "sem1" | simp only [forL, t1, t2, t3, t4, t5])
      simp only [b_law_1, t_law_3, t_law_4]
      generalize tabD n n T = tab at *
      generalize due T n = du at *
      generalize l_law_6 = lp at *
      repeat (first | walk_at "sem1" | simp only [e1, e2, e3, e4, e5, e6, e7, e8, hloop]))
    (l := [some (.scr ns), none, none, none, none]) (s := []) ⟨_, _, _, _, rfl, fun o ho => by cases ho⟩
  have hL : l_law_1 [some (.scr ns), none, none, none, none] [] = .nx [some (.scr ns), x1, x2, x3, x4] s' := by
    unfold l_law_1
    rw [for_ok (rng1_ok (n := cells) (s1 := []) (by
      rw [← hcells]
      repeat (first | walk_at "sem1" | simp only [hl])) (by omega)), e]
  unfold r_law
  simp only [t_law_9]
  generalize l_law_1 = lp at *
  have hb := backF_pl' (n := 0) (base := []) (t := s') (d := .bl true) rfl (fun o ho => by cases ho)
  simp only [mDef, List.length_cons, List.length_nil, Nat.reduceAdd, if_true, List.map_cons, List.map_nil, Nat.reduceSub, List.replicate_succ, List.replicate_zero, List.cons_append, List.nil_append]
  rw [mSeq, hL]
  simp only [mRet, mC, outR]
  unfold backF
  by_cases hz : s'.length = 0
  · have : s' = [] := List.eq_nil_of_length_eq_zero hz
    subst this
    rfl
  · simp only [List.length_nil, if_neg hz]
    rfl
end K68


namespace K68
open PySem PySem.Spec PyProof.Rows L2 DL
theorem top_mk {K : PySem.W.Frag} {h : Heap} {mg : Str → Option Value} (X : K.In h) (Gn : h.Ns mainGlobals mg)
    {fa0 : Addr} {od0 an0 : Option Addr} {sl0 : Array (Option Value)} {oc0 kV0 dc0 pm0 cd0 ct0 : Value}
    (a0 : PySem.W.nsIn K mainGlobals "_law_draw" = some (some (.ref fa0))) (l0 : K.lookup fa0 = some ⟨oc0, od0, .func (PySem.W.fnOf "_law_draw" "_law_draw" (defArgs s__law_draw) (defBody s__law_draw) (defScope s__law_draw) .none kV0 dc0 pm0 an0 cd0 ct0), sl0⟩) (c0 : PySem.W.codeIn K cd0 "_law_draw" = true) (k0 : PySem.W.keepIn K (.ref fa0) = true)
    {fa1 : Addr} {od1 an1 : Option Addr} {sl1 : Array (Option Value)} {oc1 kV1 dc1 pm1 cd1 ct1 : Value}
    (a1 : PySem.W.nsIn K mainGlobals "_law_fr" = some (some (.ref fa1))) (l1 : K.lookup fa1 = some ⟨oc1, od1, .func (PySem.W.fnOf "_law_fr" "_law_fr" (defArgs s__law_fr) (defBody s__law_fr) (defScope s__law_fr) .none kV1 dc1 pm1 an1 cd1 ct1), sl1⟩) (c1 : PySem.W.codeIn K cd1 "_law_fr" = true) (k1 : PySem.W.keepIn K (.ref fa1) = true)
    {fa2 : Addr} {od2 an2 : Option Addr} {sl2 : Array (Option Value)} {oc2 kV2 dc2 pm2 cd2 ct2 : Value}
    (a2 : PySem.W.nsIn K mainGlobals "_law_add" = some (some (.ref fa2))) (l2 : K.lookup fa2 = some ⟨oc2, od2, .func (PySem.W.fnOf "_law_add" "_law_add" (defArgs s__law_add) (defBody s__law_add) (defScope s__law_add) .none kV2 dc2 pm2 an2 cd2 ct2), sl2⟩) (c2 : PySem.W.codeIn K cd2 "_law_add" = true) (k2 : PySem.W.keepIn K (.ref fa2) = true)
    {fa3 : Addr} {od3 an3 : Option Addr} {sl3 : Array (Option Value)} {oc3 kV3 dc3 pm3 cd3 ct3 : Value}
    (a3 : PySem.W.nsIn K mainGlobals "_law_table" = some (some (.ref fa3))) (l3 : K.lookup fa3 = some ⟨oc3, od3, .func (PySem.W.fnOf "_law_table" "_law_table" (defArgs s__law_table) (defBody s__law_table) (defScope s__law_table) .none kV3 dc3 pm3 an3 cd3 ct3), sl3⟩) (c3 : PySem.W.codeIn K cd3 "_law_table" = true) (k3 : PySem.W.keepIn K (.ref fa3) = true)
    {fa4 : Addr} {od4 an4 : Option Addr} {sl4 : Array (Option Value)} {oc4 kV4 dc4 pm4 cd4 ct4 : Value}
    (a4 : PySem.W.nsIn K mainGlobals "_law_is_less" = some (some (.ref fa4))) (l4 : K.lookup fa4 = some ⟨oc4, od4, .func (PySem.W.fnOf "_law_is_less" "_law_is_less" (defArgs s__law_is_less) (defBody s__law_is_less) (defScope s__law_is_less) .none kV4 dc4 pm4 an4 cd4 ct4), sl4⟩) (c4 : PySem.W.codeIn K cd4 "_law_is_less" = true) (k4 : PySem.W.keepIn K (.ref fa4) = true)
    {fa5 : Addr} {od5 an5 : Option Addr} {sl5 : Array (Option Value)} {oc5 kV5 dc5 pm5 cd5 ct5 : Value}
    (a5 : PySem.W.nsIn K mainGlobals "_law_due" = some (some (.ref fa5))) (l5 : K.lookup fa5 = some ⟨oc5, od5, .func (PySem.W.fnOf "_law_due" "_law_due" (defArgs s__law_due) (defBody s__law_due) (defScope s__law_due) .none kV5 dc5 pm5 an5 cd5 ct5), sl5⟩) (c5 : PySem.W.codeIn K cd5 "_law_due" = true) (k5 : PySem.W.keepIn K (.ref fa5) = true)
    {fa6 : Addr} {od6 an6 : Option Addr} {sl6 : Array (Option Value)} {oc6 kV6 dc6 pm6 cd6 ct6 : Value}
    (a6 : PySem.W.nsIn K mainGlobals "_law_bag" = some (some (.ref fa6))) (l6 : K.lookup fa6 = some ⟨oc6, od6, .func (PySem.W.fnOf "_law_bag" "_law_bag" (defArgs s__law_bag) (defBody s__law_bag) (defScope s__law_bag) .none kV6 dc6 pm6 an6 cd6 ct6), sl6⟩) (c6 : PySem.W.codeIn K cd6 "_law_bag" = true) (k6 : PySem.W.keepIn K (.ref fa6) = true)
    {fa7 : Addr} {od7 an7 : Option Addr} {sl7 : Array (Option Value)} {oc7 kV7 dc7 pm7 cd7 ct7 : Value}
    (a7 : PySem.W.nsIn K mainGlobals "is_number" = some (some (.ref fa7))) (l7 : K.lookup fa7 = some ⟨oc7, od7, .func (PySem.W.fnOf "is_number" "is_number" (defArgs s_is_number) (defBody s_is_number) (defScope s_is_number) .none kV7 dc7 pm7 an7 cd7 ct7), sl7⟩) (c7 : PySem.W.codeIn K cd7 "is_number" = true) (k7 : PySem.W.keepIn K (.ref fa7) = true)
    {fa8 : Addr} {od8 an8 : Option Addr} {sl8 : Array (Option Value)} {oc8 kV8 dc8 pm8 cd8 ct8 : Value}
    (a8 : PySem.W.nsIn K mainGlobals "sign" = some (some (.ref fa8))) (l8 : K.lookup fa8 = some ⟨oc8, od8, .func (PySem.W.fnOf "sign" "sign" (defArgs s_sign) (defBody s_sign) (defScope s_sign) .none kV8 dc8 pm8 an8 cd8 ct8), sl8⟩) (c8 : PySem.W.codeIn K cd8 "sign" = true) (k8 : PySem.W.keepIn K (.ref fa8) = true)
    {fa9 : Addr} {od9 an9 : Option Addr} {sl9 : Array (Option Value)} {oc9 kV9 dc9 pm9 cd9 ct9 : Value}
    (a9 : PySem.W.nsIn K mainGlobals "is_table" = some (some (.ref fa9))) (l9 : K.lookup fa9 = some ⟨oc9, od9, .func (PySem.W.fnOf "is_table" "is_table" (defArgs s_is_table) (defBody s_is_table) (defScope s_is_table) .none kV9 dc9 pm9 an9 cd9 ct9), sl9⟩) (c9 : PySem.W.codeIn K cd9 "is_table" = true) (k9 : PySem.W.keepIn K (.ref fa9) = true)
    {fa10 : Addr} {od10 an10 : Option Addr} {sl10 : Array (Option Value)} {oc10 kV10 dc10 pm10 cd10 ct10 : Value}
    (a10 : PySem.W.nsIn K mainGlobals "look_at_table" = some (some (.ref fa10))) (l10 : K.lookup fa10 = some ⟨oc10, od10, .func (PySem.W.fnOf "look_at_table" "look_at_table" (defArgs s_look_at_table) (defBody s_look_at_table) (defScope s_look_at_table) .none kV10 dc10 pm10 an10 cd10 ct10), sl10⟩) (c10 : PySem.W.codeIn K cd10 "look_at_table" = true) (k10 : PySem.W.keepIn K (.ref fa10) = true)
    {fa11 : Addr} {od11 an11 : Option Addr} {sl11 : Array (Option Value)} {oc11 kV11 dc11 pm11 cd11 ct11 : Value}
    (a11 : PySem.W.nsIn K mainGlobals "less" = some (some (.ref fa11))) (l11 : K.lookup fa11 = some ⟨oc11, od11, .func (PySem.W.fnOf "less" "less" (defArgs s_less) (defBody s_less) (defScope s_less) .none kV11 dc11 pm11 an11 cd11 ct11), sl11⟩) (c11 : PySem.W.codeIn K cd11 "less" = true) (k11 : PySem.W.keepIn K (.ref fa11) = true)
    {fa12 : Addr} {od12 an12 : Option Addr} {sl12 : Array (Option Value)} {oc12 kV12 dc12 pm12 cd12 ct12 : Value}
    (a12 : PySem.W.nsIn K mainGlobals "common" = some (some (.ref fa12))) (l12 : K.lookup fa12 = some ⟨oc12, od12, .func (PySem.W.fnOf "common" "common" (defArgs s_common) (defBody s_common) (defScope s_common) .none kV12 dc12 pm12 an12 cd12 ct12), sl12⟩) (c12 : PySem.W.codeIn K cd12 "common" = true) (k12 : PySem.W.keepIn K (.ref fa12) = true)
    {fa13 : Addr} {od13 an13 : Option Addr} {sl13 : Array (Option Value)} {oc13 kV13 dc13 pm13 cd13 ct13 : Value}
    (a13 : PySem.W.nsIn K mainGlobals "fraction" = some (some (.ref fa13))) (l13 : K.lookup fa13 = some ⟨oc13, od13, .func (PySem.W.fnOf "fraction" "fraction" (defArgs s_fraction) (defBody s_fraction) (defScope s_fraction) .none kV13 dc13 pm13 an13 cd13 ct13), sl13⟩) (c13 : PySem.W.codeIn K cd13 "fraction" = true) (k13 : PySem.W.keepIn K (.ref fa13) = true)
    {fa14 : Addr} {od14 an14 : Option Addr} {sl14 : Array (Option Value)} {oc14 kV14 dc14 pm14 cd14 ct14 : Value}
    (a14 : PySem.W.nsIn K mainGlobals "plus" = some (some (.ref fa14))) (l14 : K.lookup fa14 = some ⟨oc14, od14, .func (PySem.W.fnOf "plus" "plus" (defArgs s_plus) (defBody s_plus) (defScope s_plus) .none kV14 dc14 pm14 an14 cd14 ct14), sl14⟩) (c14 : PySem.W.codeIn K cd14 "plus" = true) (k14 : PySem.W.keepIn K (.ref fa14) = true)
    {fa15 : Addr} {od15 an15 : Option Addr} {sl15 : Array (Option Value)} {oc15 kV15 dc15 pm15 cd15 ct15 : Value}
    (a15 : PySem.W.nsIn K mainGlobals "is_far" = some (some (.ref fa15))) (l15 : K.lookup fa15 = some ⟨oc15, od15, .func (PySem.W.fnOf "is_far" "is_far" (defArgs s_is_far) (defBody s_is_far) (defScope s_is_far) .none kV15 dc15 pm15 an15 cd15 ct15), sl15⟩) (c15 : PySem.W.codeIn K cd15 "is_far" = true) (k15 : PySem.W.keepIn K (.ref fa15) = true)
    {fa16 : Addr} {od16 an16 : Option Addr} {sl16 : Array (Option Value)} {oc16 kV16 dc16 pm16 cd16 ct16 : Value}
    (a16 : PySem.W.nsIn K mainGlobals "are_four" = some (some (.ref fa16))) (l16 : K.lookup fa16 = some ⟨oc16, od16, .func (PySem.W.fnOf "are_four" "are_four" (defArgs s_are_four) (defBody s_are_four) (defScope s_are_four) .none kV16 dc16 pm16 an16 cd16 ct16), sl16⟩) (c16 : PySem.W.codeIn K cd16 "are_four" = true) (k16 : PySem.W.keepIn K (.ref fa16) = true)
    {fa17 : Addr} {od17 an17 : Option Addr} {sl17 : Array (Option Value)} {oc17 kV17 dc17 pm17 cd17 ct17 : Value}
    (a17 : PySem.W.nsIn K mainGlobals "fault" = some (some (.ref fa17))) (l17 : K.lookup fa17 = some ⟨oc17, od17, .func (PySem.W.fnOf "fault" "fault" (defArgs s_fault) (defBody s_fault) (defScope s_fault) .none kV17 dc17 pm17 an17 cd17 ct17), sl17⟩) (c17 : PySem.W.codeIn K cd17 "fault" = true) (k17 : PySem.W.keepIn K (.ref fa17) = true)
    {fa18 : Addr} {od18 an18 : Option Addr} {sl18 : Array (Option Value)} {oc18 kV18 dc18 pm18 cd18 ct18 : Value}
    (a18 : PySem.W.nsIn K mainGlobals "four_points" = some (some (.ref fa18))) (l18 : K.lookup fa18 = some ⟨oc18, od18, .func (PySem.W.fnOf "four_points" "four_points" (defArgs s_four_points) (defBody s_four_points) (defScope s_four_points) .none kV18 dc18 pm18 an18 cd18 ct18), sl18⟩) (c18 : PySem.W.codeIn K cd18 "four_points" = true) (k18 : PySem.W.keepIn K (.ref fa18) = true)
    {fa19 : Addr} {od19 an19 : Option Addr} {sl19 : Array (Option Value)} {oc19 kV19 dc19 pm19 cd19 ct19 : Value}
    (a19 : PySem.W.nsIn K mainGlobals "_law_told" = some (some (.ref fa19))) (l19 : K.lookup fa19 = some ⟨oc19, od19, .func (PySem.W.fnOf "_law_told" "_law_told" (defArgs s__law_told) (defBody s__law_told) (defScope s__law_told) .none kV19 dc19 pm19 an19 cd19 ct19), sl19⟩) (c19 : PySem.W.codeIn K cd19 "_law_told" = true) (k19 : PySem.W.keepIn K (.ref fa19) = true)
    {fa20 : Addr} {od20 an20 : Option Addr} {sl20 : Array (Option Value)} {oc20 kV20 dc20 pm20 cd20 ct20 : Value}
    (a20 : PySem.W.nsIn K mainGlobals "law" = some (some (.ref fa20))) (l20 : K.lookup fa20 = some ⟨oc20, od20, .func (PySem.W.fnOf "law" "law" (defArgs s_law) (defBody s_law) (defScope s_law) .none kV20 dc20 pm20 an20 cd20 ct20), sl20⟩) (c20 : PySem.W.codeIn K cd20 "law" = true) (k20 : PySem.W.keepIn K (.ref fa20) = true)
    {C0 : Addr} (ca0 : PySem.W.nsIn K mainGlobals "BadValue" = some (some (.ref C0))) (cx0 : PySem.W.excIn K C0 veL "ValueError.__new__" = true) (ck0 : PySem.W.keepIn K (.ref C0) = true) (cs0 : PySem.W.subIn K (.ref C0) (.type "BaseException") = some true) (ct1000 : PySem.W.typeIn K (.ref C0) = some (.type "type"))
    (ci0 : PySem.W.isClsIn K C0 = true)
    (e0_0 : PySem.W.subIn K (.ref C0) (.ref C0) = some true)
    {t0 : Tok} (ga0 : PySem.W.nsIn K mainGlobals "MOST_TABLE" = some (some (.int 16 t0)))
    {z1 : Addr} {t1_0 t1_1 : Tok} {zd1 : Option Addr} {zn1 : Nat} {zs1 : Array (Option Value)} (ga1 : PySem.W.nsIn K mainGlobals "ZERO" = some (some (.ref z1))) (gb1 : K.lookup z1 = some ⟨.type "tuple", zd1, .seq #[.int 0 t1_0, .int 1 t1_1] zn1, zs1⟩)
    (z5000 : PySem.W.nsIn K mainGlobals "abs" = some none)
    (z5001 : PySem.W.nsIn K mainGlobals "all" = some none)
    (z5002 : PySem.W.nsIn K mainGlobals "any" = some none)
    (z5003 : PySem.W.nsIn K mainGlobals "bool" = some none)
    (z5004 : PySem.W.nsIn K mainGlobals "int" = some none)
    (z5005 : PySem.W.nsIn K mainGlobals "isinstance" = some none)
    (z5006 : PySem.W.nsIn K mainGlobals "len" = some none)
    (z5007 : PySem.W.nsIn K mainGlobals "list" = some none)
    (z5008 : PySem.W.nsIn K mainGlobals "max" = some none)
    (z5009 : PySem.W.nsIn K mainGlobals "min" = some none)
    (z5010 : PySem.W.nsIn K mainGlobals "range" = some none)
    (z5011 : PySem.W.nsIn K mainGlobals "tuple" = some none)
    : Top K mg ⟨fun x => [("_law_draw", fa0), ("_law_fr", fa1), ("_law_add", fa2), ("_law_table", fa3), ("_law_is_less", fa4), ("_law_due", fa5), ("_law_bag", fa6), ("is_number", fa7), ("sign", fa8), ("is_table", fa9), ("look_at_table", fa10), ("less", fa11), ("common", fa12), ("fraction", fa13), ("plus", fa14), ("is_far", fa15), ("are_four", fa16), ("fault", fa17), ("four_points", fa18), ("_law_told", fa19), ("law", fa20)].lookup x, fun x => [("BadValue", C0)].lookup x, fun x => ([("MOST_TABLE", (.int 16 : V)), ("ZERO", (.ref z1 : V))].lookup x).getD .non, K⟩ := by
  refine ⟨⟨fa0, _, fun_mk l0 c0 k0, PySem.W.mg_of X Gn a0, rfl⟩, ⟨fa1, _, fun_mk l1 c1 k1, PySem.W.mg_of X Gn a1, rfl⟩, ⟨fa2, _, fun_mk l2 c2 k2, PySem.W.mg_of X Gn a2, rfl⟩, ⟨fa3, _, fun_mk l3 c3 k3, PySem.W.mg_of X Gn a3, rfl⟩, ⟨fa4, _, fun_mk l4 c4 k4, PySem.W.mg_of X Gn a4, rfl⟩, ⟨fa5, _, fun_mk l5 c5 k5, PySem.W.mg_of X Gn a5, rfl⟩, ⟨fa6, _, fun_mk l6 c6 k6, PySem.W.mg_of X Gn a6, rfl⟩, ⟨fa7, _, fun_mk l7 c7 k7, PySem.W.mg_of X Gn a7, rfl⟩, ⟨fa8, _, fun_mk l8 c8 k8, PySem.W.mg_of X Gn a8, rfl⟩, ⟨fa9, _, fun_mk l9 c9 k9, PySem.W.mg_of X Gn a9, rfl⟩, ⟨fa10, _, fun_mk l10 c10 k10, PySem.W.mg_of X Gn a10, rfl⟩, ⟨fa11, _, fun_mk l11 c11 k11, PySem.W.mg_of X Gn a11, rfl⟩, ⟨fa12, _, fun_mk l12 c12 k12, PySem.W.mg_of X Gn a12, rfl⟩, ⟨fa13, _, fun_mk l13 c13 k13, PySem.W.mg_of X Gn a13, rfl⟩, ⟨fa14, _, fun_mk l14 c14 k14, PySem.W.mg_of X Gn a14, rfl⟩, ⟨fa15, _, fun_mk l15 c15 k15, PySem.W.mg_of X Gn a15, rfl⟩, ⟨fa16, _, fun_mk l16 c16 k16, PySem.W.mg_of X Gn a16, rfl⟩, ⟨fa17, _, fun_mk l17 c17 k17, PySem.W.mg_of X Gn a17, rfl⟩, ⟨fa18, _, fun_mk l18 c18 k18, PySem.W.mg_of X Gn a18, rfl⟩, ⟨fa19, _, fun_mk l19 c19 k19, PySem.W.mg_of X Gn a19, rfl⟩, ⟨fa20, _, fun_mk l20 c20 k20, PySem.W.mg_of X Gn a20, rfl⟩, PySem.W.mg_none_of X Gn z5000, PySem.W.mg_none_of X Gn z5001, PySem.W.mg_none_of X Gn z5002, PySem.W.mg_none_of X Gn z5003, PySem.W.mg_none_of X Gn z5004, PySem.W.mg_none_of X Gn z5005, PySem.W.mg_none_of X Gn z5006, PySem.W.mg_none_of X Gn z5007, PySem.W.mg_none_of X Gn z5008, PySem.W.mg_none_of X Gn z5009, PySem.W.mg_none_of X Gn z5010, PySem.W.mg_none_of X Gn z5011, ⟨C0, rfl, PySem.W.mg_of X Gn ca0, cx0, ck0, cs0, ct1000⟩, ⟨⟨_, PySem.W.mg_of X Gn ga0, ⟨_, rfl⟩, fun H μ => .int _⟩⟩, ⟨⟨_, PySem.W.mg_of X Gn ga1, rfl, fun H μ => .tupK gb1 rfl rfl (by show 2 ≤ sizeLine; decide) (.cons (show RelV (V.int 0) _ from ⟨_, rfl⟩) (.cons (show RelV (V.int 1) _ from ⟨_, rfl⟩) (.nil))) (.cons (.int _) (.cons (.int _) (.nil)))⟩⟩, ?_⟩
  refine exm_mk (cs := [("BadValue", C0)]) ?_
  intro p hp q hq
  simp only [List.mem_cons, List.not_mem_nil, or_false] at hp hq
  rcases hp with rfl <;> rcases hq with rfl
  · exact (exm_of cs0 ci0 ct1000 e0_0).trans (by rfl)
theorem law_mk {l : PySem.W.OpenLaw} {w : World} {K : PySem.W.Frag} {h : Heap} {mg : Str → Option Value} {fa : Addr} (X : K.In h) (Gn : h.Ns mainGlobals mg) (hfa : mg "law" = some (.ref fa)) (hr : ∀ ns : List Int, ns.length ≤ 63 → r_law [.scr ns] [] = .ok (.bl true) [])
    {fa0 : Addr} {od0 an0 : Option Addr} {sl0 : Array (Option Value)} {oc0 kV0 dc0 pm0 cd0 ct0 : Value}
    (a0 : PySem.W.nsIn K mainGlobals "_law_draw" = some (some (.ref fa0))) (l0 : K.lookup fa0 = some ⟨oc0, od0, .func (PySem.W.fnOf "_law_draw" "_law_draw" (defArgs s__law_draw) (defBody s__law_draw) (defScope s__law_draw) .none kV0 dc0 pm0 an0 cd0 ct0), sl0⟩) (c0 : PySem.W.codeIn K cd0 "_law_draw" = true) (k0 : PySem.W.keepIn K (.ref fa0) = true)
    {fa1 : Addr} {od1 an1 : Option Addr} {sl1 : Array (Option Value)} {oc1 kV1 dc1 pm1 cd1 ct1 : Value}
    (a1 : PySem.W.nsIn K mainGlobals "_law_fr" = some (some (.ref fa1))) (l1 : K.lookup fa1 = some ⟨oc1, od1, .func (PySem.W.fnOf "_law_fr" "_law_fr" (defArgs s__law_fr) (defBody s__law_fr) (defScope s__law_fr) .none kV1 dc1 pm1 an1 cd1 ct1), sl1⟩) (c1 : PySem.W.codeIn K cd1 "_law_fr" = true) (k1 : PySem.W.keepIn K (.ref fa1) = true)
    {fa2 : Addr} {od2 an2 : Option Addr} {sl2 : Array (Option Value)} {oc2 kV2 dc2 pm2 cd2 ct2 : Value}
    (a2 : PySem.W.nsIn K mainGlobals "_law_add" = some (some (.ref fa2))) (l2 : K.lookup fa2 = some ⟨oc2, od2, .func (PySem.W.fnOf "_law_add" "_law_add" (defArgs s__law_add) (defBody s__law_add) (defScope s__law_add) .none kV2 dc2 pm2 an2 cd2 ct2), sl2⟩) (c2 : PySem.W.codeIn K cd2 "_law_add" = true) (k2 : PySem.W.keepIn K (.ref fa2) = true)
    {fa3 : Addr} {od3 an3 : Option Addr} {sl3 : Array (Option Value)} {oc3 kV3 dc3 pm3 cd3 ct3 : Value}
    (a3 : PySem.W.nsIn K mainGlobals "_law_table" = some (some (.ref fa3))) (l3 : K.lookup fa3 = some ⟨oc3, od3, .func (PySem.W.fnOf "_law_table" "_law_table" (defArgs s__law_table) (defBody s__law_table) (defScope s__law_table) .none kV3 dc3 pm3 an3 cd3 ct3), sl3⟩) (c3 : PySem.W.codeIn K cd3 "_law_table" = true) (k3 : PySem.W.keepIn K (.ref fa3) = true)
    {fa4 : Addr} {od4 an4 : Option Addr} {sl4 : Array (Option Value)} {oc4 kV4 dc4 pm4 cd4 ct4 : Value}
    (a4 : PySem.W.nsIn K mainGlobals "_law_is_less" = some (some (.ref fa4))) (l4 : K.lookup fa4 = some ⟨oc4, od4, .func (PySem.W.fnOf "_law_is_less" "_law_is_less" (defArgs s__law_is_less) (defBody s__law_is_less) (defScope s__law_is_less) .none kV4 dc4 pm4 an4 cd4 ct4), sl4⟩) (c4 : PySem.W.codeIn K cd4 "_law_is_less" = true) (k4 : PySem.W.keepIn K (.ref fa4) = true)
    {fa5 : Addr} {od5 an5 : Option Addr} {sl5 : Array (Option Value)} {oc5 kV5 dc5 pm5 cd5 ct5 : Value}
    (a5 : PySem.W.nsIn K mainGlobals "_law_due" = some (some (.ref fa5))) (l5 : K.lookup fa5 = some ⟨oc5, od5, .func (PySem.W.fnOf "_law_due" "_law_due" (defArgs s__law_due) (defBody s__law_due) (defScope s__law_due) .none kV5 dc5 pm5 an5 cd5 ct5), sl5⟩) (c5 : PySem.W.codeIn K cd5 "_law_due" = true) (k5 : PySem.W.keepIn K (.ref fa5) = true)
    {fa6 : Addr} {od6 an6 : Option Addr} {sl6 : Array (Option Value)} {oc6 kV6 dc6 pm6 cd6 ct6 : Value}
    (a6 : PySem.W.nsIn K mainGlobals "_law_bag" = some (some (.ref fa6))) (l6 : K.lookup fa6 = some ⟨oc6, od6, .func (PySem.W.fnOf "_law_bag" "_law_bag" (defArgs s__law_bag) (defBody s__law_bag) (defScope s__law_bag) .none kV6 dc6 pm6 an6 cd6 ct6), sl6⟩) (c6 : PySem.W.codeIn K cd6 "_law_bag" = true) (k6 : PySem.W.keepIn K (.ref fa6) = true)
    {fa7 : Addr} {od7 an7 : Option Addr} {sl7 : Array (Option Value)} {oc7 kV7 dc7 pm7 cd7 ct7 : Value}
    (a7 : PySem.W.nsIn K mainGlobals "is_number" = some (some (.ref fa7))) (l7 : K.lookup fa7 = some ⟨oc7, od7, .func (PySem.W.fnOf "is_number" "is_number" (defArgs s_is_number) (defBody s_is_number) (defScope s_is_number) .none kV7 dc7 pm7 an7 cd7 ct7), sl7⟩) (c7 : PySem.W.codeIn K cd7 "is_number" = true) (k7 : PySem.W.keepIn K (.ref fa7) = true)
    {fa8 : Addr} {od8 an8 : Option Addr} {sl8 : Array (Option Value)} {oc8 kV8 dc8 pm8 cd8 ct8 : Value}
    (a8 : PySem.W.nsIn K mainGlobals "sign" = some (some (.ref fa8))) (l8 : K.lookup fa8 = some ⟨oc8, od8, .func (PySem.W.fnOf "sign" "sign" (defArgs s_sign) (defBody s_sign) (defScope s_sign) .none kV8 dc8 pm8 an8 cd8 ct8), sl8⟩) (c8 : PySem.W.codeIn K cd8 "sign" = true) (k8 : PySem.W.keepIn K (.ref fa8) = true)
    {fa9 : Addr} {od9 an9 : Option Addr} {sl9 : Array (Option Value)} {oc9 kV9 dc9 pm9 cd9 ct9 : Value}
    (a9 : PySem.W.nsIn K mainGlobals "is_table" = some (some (.ref fa9))) (l9 : K.lookup fa9 = some ⟨oc9, od9, .func (PySem.W.fnOf "is_table" "is_table" (defArgs s_is_table) (defBody s_is_table) (defScope s_is_table) .none kV9 dc9 pm9 an9 cd9 ct9), sl9⟩) (c9 : PySem.W.codeIn K cd9 "is_table" = true) (k9 : PySem.W.keepIn K (.ref fa9) = true)
    {fa10 : Addr} {od10 an10 : Option Addr} {sl10 : Array (Option Value)} {oc10 kV10 dc10 pm10 cd10 ct10 : Value}
    (a10 : PySem.W.nsIn K mainGlobals "look_at_table" = some (some (.ref fa10))) (l10 : K.lookup fa10 = some ⟨oc10, od10, .func (PySem.W.fnOf "look_at_table" "look_at_table" (defArgs s_look_at_table) (defBody s_look_at_table) (defScope s_look_at_table) .none kV10 dc10 pm10 an10 cd10 ct10), sl10⟩) (c10 : PySem.W.codeIn K cd10 "look_at_table" = true) (k10 : PySem.W.keepIn K (.ref fa10) = true)
    {fa11 : Addr} {od11 an11 : Option Addr} {sl11 : Array (Option Value)} {oc11 kV11 dc11 pm11 cd11 ct11 : Value}
    (a11 : PySem.W.nsIn K mainGlobals "less" = some (some (.ref fa11))) (l11 : K.lookup fa11 = some ⟨oc11, od11, .func (PySem.W.fnOf "less" "less" (defArgs s_less) (defBody s_less) (defScope s_less) .none kV11 dc11 pm11 an11 cd11 ct11), sl11⟩) (c11 : PySem.W.codeIn K cd11 "less" = true) (k11 : PySem.W.keepIn K (.ref fa11) = true)
    {fa12 : Addr} {od12 an12 : Option Addr} {sl12 : Array (Option Value)} {oc12 kV12 dc12 pm12 cd12 ct12 : Value}
    (a12 : PySem.W.nsIn K mainGlobals "common" = some (some (.ref fa12))) (l12 : K.lookup fa12 = some ⟨oc12, od12, .func (PySem.W.fnOf "common" "common" (defArgs s_common) (defBody s_common) (defScope s_common) .none kV12 dc12 pm12 an12 cd12 ct12), sl12⟩) (c12 : PySem.W.codeIn K cd12 "common" = true) (k12 : PySem.W.keepIn K (.ref fa12) = true)
    {fa13 : Addr} {od13 an13 : Option Addr} {sl13 : Array (Option Value)} {oc13 kV13 dc13 pm13 cd13 ct13 : Value}
    (a13 : PySem.W.nsIn K mainGlobals "fraction" = some (some (.ref fa13))) (l13 : K.lookup fa13 = some ⟨oc13, od13, .func (PySem.W.fnOf "fraction" "fraction" (defArgs s_fraction) (defBody s_fraction) (defScope s_fraction) .none kV13 dc13 pm13 an13 cd13 ct13), sl13⟩) (c13 : PySem.W.codeIn K cd13 "fraction" = true) (k13 : PySem.W.keepIn K (.ref fa13) = true)
    {fa14 : Addr} {od14 an14 : Option Addr} {sl14 : Array (Option Value)} {oc14 kV14 dc14 pm14 cd14 ct14 : Value}
    (a14 : PySem.W.nsIn K mainGlobals "plus" = some (some (.ref fa14))) (l14 : K.lookup fa14 = some ⟨oc14, od14, .func (PySem.W.fnOf "plus" "plus" (defArgs s_plus) (defBody s_plus) (defScope s_plus) .none kV14 dc14 pm14 an14 cd14 ct14), sl14⟩) (c14 : PySem.W.codeIn K cd14 "plus" = true) (k14 : PySem.W.keepIn K (.ref fa14) = true)
    {fa15 : Addr} {od15 an15 : Option Addr} {sl15 : Array (Option Value)} {oc15 kV15 dc15 pm15 cd15 ct15 : Value}
    (a15 : PySem.W.nsIn K mainGlobals "is_far" = some (some (.ref fa15))) (l15 : K.lookup fa15 = some ⟨oc15, od15, .func (PySem.W.fnOf "is_far" "is_far" (defArgs s_is_far) (defBody s_is_far) (defScope s_is_far) .none kV15 dc15 pm15 an15 cd15 ct15), sl15⟩) (c15 : PySem.W.codeIn K cd15 "is_far" = true) (k15 : PySem.W.keepIn K (.ref fa15) = true)
    {fa16 : Addr} {od16 an16 : Option Addr} {sl16 : Array (Option Value)} {oc16 kV16 dc16 pm16 cd16 ct16 : Value}
    (a16 : PySem.W.nsIn K mainGlobals "are_four" = some (some (.ref fa16))) (l16 : K.lookup fa16 = some ⟨oc16, od16, .func (PySem.W.fnOf "are_four" "are_four" (defArgs s_are_four) (defBody s_are_four) (defScope s_are_four) .none kV16 dc16 pm16 an16 cd16 ct16), sl16⟩) (c16 : PySem.W.codeIn K cd16 "are_four" = true) (k16 : PySem.W.keepIn K (.ref fa16) = true)
    {fa17 : Addr} {od17 an17 : Option Addr} {sl17 : Array (Option Value)} {oc17 kV17 dc17 pm17 cd17 ct17 : Value}
    (a17 : PySem.W.nsIn K mainGlobals "fault" = some (some (.ref fa17))) (l17 : K.lookup fa17 = some ⟨oc17, od17, .func (PySem.W.fnOf "fault" "fault" (defArgs s_fault) (defBody s_fault) (defScope s_fault) .none kV17 dc17 pm17 an17 cd17 ct17), sl17⟩) (c17 : PySem.W.codeIn K cd17 "fault" = true) (k17 : PySem.W.keepIn K (.ref fa17) = true)
    {fa18 : Addr} {od18 an18 : Option Addr} {sl18 : Array (Option Value)} {oc18 kV18 dc18 pm18 cd18 ct18 : Value}
    (a18 : PySem.W.nsIn K mainGlobals "four_points" = some (some (.ref fa18))) (l18 : K.lookup fa18 = some ⟨oc18, od18, .func (PySem.W.fnOf "four_points" "four_points" (defArgs s_four_points) (defBody s_four_points) (defScope s_four_points) .none kV18 dc18 pm18 an18 cd18 ct18), sl18⟩) (c18 : PySem.W.codeIn K cd18 "four_points" = true) (k18 : PySem.W.keepIn K (.ref fa18) = true)
    {fa19 : Addr} {od19 an19 : Option Addr} {sl19 : Array (Option Value)} {oc19 kV19 dc19 pm19 cd19 ct19 : Value}
    (a19 : PySem.W.nsIn K mainGlobals "_law_told" = some (some (.ref fa19))) (l19 : K.lookup fa19 = some ⟨oc19, od19, .func (PySem.W.fnOf "_law_told" "_law_told" (defArgs s__law_told) (defBody s__law_told) (defScope s__law_told) .none kV19 dc19 pm19 an19 cd19 ct19), sl19⟩) (c19 : PySem.W.codeIn K cd19 "_law_told" = true) (k19 : PySem.W.keepIn K (.ref fa19) = true)
    {fa20 : Addr} {od20 an20 : Option Addr} {sl20 : Array (Option Value)} {oc20 kV20 dc20 pm20 cd20 ct20 : Value}
    (a20 : PySem.W.nsIn K mainGlobals "law" = some (some (.ref fa20))) (l20 : K.lookup fa20 = some ⟨oc20, od20, .func (PySem.W.fnOf "law" "law" (defArgs s_law) (defBody s_law) (defScope s_law) .none kV20 dc20 pm20 an20 cd20 ct20), sl20⟩) (c20 : PySem.W.codeIn K cd20 "law" = true) (k20 : PySem.W.keepIn K (.ref fa20) = true)
    {C0 : Addr} (ca0 : PySem.W.nsIn K mainGlobals "BadValue" = some (some (.ref C0))) (cx0 : PySem.W.excIn K C0 veL "ValueError.__new__" = true) (ck0 : PySem.W.keepIn K (.ref C0) = true) (cs0 : PySem.W.subIn K (.ref C0) (.type "BaseException") = some true) (ct1000 : PySem.W.typeIn K (.ref C0) = some (.type "type"))
    (ci0 : PySem.W.isClsIn K C0 = true)
    (e0_0 : PySem.W.subIn K (.ref C0) (.ref C0) = some true)
    {t0 : Tok} (ga0 : PySem.W.nsIn K mainGlobals "MOST_TABLE" = some (some (.int 16 t0)))
    {z1 : Addr} {t1_0 t1_1 : Tok} {zd1 : Option Addr} {zn1 : Nat} {zs1 : Array (Option Value)} (ga1 : PySem.W.nsIn K mainGlobals "ZERO" = some (some (.ref z1))) (gb1 : K.lookup z1 = some ⟨.type "tuple", zd1, .seq #[.int 0 t1_0, .int 1 t1_1] zn1, zs1⟩)
    (z5000 : PySem.W.nsIn K mainGlobals "abs" = some none)
    (z5001 : PySem.W.nsIn K mainGlobals "all" = some none)
    (z5002 : PySem.W.nsIn K mainGlobals "any" = some none)
    (z5003 : PySem.W.nsIn K mainGlobals "bool" = some none)
    (z5004 : PySem.W.nsIn K mainGlobals "int" = some none)
    (z5005 : PySem.W.nsIn K mainGlobals "isinstance" = some none)
    (z5006 : PySem.W.nsIn K mainGlobals "len" = some none)
    (z5007 : PySem.W.nsIn K mainGlobals "list" = some none)
    (z5008 : PySem.W.nsIn K mainGlobals "max" = some none)
    (z5009 : PySem.W.nsIn K mainGlobals "min" = some none)
    (z5010 : PySem.W.nsIn K mainGlobals "range" = some none)
    (z5011 : PySem.W.nsIn K mainGlobals "tuple" = some none)
    : ∃ fd : FuncData, (∀ (s : Shared) (v : Value), BindsTo s fd ⟨[v], []⟩ [("script", v)]) ∧ ∀ base : Heap, K.In base → base.Ns mainGlobals mg → FnOk l.prog w K mg base (L2.CX l.prog w) 8 fa fd ["script"] (spAny K) := by
  have e := hfa.symm.trans (PySem.W.mg_of X Gn a20)
  cases e
  have T := top_mk X Gn a0 l0 c0 k0 a1 l1 c1 k1 a2 l2 c2 k2 a3 l3 c3 k3 a4 l4 c4 k4 a5 l5 c5 k5 a6 l6 c6 k6 a7 l7 c7 k7 a8 l8 c8 k8 a9 l9 c9 k9 a10 l10 c10 k10 a11 l11 c11 k11 a12 l12 c12 k12 a13 l13 c13 k13 a14 l14 c14 k14 a15 l15 c15 k15 a16 l16 c16 k16 a17 l17 c17 k17 a18 l18 c18 k18 a19 l19 c19 k19 a20 l20 c20 k20 ca0 cx0 ck0 cs0 ct1000 ci0 e0_0 ga0 ga1 gb1 z5000 z5001 z5002 z5003 z5004 z5005 z5006 z5007 z5008 z5009 z5010 z5011
  refine ⟨_, fun s v => ?_, fun base _ _ => (fn_law (G := ⟨fun x => [("_law_draw", fa0), ("_law_fr", fa1), ("_law_add", fa2), ("_law_table", fa3), ("_law_is_less", fa4), ("_law_due", fa5), ("_law_bag", fa6), ("is_number", fa7), ("sign", fa8), ("is_table", fa9), ("look_at_table", fa10), ("less", fa11), ("common", fa12), ("fraction", fa13), ("plus", fa14), ("is_far", fa15), ("are_four", fa16), ("fault", fa17), ("four_points", fa18), ("_law_told", fa19), ("law", fa)].lookup x, fun x => [("BadValue", C0)].lookup x, fun x => ([("MOST_TABLE", (.int 16 : V)), ("ZERO", (.ref z1 : V))].lookup x).getD .non, K⟩) T (fun_mk l20 c20 k20)).imp (law_sp hr)⟩
  exact .of_eq rfl
end K68
open PySem PySem.W PyProof.Rows
set_option maxHeartbeats 0 in
theorem PySem.Challenge.cw_currentwebs_k68_four_points_holds : PySem.Challenge.rw_currentwebs_k68_four_points.Holds := by
  w_on; o_law; k_head; (case hw => w_witness2)
  k_fill
  refine L2.walk_of (l := PySem.Challenge.rw_currentwebs_k68_four_points) (n := 63) (k := 8) (x := "script") (CX := fun w => L2.CX (PySem.Challenge.rw_currentwebs_k68_four_points).prog w) (sp := fun w => DL.spAny _) rfl (by decide) rfl ⟨rfl, by decide, by decide⟩ (fun w h Y => PySem.W.kIn_of Y) ?F (fun _ H a ns hl ho hS => ⟨a, ns, rfl, hS, ho, hl, fun _ => rfl⟩) (fun _ H s e s2 z => DL.cx_none H s e s2 z)
  case F =>
    intro w mg fa h KX G hmg
    refine' K68.law_mk KX G hmg K68.main ?a0 ?l0 ?c0 ?k0 ?a1 ?l1 ?c1 ?k1 ?a2 ?l2 ?c2 ?k2 ?a3 ?l3 ?c3 ?k3 ?a4 ?l4 ?c4 ?k4 ?a5 ?l5 ?c5 ?k5 ?a6 ?l6 ?c6 ?k6 ?a7 ?l7 ?c7 ?k7 ?a8 ?l8 ?c8 ?k8 ?a9 ?l9 ?c9 ?k9 ?a10 ?l10 ?c10 ?k10 ?a11 ?l11 ?c11 ?k11 ?a12 ?l12 ?c12 ?k12 ?a13 ?l13 ?c13 ?k13 ?a14 ?l14 ?c14 ?k14 ?a15 ?l15 ?c15 ?k15 ?a16 ?l16 ?c16 ?k16 ?a17 ?l17 ?c17 ?k17 ?a18 ?l18 ?c18 ?k18 ?a19 ?l19 ?c19 ?k19 ?a20 ?l20 ?c20 ?k20 ?ca0 ?cx0 ?ck0 ?cs0 ?ct1000 ?ci0 ?e0_0 ?ga0 ?ga1 ?gb1 ?z5000 ?z5001 ?z5002 ?z5003 ?z5004 ?z5005 ?z5006 ?z5007 ?z5008 ?z5009 ?z5010 ?z5011
    (case a0 => k_is)
    (case l0 => k_is)
    (case c0 => k_is)
    (case k0 => k_is)
    (case a1 => k_is)
    (case l1 => k_is)
    (case c1 => k_is)
    (case k1 => k_is)
    (case a2 => k_is)
    (case l2 => k_is)
    (case c2 => k_is)
    (case k2 => k_is)
    (case a3 => k_is)
    (case l3 => k_is)
    (case c3 => k_is)
    (case k3 => k_is)
    (case a4 => k_is)
    (case l4 => k_is)
    (case c4 => k_is)
    (case k4 => k_is)
    (case a5 => k_is)
    (case l5 => k_is)
    (case c5 => k_is)
    (case k5 => k_is)
    (case a6 => k_is)
    (case l6 => k_is)
    (case c6 => k_is)
    (case k6 => k_is)
    (case a7 => k_is)
    (case l7 => k_is)
    (case c7 => k_is)
    (case k7 => k_is)
    (case a8 => k_is)
    (case l8 => k_is)
    (case c8 => k_is)
    (case k8 => k_is)
    (case a9 => k_is)
    (case l9 => k_is)
    (case c9 => k_is)
    (case k9 => k_is)
    (case a10 => k_is)
    (case l10 => k_is)
    (case c10 => k_is)
    (case k10 => k_is)
    (case a11 => k_is)
    (case l11 => k_is)
    (case c11 => k_is)
    (case k11 => k_is)
    (case a12 => k_is)
    (case l12 => k_is)
    (case c12 => k_is)
    (case k12 => k_is)
    (case a13 => k_is)
    (case l13 => k_is)
    (case c13 => k_is)
    (case k13 => k_is)
    (case a14 => k_is)
    (case l14 => k_is)
    (case c14 => k_is)
    (case k14 => k_is)
    (case a15 => k_is)
    (case l15 => k_is)
    (case c15 => k_is)
    (case k15 => k_is)
    (case a16 => k_is)
    (case l16 => k_is)
    (case c16 => k_is)
    (case k16 => k_is)
    (case a17 => k_is)
    (case l17 => k_is)
    (case c17 => k_is)
    (case k17 => k_is)
    (case a18 => k_is)
    (case l18 => k_is)
    (case c18 => k_is)
    (case k18 => k_is)
    (case a19 => k_is)
    (case l19 => k_is)
    (case c19 => k_is)
    (case k19 => k_is)
    (case a20 => k_is)
    (case l20 => k_is)
    (case c20 => k_is)
    (case k20 => k_is)
    (case ca0 => k_is)
    (case cx0 => k_exc)
    (case ck0 => k_is)
    (case cs0 => k_is)
    (case ct1000 => k_is)
    (case ci0 => k_is)
    (case e0_0 => k_is)
    (case ga0 => k_is)
    (case ga1 => k_is)
    (case gb1 => k_is)
    (case z5000 => k_is)
    (case z5001 => k_is)
    (case z5002 => k_is)
    (case z5003 => k_is)
    (case z5004 => k_is)
    (case z5005 => k_is)
    (case z5006 => k_is)
    (case z5007 => k_is)
    (case z5008 => k_is)
    (case z5009 => k_is)
    (case z5010 => k_is)
    (case z5011 => k_is)


