import PyProof.Rows.All
import HandS.ForMost
import HandS.ForExc
import HandS.CallLocal
import HandS.CallSlots
import HandS.TryMany
import HandS.IsInst
import HandS.Wide
import HandS.RaiseMore
import HandS.Zip
import HandS.TupMul
import HandS.Deep
import HandS.Style
import HandS.Small
import HandS.DictComp
import HandS.DictTup
import HandS.WordsDict
import HandS.WideBits
import PySem.Challenge.RW_currentwebs_k70_whole_roots
set_option Elab.async false
set_option linter.all false
set_option maxRecDepth 100000
set_option maxHeartbeats 4000000
namespace DL
open PySem PySem.Spec PyProof.Rows L2

/-- plain data; ref n is the n-th tracked object -/
inductive D where
  | non | bl (b : Bool) | int (i : Int) | str (x : Str)
  | tup (xs : List D) | lst (xs : List D) | scr (xs : List Int) | ref (n : Nat) | fn (x : String)
  deriving Inhabited

/-- tracked objects -/
inductive O where
  | lst (xs : List D)
  | dK (kvs : List (Key × D))
  | dT (kvs : List (List Key × D))
  deriving Inhabited

abbrev Sto := List O
abbrev Loc := List (Option D)

/-- what the program's names stand for -/
structure Gm where
  fn : String → Option Addr
  cl : String → Option Addr
  cst : String → V
  K : PySem.W.Frag
abbrev Gm.fA (G : Gm) (x : String) : Addr := (G.fn x).getD 0
abbrev Gm.cA (G : Gm) (x : String) : Addr := (G.cl x).getD 0

/-- an exception: its class by name, its one field if it has any -/
structure Xn where
  cls : String
  fld : Option (Str × D) := none

inductive R (α : Type) where
  | ok (a : α) (s : Sto)
  | ex (c : Xn) (s : Sto)
  | stuck

def R.bind {α β : Type} (r : R α) (f : α → Sto → R β) : R β :=
  match r with
  | .ok a s => f a s
  | .ex c s => .ex c s
  | .stuck => .stuck
@[simp] theorem R.bind_ok {α β : Type} (a : α) (s : Sto) (f : α → Sto → R β) : (R.ok a s).bind f = f a s := rfl
@[simp] theorem R.bind_ex {α β : Type} (c : Xn) (s : Sto) (f : α → Sto → R β) : (R.ex c s : R α).bind f = .ex c s := rfl
@[simp] theorem R.bind_stuck {α β : Type} (f : α → Sto → R β) : (R.stuck : R α).bind f = .stuck := rfl

abbrev ME := Loc → Sto → R D
abbrev MT := Loc → Sto → R Bool
abbrev MA := Loc → Sto → R (List D)
/-- a def: arguments, store -/
abbrev MF := List D → Sto → R D

inductive Out where
  | nx (l : Loc) (s : Sto)
  | rt (d : D) (s : Sto)
  | bk (l : Loc) (s : Sto)
  | ct (l : Loc) (s : Sto)
  | ex (c : Xn) (l : Loc) (s : Sto)
  | stuck
abbrev MS := Loc → Sto → Out

/-- tracked addresses, by place; reserved ones (a comprehension's list while it grows) -/
structure Mu where
  tr : List Addr
  rs : List Addr
instance : Membership Addr Mu := ⟨fun μ a => a ∈ μ.tr ∨ a ∈ μ.rs⟩
theorem Mu.mem {μ : Mu} {a : Addr} : a ∈ μ ↔ a ∈ μ.tr ∨ a ∈ μ.rs := Iff.rfl
abbrev Mu.add (μ : Mu) (p : Addr) : Mu := ⟨μ.tr ++ [p], μ.rs⟩

section
variable (G : Gm) (K : PySem.W.Frag)
mutual
inductive Rp (H : Hp) (μ : Mu) : V → D → Prop
  | non : Rp H μ .non .non
  | bl (b : Bool) : Rp H μ (.bl b) (.bl b)
  | int (i : Int) : Rp H μ (.int i) (.int i)
  | str (x : Str) : Rp H μ (.str x) (.str x)
  | tup {p : Addr} {vs : List V} {ds : List D} : H p = some (.tup vs) → p ∉ μ → RpA H μ vs ds → Rp H μ (.ref p) (.tup ds)
  | tupK {p : Addr} {o : Obj} {its : Array Value} {n : Nat} {vs : List V} {ds : List D} : K.lookup p = some o → o.cls = .type "tuple" → o.data = .seq its n → its.size ≤ sizeLine → Vals vs its.toList → RpA H μ vs ds → Rp H μ (.ref p) (.tup ds)
  | lst {p : Addr} {vs : List V} {ds : List D} : H p = some (.lst vs) → p ∉ μ → RpA H μ vs ds → Rp H μ (.ref p) (.lst ds)
  | scr {p : Addr} {o : Obj} {xs : List Int} : H p = some (.frz o (.lst (xs.map V.int))) → p ∉ μ → Rp H μ (.ref p) (.scr xs)
  | scrK {p : Addr} {o : Obj} {its : Array Value} {n : Nat} {xs : List Int} : K.lookup p = some o → o.cls = .type "list" → o.dict = none → o.data = .seq its n → its.size ≤ sizeLine → Vals (xs.map V.int) its.toList → Rp H μ (.ref p) (.scr xs)
  | ref {n : Nat} {p : Addr} : μ.tr[n]? = some p → Rp H μ (.ref p) (.ref n)
  | fn {x : String} {p : Addr} : G.fn x = some p → Rp H μ (.ref p) (.fn x)
inductive RpA (H : Hp) (μ : Mu) : List V → List D → Prop
  | nil : RpA H μ [] []
  | cons {v : V} {d : D} {vs : List V} {ds : List D} : Rp H μ v d → RpA H μ vs ds → RpA H μ (v :: vs) (d :: ds)
end

/-- the heap has grown: what is known and not tracked stays -/
structure Mono (H : Hp) (μ : Mu) (H' : Hp) (μ' : Mu) : Prop where
  keep : ∀ a o, H a = some o → a ∉ μ → H' a = some o
  notin : ∀ a o, H a = some o → a ∉ μ → a ∉ μ'
  pre : ∀ (n : Nat) (p : Addr), μ.tr[n]? = some p → μ'.tr[n]? = some p
structure Grow (H : Hp) (μ : Mu) (H' : Hp) (μ' : Mu) : Prop where
  keep : ∀ a o, H a = some o → a ∉ μ → H' a = some o
  news : ∀ a, a ∈ μ'.tr → a ∈ μ.tr ∨ H a = none
  pre : ∀ (n : Nat) (p : Addr), μ.tr[n]? = some p → μ'.tr[n]? = some p
  rs : μ'.rs = μ.rs
  res : ∀ a, a ∈ μ.rs → H' a = H a

inductive KVp {κ : Type} (H : Hp) (μ : Mu) : List (κ × V) → List (κ × D) → Prop
  | nil : KVp H μ [] []
  | cons {k : κ} {v : V} {d : D} {vs : List (κ × V)} {ds : List (κ × D)} : Rp G K H μ v d → KVp H μ vs ds → KVp H μ ((k, v) :: vs) ((k, d) :: ds)

def RO (H : Hp) (μ : Mu) (p : Addr) : O → Prop
  | .lst ds => ∃ vs, H p = some (.lst vs) ∧ RpA G K H μ vs ds
  | .dK kvs => ∃ vs, H p = some (.dK vs) ∧ KVp G K H μ vs kvs
  | .dT kvs => ∃ vs, H p = some (.dT vs) ∧ KVp G K H μ vs kvs

structure RS (H : Hp) (μ : Mu) (s : Sto) : Prop where
  len : μ.tr.length = s.length
  nd : μ.tr.Nodup
  at_ : ∀ (n : Nat) (p : Addr) (o : O), μ.tr[n]? = some p → s[n]? = some o → RO G K H μ p o
  rk : ∀ a, a ∈ μ.rs → (∃ o, H a = some o) ∧ a ∉ μ.tr

def RL (H : Hp) (μ : Mu) (σ : L2.St) (l : Loc) : Prop :=
  σ.length = l.length ∧ ∀ (i : Nat) (d : D), l[i]? = some (some d) → ∃ v, σ[i]? = some (some v) ∧ Rp G K H μ v d
end

section
variable {G : Gm} {K : PySem.W.Frag} {H H' H1 H2 : Hp} {μ μ' μ1 μ2 : Mu}

theorem Grow.refl : Grow H μ H μ := ⟨fun _ _ h _ => h, fun _ h => .inl h, fun _ _ h => h, rfl, fun _ _ => rfl⟩
theorem Grow.notin (g : Grow H μ H' μ') {a : Addr} {o : HO} (h : H a = some o) (hn : a ∉ μ) : a ∉ μ' := fun hx => by
  rcases hx with hx | hx
  · rcases g.news a hx with z | z
    · exact hn (.inl z)
    · rw [z] at h; cases h
  · rw [g.rs] at hx; exact hn (.inr hx)
theorem Grow.mono (g : Grow H μ H' μ') : Mono H μ H' μ' := ⟨g.keep, fun _ _ h n => g.notin h n, g.pre⟩
theorem Grow.trans (a : Grow H μ H1 μ1) (b : Grow H1 μ1 H2 μ2) : Grow H μ H2 μ2 := by
  refine ⟨fun x o h hn => b.keep x o (a.keep x o h hn) (a.notin h hn), fun x hx => ?_, fun n p h => b.pre n p (a.pre n p h), b.rs.trans a.rs, fun x hx => ?_⟩
  · rcases b.news x hx with z | z
    · exact a.news x z
    · by_cases hm : x ∈ μ
      · rcases hm with hm | hm
        · exact .inl hm
        · right; rw [← a.res x hm]; exact z
      · right
        cases q : H x with
        | none => rfl
        | some o =>
          have := a.keep x o q hm
          rw [z] at this; cases this
  · rw [b.res x (by rw [a.rs]; exact hx), a.res x hx]
mutual
theorem Rp.mon (g : Mono H μ H' μ') : ∀ {v : V} {d : D}, Rp G K H μ v d → Rp G K H' μ' v d
  | _, _, .non => .non
  | _, _, .bl b => .bl b
  | _, _, .int i => .int i
  | _, _, .str x => .str x
  | _, _, .tup h n r => .tup (g.keep _ _ h n) (g.notin _ _ h n) (RpA.mon g r)
  | _, _, .tupK a b c e f r => .tupK a b c e f (RpA.mon g r)
  | _, _, .lst h n r => .lst (g.keep _ _ h n) (g.notin _ _ h n) (RpA.mon g r)
  | _, _, .scr h n => .scr (g.keep _ _ h n) (g.notin _ _ h n)
  | _, _, .scrK a b c d e f => .scrK a b c d e f
  | _, _, .ref h => .ref (g.pre _ _ h)
  | _, _, .fn h => .fn h
theorem RpA.mon (g : Mono H μ H' μ') : ∀ {vs : List V} {ds : List D}, RpA G K H μ vs ds → RpA G K H' μ' vs ds
  | _, _, .nil => .nil
  | _, _, .cons a r => .cons (Rp.mon g a) (RpA.mon g r)
end
theorem Rp.mono (g : Grow H μ H' μ') {v : V} {d : D} (h : Rp G K H μ v d) : Rp G K H' μ' v d := h.mon g.mono
theorem RpA.mono (g : Grow H μ H' μ') {vs : List V} {ds : List D} (h : RpA G K H μ vs ds) : RpA G K H' μ' vs ds := h.mon g.mono
theorem KVp.mon {κ : Type} (g : Mono H μ H' μ') : ∀ {vs : List (κ × V)} {ds : List (κ × D)}, KVp G K H μ vs ds → KVp G K H' μ' vs ds
  | _, _, .nil => .nil
  | _, _, .cons a r => .cons (a.mon g) (KVp.mon g r)
theorem RL.mon (g : Mono H μ H' μ') {σ : L2.St} {l : Loc} (r : RL G K H μ σ l) : RL G K H' μ' σ l :=
  ⟨r.1, fun i d e => let ⟨v, a, b⟩ := r.2 i d e; ⟨v, a, b.mon g⟩⟩
theorem RL.mono (g : Grow H μ H' μ') {σ : L2.St} {l : Loc} (r : RL G K H μ σ l) : RL G K H' μ' σ l := r.mon g.mono
theorem RO.mon {p : Addr} {o : O} (q : RO G K H μ p o) (g : Mono H μ H' μ') (h : ∀ u, H p = some u → H' p = some u) : RO G K H' μ' p o := by
  cases o with
  | lst ds => obtain ⟨vs, a, b⟩ := q; exact ⟨vs, h _ a, b.mon g⟩
  | dK ds => obtain ⟨vs, a, b⟩ := q; exact ⟨vs, h _ a, b.mon g⟩
  | dT ds => obtain ⟨vs, a, b⟩ := q; exact ⟨vs, h _ a, b.mon g⟩

theorem RpA.length : ∀ {vs : List V} {ds : List D}, RpA G K H μ vs ds → vs.length = ds.length
  | _, _, .nil => rfl
  | _, _, .cons _ r => by rw [List.length_cons, List.length_cons, RpA.length r]
theorem RpA.get : ∀ {vs : List V} {ds : List D} {i : Nat} {d : D}, RpA G K H μ vs ds → ds[i]? = some d → ∃ v, vs[i]? = some v ∧ Rp G K H μ v d
  | _, _, _, _, .nil, e => by simp at e
  | _, _, 0, _, .cons a _, e => by simp at e; subst e; exact ⟨_, rfl, a⟩
  | _, _, i + 1, _, .cons _ r, e => by
    obtain ⟨v, h1, h2⟩ := RpA.get (i := i) r (by simpa using e)
    exact ⟨v, by simpa using h1, h2⟩
theorem RpA.getV : ∀ {vs : List V} {ds : List D} {i : Nat} {v : V}, RpA G K H μ vs ds → vs[i]? = some v → ∃ d, ds[i]? = some d ∧ Rp G K H μ v d
  | _, _, _, _, .nil, e => by simp at e
  | _, _, 0, _, .cons a _, e => by simp at e; subst e; exact ⟨_, rfl, a⟩
  | _, _, i + 1, _, .cons _ r, e => by
    obtain ⟨v, h1, h2⟩ := RpA.getV (i := i) r (by simpa using e)
    exact ⟨v, by simpa using h1, h2⟩
theorem RpA.append : ∀ {vs us : List V} {ds es : List D}, RpA G K H μ vs ds → RpA G K H μ us es → RpA G K H μ (vs ++ us) (ds ++ es)
  | _, _, _, _, .nil, s => s
  | _, _, _, _, .cons a r, s => .cons a (RpA.append r s)
theorem RpA.take : ∀ {vs : List V} {ds : List D} (n : Nat), RpA G K H μ vs ds → RpA G K H μ (vs.take n) (ds.take n)
  | _, _, 0, _ => .nil
  | _, _, _ + 1, .nil => .nil
  | _, _, n + 1, .cons a r => .cons a (RpA.take n r)
theorem RpA.drop : ∀ {vs : List V} {ds : List D} (n : Nat), RpA G K H μ vs ds → RpA G K H μ (vs.drop n) (ds.drop n)
  | _, _, 0, r => r
  | _, _, _ + 1, .nil => .nil
  | _, _, n + 1, .cons _ r => RpA.drop n r
theorem RpA.set : ∀ {vs : List V} {ds : List D} {v : V} {d : D} (n : Nat), RpA G K H μ vs ds → Rp G K H μ v d → RpA G K H μ (vs.set n v) (ds.set n d)
  | _, _, _, _, _, .nil, _ => .nil
  | _, _, _, _, 0, .cons _ r, a => .cons a r
  | _, _, _, _, n + 1, .cons b r, a => .cons b (RpA.set n r a)
theorem RpA.reverse : ∀ {vs : List V} {ds : List D}, RpA G K H μ vs ds → RpA G K H μ vs.reverse ds.reverse
  | _, _, .nil => .nil
  | _, _, .cons a r => by
    rw [List.reverse_cons, List.reverse_cons]
    exact RpA.append (RpA.reverse r) (.cons a .nil)
theorem RpA.replicate {vs : List V} {ds : List D} (r : RpA G K H μ vs ds) : ∀ n : Nat, RpA G K H μ (List.replicate n vs).flatten (List.replicate n ds).flatten
  | 0 => .nil
  | n + 1 => by
    rw [List.replicate_succ, List.replicate_succ, List.flatten_cons, List.flatten_cons]
    exact RpA.append r (RpA.replicate r n)
theorem RpA.ints : ∀ xs : List Int, RpA G K H μ (xs.map V.int) (xs.map D.int)
  | [] => .nil
  | x :: xs => .cons (.int x) (RpA.ints xs)

/-! ### the store -/
theorem RO.some_ {p : Addr} {o : O} (q : RO G K H μ p o) : ∃ u, H p = some u := by
  cases o with
  | lst ds => obtain ⟨vs, a, _⟩ := q; exact ⟨_, a⟩
  | dK ds => obtain ⟨vs, a, _⟩ := q; exact ⟨_, a⟩
  | dT ds => obtain ⟨vs, a, _⟩ := q; exact ⟨_, a⟩
theorem RS.some_ {s : Sto} (r : RS G K H μ s) {n : Nat} {p : Addr} (e : μ.tr[n]? = some p) : ∃ u, H p = some u := by
  have hn : n < s.length := by rw [← r.len]; exact (List.getElem?_eq_some_iff.mp e).1
  exact (r.at_ n p s[n] e (List.getElem?_eq_getElem hn)).some_
theorem RS.mem_some {s : Sto} (r : RS G K H μ s) {p : Addr} (h : p ∈ μ) : ∃ u, H p = some u := by
  rcases h with h | h
  · obtain ⟨n, hn⟩ := List.mem_iff_getElem?.mp h
    exact r.some_ hn
  · exact (r.rk p h).1
theorem RS.notin {s : Sto} (r : RS G K H μ s) {p : Addr} (h : H p = none) : p ∉ μ := fun z => by
  obtain ⟨u, e⟩ := r.mem_some z
  rw [h] at e; cases e
/-- a new object, not tracked -/
theorem RS.galloc {s : Sto} (r : RS G K H μ s) {p : Addr} {o : HO} (h : H p = none) : Grow H μ (upd H p o) μ :=
  ⟨fun a u e _ => by rw [upd_ne (ne_of_none e h)]; exact e, fun _ h => .inl h, fun _ _ h => h, rfl, fun a ha => upd_ne fun z => r.notin h (.inr (z ▸ ha))⟩
/-- a new object, tracked -/
theorem RS.gtrack {s : Sto} (r : RS G K H μ s) {p : Addr} {o : HO} (h : H p = none) : Grow H μ (upd H p o) (μ.add p) :=
  ⟨fun a u e _ => by rw [upd_ne (ne_of_none e h)]; exact e, fun a ha => by
    rcases List.mem_append.mp ha with z | z
    · exact .inl z
    · right; rw [List.mem_singleton] at z; rw [z]; exact h, fun n q e => by
    show (μ.tr ++ [p])[n]? = some q
    rw [List.getElem?_append_left (List.getElem?_eq_some_iff.mp e).1]; exact e, rfl, fun a ha => upd_ne fun z => r.notin h (.inr (z ▸ ha))⟩
/-- a tracked object is changed -/
theorem RS.gwrite {s : Sto} (r : RS G K H μ s) {p : Addr} {o : HO} (h : p ∈ μ.tr) : Grow H μ (upd H p o) μ :=
  ⟨fun a u e hn => by rw [upd_ne (fun z => hn (by rw [z]; exact .inl h))]; exact e, fun _ h => .inl h, fun _ _ h => h, rfl, fun a ha => upd_ne fun z => (r.rk a ha).2 (z ▸ h)⟩
/-- an untracked new object -/
theorem RS.alloc {s : Sto} (r : RS G K H μ s) {p : Addr} {o : HO} (h : H p = none) : RS G K (upd H p o) μ s :=
  ⟨r.len, r.nd, fun n q u e1 e2 => (r.at_ n q u e1 e2).mon (r.galloc h).mono fun u e => by rw [upd_ne (ne_of_none e h)]; exact e,
    fun a ha => ⟨by rw [(r.galloc (o := o) h).res a ha]; exact (r.rk a ha).1, (r.rk a ha).2⟩⟩
/-- a tracked new object -/
theorem RS.track {s : Sto} (r : RS G K H μ s) {p : Addr} {o : HO} {d : O} (h : H p = none) (hd : RO G K (upd H p o) (μ.add p) p d) : RS G K (upd H p o) (μ.add p) (s ++ [d]) := by
  refine ⟨by show (μ.tr ++ [p]).length = _; rw [List.length_append, List.length_append, r.len]; rfl, ?_, fun n q u e1 e2 => ?_, fun a ha => ⟨by rw [(r.gtrack (o := o) h).res a ha]; exact (r.rk a ha).1, fun z => ?_⟩⟩
  · show (μ.tr ++ [p]).Nodup
    rw [List.nodup_append]
    refine ⟨r.nd, by simp, fun a ha b hb => ?_⟩
    rw [List.mem_singleton] at hb
    subst hb
    intro z
    subst z
    exact r.notin h (.inl ha)
  · have e1 : (μ.tr ++ [p])[n]? = some q := e1
    by_cases hn : n < μ.tr.length
    · rw [List.getElem?_append_left hn] at e1
      rw [List.getElem?_append_left (by rw [← r.len]; exact hn)] at e2
      exact (r.at_ n q u e1 e2).mon (r.gtrack h).mono fun u e => by rw [upd_ne (ne_of_none e h)]; exact e
    · have hn2 : n = μ.tr.length := by
        have := (List.getElem?_eq_some_iff.mp e1).1
        rw [List.length_append] at this
        simp at this
        omega
      subst hn2
      rw [List.getElem?_append_right (Nat.le_refl _)] at e1
      rw [r.len, List.getElem?_append_right (Nat.le_refl _)] at e2
      simp at e1 e2
      subst e1 e2
      exact hd
  · rcases List.mem_append.mp z with z | z
    · exact (r.rk a ha).2 z
    · rw [List.mem_singleton] at z
      subst z
      exact r.notin h (.inr ha)
/-- the n-th tracked object is changed -/
theorem RS.write {s : Sto} (r : RS G K H μ s) {n : Nat} {p : Addr} {o : HO} {d : O} (e : μ.tr[n]? = some p) (hd : RO G K (upd H p o) μ p d) : RS G K (upd H p o) μ (s.set n d) := by
  have hm : p ∈ μ.tr := List.mem_iff_getElem?.mpr ⟨n, e⟩
  refine ⟨by rw [List.length_set]; exact r.len, r.nd, fun m q u e1 e2 => ?_, fun a ha => ⟨by rw [(r.gwrite (o := o) hm).res a ha]; exact (r.rk a ha).1, (r.rk a ha).2⟩⟩
  by_cases h : n = m
  · subst h
    rw [e] at e1
    cases e1
    have hn : n < s.length := by rw [← r.len]; exact (List.getElem?_eq_some_iff.mp e).1
    rw [List.getElem?_set_self hn] at e2
    cases e2
    exact hd
  · rw [List.getElem?_set_ne h] at e2
    have hq : q ≠ p := fun z => by
      subst z
      exact h ((List.getElem?_inj (List.getElem?_eq_some_iff.mp e).1 r.nd).mp (e.trans e1.symm))
    exact (r.at_ m q u e1 e2).mon (r.gwrite hm).mono fun u e => by rw [upd_ne hq]; exact e
end

/-! ### what a reading comes to -/
/-- a class as a value -/
def Gm.clv (G : Gm) (c : String) : Option Value := (G.cl c).map Value.ref
/-- an exception's dict -/
def Fld (G : Gm) (K : PySem.W.Frag) (H : Hp) (μ : Mu) (x : Xn) (d : Option Addr) : Prop :=
  match x.fld with
  | none => d = none
  | some (f, a) => ∃ p v, d = some p ∧ H p = some (.xd [(f, v)]) ∧ Rp G K H μ v a

section
variable (G : Gm) (K : PySem.W.Frag)
/-- t's reading comes to r -/
def okP {α β : Type} (t : (β → Hp → Prop) → Prop) (W : Value → Option Addr → Hp → Prop) (H : Hp) (μ : Mu) (Rl : Hp → Mu → β → α → Prop) : R α → Prop
  | .ok a s' => ∀ Q : β → Hp → Prop, (∀ b H' μ', Grow H μ H' μ' → RS G K H' μ' s' → Rl H' μ' b a → Q b H') → t Q
  | .ex x s' => ∀ Q : β → Hp → Prop, (∀ C d H' μ', Grow H μ H' μ' → RS G K H' μ' s' → G.cl x.cls = some C → Fld G K H' μ' x d → W (.ref C) d H') → t Q
  | .stuck => True
/-- what is to hold behind a statement -/
def Post (D : Ends) (W : WX) (H : Hp) (μ : Mu) : Out → Prop
  | .nx l s' => ∀ σ' H' μ', Grow H μ H' μ' → RL G K H' μ' σ' l → RS G K H' μ' s' → D.nx σ' H'
  | .rt d s' => ∀ v H' μ', Grow H μ H' μ' → RS G K H' μ' s' → Rp G K H' μ' v d → D.rt v H'
  | .bk l s' => ∀ σ' H' μ', Grow H μ H' μ' → RL G K H' μ' σ' l → RS G K H' μ' s' → D.bk σ' H'
  | .ct l s' => ∀ σ' H' μ', Grow H μ H' μ' → RL G K H' μ' σ' l → RS G K H' μ' s' → D.ct σ' H'
  | .ex x l s' => ∀ C d σ' H' μ', Grow H μ H' μ' → RL G K H' μ' σ' l → RS G K H' μ' s' → G.cl x.cls = some C → Fld G K H' μ' x d → W (.ref C) d σ' H'
  | .stuck => False
def okS (t : TS) (W : WX) (σ : L2.St) (H : Hp) (μ : Mu) (o : Out) : Prop := ∀ D : Ends, Post G K D W H μ o → t D σ H
end

theorem Post.up {G : Gm} {K : PySem.W.Frag} {D : Ends} {W : WX} {H H' : Hp} {μ μ' : Mu} {o : Out} (g : Grow H μ H' μ') (h : Post G K D W H μ o) : Post G K D W H' μ' o := by
  cases o with
  | nx l s => exact fun σ' H1 μ1 g1 => h σ' H1 μ1 (g.trans g1)
  | rt d s => exact fun v H1 μ1 g1 => h v H1 μ1 (g.trans g1)
  | bk l s => exact fun σ' H1 μ1 g1 => h σ' H1 μ1 (g.trans g1)
  | ct l s => exact fun σ' H1 μ1 g1 => h σ' H1 μ1 (g.trans g1)
  | ex x l s => exact fun C d σ' H1 μ1 g1 => h C d σ' H1 μ1 (g.trans g1)
  | stuck => exact h

section
variable {G : Gm} {K : PySem.W.Frag} {H H' : Hp} {μ μ' : Mu} {α β γ δ : Type} {W : Value → Option Addr → Hp → Prop}
theorem okP.up {t : (β → Hp → Prop) → Prop} {Rl : Hp → Mu → β → α → Prop} {r : R α} (g : Grow H μ H' μ') (h : okP G K t W H' μ' Rl r) : okP G K t W H μ Rl r := by
  cases r with
  | ok a s => exact fun Q k => h Q fun b H1 μ1 g1 => k b H1 μ1 (g.trans g1)
  | ex c s => exact fun Q k => h Q fun b d H1 μ1 g1 => k b d H1 μ1 (g.trans g1)
  | stuck => trivial
theorem okP.bind {t : (β → Hp → Prop) → Prop} {u : β → Hp → (δ → Hp → Prop) → Prop} {Rl : Hp → Mu → β → α → Prop} {Rm : Hp → Mu → δ → γ → Prop} {r : R α} {f : α → Sto → R γ}
    (h : okP G K t W H μ Rl r) (k : ∀ b H1 μ1 a s1, Grow H μ H1 μ1 → RS G K H1 μ1 s1 → Rl H1 μ1 b a → okP G K (u b H1) W H1 μ1 Rm (f a s1)) :
    okP G K (fun Q => t fun b H1 => u b H1 Q) W H μ Rm (r.bind f) := by
  cases r with
  | ok a s =>
    show okP G K _ W H μ Rm (f a s)
    have k' := fun b H1 μ1 => k b H1 μ1 a s
    cases e : f a s with
    | ok c s2 =>
      intro Q q
      refine h _ fun b H1 μ1 g r1 l => ?_
      have z := k' b H1 μ1 g r1 l
      rw [e] at z
      exact z Q fun x H2 μ2 g2 => q x H2 μ2 (g.trans g2)
    | ex c s2 =>
      intro Q q
      refine h _ fun b H1 μ1 g r1 l => ?_
      have z := k' b H1 μ1 g r1 l
      rw [e] at z
      exact z Q fun x d H2 μ2 g2 => q x d H2 μ2 (g.trans g2)
    | stuck => trivial
  | ex c s =>
    intro Q q
    exact h _ fun b d H1 μ1 g => q b d H1 μ1 g
  | stuck => trivial
/-- a value at once -/
theorem okP.now {t : (β → Hp → Prop) → Prop} {Rl : Hp → Mu → β → α → Prop} {a : α} {s : Sto} (h : ∀ Q : β → Hp → Prop, (∀ b H' μ', Grow H μ H' μ' → RS G K H' μ' s → Rl H' μ' b a → Q b H') → t Q) : okP G K t W H μ Rl (.ok a s) := h
end
end DL


namespace DL
open PySem PySem.Spec PyProof.Rows L2

structure JE (X : Cx) (G : Gm) (W : WX) (e : Expr) (t : TE) (m : ME) : Prop where
  pe : Takes X W → PE X e t
  sim : ∀ (σ : L2.St) (H : Hp) (μ : Mu) (l : Loc) (s : Sto), RL G G.K H μ σ l → RS G G.K H μ s → okP G G.K (t σ H) (fun c d H' => W c d σ H') H μ (Rp G G.K) (m l s)
abbrev BEq2 : Hp → Mu → Bool → Bool → Prop := fun _ _ b a => b = a
structure JT (X : Cx) (G : Gm) (W : WX) (e : Expr) (t : TT) (m : MT) : Prop where
  pe : Takes X W → PT X e t
  sim : ∀ (σ : L2.St) (H : Hp) (μ : Mu) (l : Loc) (s : Sto), RL G G.K H μ σ l → RS G G.K H μ s → okP G G.K (t σ H) (fun c d H' => W c d σ H') H μ BEq2 (m l s)
structure JW (X : Cx) (G : Gm) (W : WX) (e : Expr) (t : TT) (m : MT) : Prop where
  pe : Takes X W → PW X e t
  sim : ∀ (σ : L2.St) (H : Hp) (μ : Mu) (l : Loc) (s : Sto), RL G G.K H μ σ l → RS G G.K H μ s → okP G G.K (t σ H) (fun c d H' => W c d σ H') H μ BEq2 (m l s)
structure JA (X : Cx) (G : Gm) (W : WX) (es : List Expr) (t : TA) (m : MA) : Prop where
  pe : Takes X W → PA X es t
  sim : ∀ (σ : L2.St) (H : Hp) (μ : Mu) (l : Loc) (s : Sto), RL G G.K H μ σ l → RS G G.K H μ s → okP G G.K (t σ H) (fun c d H' => W c d σ H') H μ (RpA G G.K) (m l s)

theorem JW.jt {X : Cx} {G : Gm} {W : WX} {e : Expr} {t : TT} {m : MT} (h : JW X G W e t m) : JT X G W e t m := ⟨fun tk => (h.pe tk).pt, h.sim⟩

/-! ### names, constants -/
def mVar (i : Nat) : ME := fun l s => match l[i]? with
  | some (some d) => .ok d s
  | _ => .stuck
def mC (d : D) : ME := fun _ s => .ok d s

section
variable {X : Cx} {G : Gm} {W : WX}
theorem je_var (i : Nat) {x : Str} {pos : Pos} (hN : X.N[i]? = some x := by rfl) (hv : Vis X.env.scope x := by first | exact Or.inl rfl | exact Or.inr (Or.inl rfl) | exact Or.inr (Or.inr rfl)) (hd : (x == ("__debug__" : Str)) = false := by decide)
    (hcd : (x == ("__classdict__" : Str)) = false := by decide) : JE X G W (.Name x pos) (tVar i) (mVar i) := by
  refine ⟨fun tk => pe_var hN hv hd hcd, fun σ H μ l s hl hs => ?_⟩
  unfold mVar
  cases e : l[i]? with
  | none => trivial
  | some o =>
    cases o with
    | none => trivial
    | some d =>
      obtain ⟨v, h1, h2⟩ := hl.2 i d e
      exact fun Q q => ⟨v, h1, q v H μ Grow.refl hs h2⟩
theorem simC {v : V} {d : D} (h : ∀ H μ, Rp G G.K H μ v d) : ∀ (σ : L2.St) (H : Hp) (μ : Mu) (l : Loc) (s : Sto), RL G G.K H μ σ l → RS G G.K H μ s → okP G G.K (tC v σ H) (fun c d H' => W c d σ H') H μ (Rp G G.K) (mC d l s) :=
  fun σ H μ l s hl hs Q q => q v H μ Grow.refl hs (h H μ)
theorem je_int {i : Int} {j pos} : JE X G W (.Constant (.int i) j pos) (tC (.int i)) (mC (.int i)) := ⟨fun tk => pe_int, simC fun _ _ => .int i⟩
theorem je_bl {b : Bool} {j pos} : JE X G W (.Constant (.bool b) j pos) (tC (.bl b)) (mC (.bl b)) := ⟨fun tk => pe_bl, simC fun _ _ => .bl b⟩
theorem je_non {j pos} : JE X G W (.Constant .none j pos) (tC .non) (mC .non) := ⟨fun tk => pe_non, simC fun _ _ => .non⟩
theorem je_str {x : Str} {j pos} : JE X G W (.Constant (.str x) j pos) (tC (.str x)) (mC (.str x)) := ⟨fun tk => pe_str, simC fun _ _ => .str x⟩
/-- a global of the program: r by its value -/
theorem je_glob {x : Str} {v : V} {u : Value} {d : D} {pos : Pos} (hg : Gl X x) (hm : X.mg x = some u) (r : RelV v u) (h : ∀ H μ, Rp G G.K H μ v d) (hd : (x == ("__debug__" : Str)) = false := by decide) : JE X G W (.Name x pos) (tC v) (mC d) :=
  ⟨fun tk => pe_glob hg hm r hd, simC h⟩

/-! ### operators -/
def SimR (G : Gm) (K : PySem.W.Frag) (r : R2) (f : D → D → Sto → R D) : Prop :=
  ∀ (H : Hp) (μ : Mu) (s : Sto) (x y : V) (d e : D) (W : Value → Option Addr → Hp → Prop), RS G K H μ s → Rp G K H μ x d → Rp G K H μ y e → okP G K (r x y H) W H μ (Rp G K) (f d e s)
def mOp (f : D → D → Sto → R D) (ma mb : ME) : ME := fun l s => (ma l s).bind fun d s1 => (mb l s1).bind fun e s2 => f d e s2
theorem sim_op {r : R2} {f : D → D → Sto → R D} {ta tb : TE} {ma mb : ME} {a b : Expr} (hs : SimR G G.K r f) (ha : JE X G W a ta ma) (hb : JE X G W b tb mb) :
    ∀ (σ : L2.St) (H : Hp) (μ : Mu) (l : Loc) (s : Sto), RL G G.K H μ σ l → RS G G.K H μ s → okP G G.K (tOp r ta tb σ H) (fun c d H' => W c d σ H') H μ (Rp G G.K) (mOp f ma mb l s) := by
  intro σ H μ l s hl hs0
  refine (ha.sim σ H μ l s hl hs0).bind fun x H1 μ1 d s1 g1 r1 p1 => ?_
  refine (hb.sim σ H1 μ1 l s1 (hl.mono g1) r1).bind fun y H2 μ2 e s2 g2 r2 p2 => ?_
  exact hs H2 μ2 s2 x y d e _ r2 (p1.mono g2) p2
theorem je_op {op : Operator} {r : R2} {f : D → D → Sto → R D} {ta tb : TE} {ma mb : ME} {a b : Expr} {pos : Pos} (ho : OpR X (binaryOp op) r) (hs : SimR G G.K r f) (ha : JE X G W a ta ma) (hb : JE X G W b tb mb) : JE X G W (.BinOp a op b pos) (tOp r ta tb) (mOp f ma mb) :=
  ⟨fun tk => pe_op ho (ha.pe tk) (hb.pe tk), sim_op hs ha hb⟩
theorem je_cmp {op : CmpOp} {r : R2} {f : D → D → Sto → R D} {ta tb : TE} {ma mb : ME} {a b : Expr} {pos : Pos} (ho : OpR X (compareOp op) r) (hs : SimR G G.K r f) (ha : JE X G W a ta ma) (hb : JE X G W b tb mb)
    (hm : behindInMarks op b = false := by first | exact nomark _ | rfl) : JE X G W (.Compare a [op] [b] pos) (tOp r ta tb) (mOp f ma mb) :=
  ⟨fun tk => pe_cmpR ho (ha.pe tk) (hb.pe tk) hm, sim_op hs ha hb⟩
/-- a test by a bool -/
def mTest (m : ME) : MT := fun l s => (m l s).bind fun d s1 => match d with
  | .bl b => .ok b s1
  | _ => .stuck
theorem sim_test {t : TE} {m : ME} {e : Expr} (h : JE X G W e t m) :
    ∀ (σ : L2.St) (H : Hp) (μ : Mu) (l : Loc) (s : Sto), RL G G.K H μ σ l → RS G G.K H μ s → okP G G.K (tTest t σ H) (fun c d H' => W c d σ H') H μ BEq2 (mTest m l s) := by
  intro σ H μ l s hl hs0
  refine (h.sim σ H μ l s hl hs0).bind fun x H1 μ1 d s1 g1 r1 p1 => ?_
  cases p1 with
  | bl b => exact fun Q q => ⟨b, rfl, q b H1 μ1 Grow.refl r1 rfl⟩
  | _ => trivial
theorem jt_cmp {op : CmpOp} {r : R2} {f : D → D → Sto → R D} {ta tb : TE} {ma mb : ME} {a b : Expr} {pos : Pos} (ho : OpR X (compareOp op) r) (hs : SimR G G.K r f) (ha : JE X G W a ta ma) (hb : JE X G W b tb mb)
    (hm : behindInMarks op b = false := by first | exact nomark _ | rfl) : JT X G W (.Compare a [op] [b] pos) (tTest (tOp r ta tb)) (mTest (mOp f ma mb)) :=
  ⟨fun tk => pt_cmpR ho (ha.pe tk) (hb.pe tk) hm, sim_test (je_cmp (pos := pos) ho hs ha hb hm)⟩
/-- an expression that gives a bool -/
theorem jt_val {e : Expr} {t : TE} {m : ME} (h : JE X G W e t m) (he : ∀ whole, isTrue e X.env whole = (do let v ← whole; standAt e.pos; holding [v] (truthy v)) := by intro _; rfl) : JT X G W e (tB t) (mTest m) :=
  ⟨fun tk => pt_val (h.pe tk) he, sim_test h⟩

theorem OpR.or {f : Value → Value → Sem Value} {r r' : R2} (h : OpR X f r) (h' : OpR X f r') : OpR X f (fun x y H Q => r x y H Q ∨ r' x y H Q) := by
  intro pins s σ H x y v u Q I rx ry q
  rcases q with q | q
  · exact h pins s σ H x y v u Q I rx ry q
  · exact h' pins s σ H x y v u Q I rx ry q
theorem PE.or {e : Expr} {t t' : TE} (h : PE X e t) (h' : PE X e t') : PE X e (fun σ H Q => t σ H Q ∨ t' σ H Q) := by
  refine ⟨fun pins s σ H Q I q => ?_⟩
  rcases q with q | q
  · exact h.run pins s σ H Q I q
  · exact h'.run pins s σ H Q I q

/-! ### and, or, not, if -/
def mAnd (m n : MT) : MT := fun l s => (m l s).bind fun b s1 => match b with
  | true => n l s1
  | false => .ok false s1
def mOr (m n : MT) : MT := fun l s => (m l s).bind fun b s1 => match b with
  | true => .ok true s1
  | false => n l s1
def mNot (m : MT) : MT := fun l s => (m l s).bind fun b s1 => .ok (!b) s1
def mIf (c : MT) (m n : ME) : ME := fun l s => (c l s).bind fun b s1 => match b with
  | true => m l s1
  | false => n l s1
section
variable {a b c : Expr} {rest : List Expr} {pos : Pos} {ta tb : TT} {ma mb : MT} {te tf : TE} {me mf : ME}
theorem jw_and1 (h : JT X G W a ta ma) : JW X G W (.BoolOp .And [a] pos) ta ma := ⟨fun tk => pw_and1 (h.pe tk), h.sim⟩
theorem jw_or1 (h : JT X G W a ta ma) : JW X G W (.BoolOp .Or [a] pos) ta ma := ⟨fun tk => pw_or1 (h.pe tk), h.sim⟩
theorem jw_and (ha : JT X G W a ta ma) (hb : JW X G W (.BoolOp .And (b :: rest) pos) tb mb) : JW X G W (.BoolOp .And (a :: b :: rest) pos) (tAnd ta tb) (mAnd ma mb) := by
  refine ⟨fun tk => pw_and (ha.pe tk) (hb.pe tk), fun σ H μ l s hl hs => (ha.sim σ H μ l s hl hs).bind fun x H1 μ1 d s1 g1 r1 p1 => ?_⟩
  subst p1
  cases x with
  | true => simpa using hb.sim σ H1 μ1 l s1 (hl.mono g1) r1
  | false => exact fun Q q => by simpa using q false H1 μ1 Grow.refl r1 rfl
theorem jw_or (ha : JT X G W a ta ma) (hb : JW X G W (.BoolOp .Or (b :: rest) pos) tb mb) : JW X G W (.BoolOp .Or (a :: b :: rest) pos) (tOr ta tb) (mOr ma mb) := by
  refine ⟨fun tk => pw_or (ha.pe tk) (hb.pe tk), fun σ H μ l s hl hs => (ha.sim σ H μ l s hl hs).bind fun x H1 μ1 d s1 g1 r1 p1 => ?_⟩
  subst p1
  cases x with
  | true => exact fun Q q => by simpa using q true H1 μ1 Grow.refl r1 rfl
  | false => simpa using hb.sim σ H1 μ1 l s1 (hl.mono g1) r1
theorem jt_not (ha : JT X G W a ta ma) : JT X G W (.UnaryOp .Not a pos) (tNot ta) (mNot ma) := by
  refine ⟨fun tk => pt_not (ha.pe tk), fun σ H μ l s hl hs => (ha.sim σ H μ l s hl hs).bind fun x H1 μ1 d s1 g1 r1 p1 => ?_⟩
  subst p1
  exact fun Q q => q (!x) H1 μ1 Grow.refl r1 rfl
theorem je_if {c : Expr} (hc : JT X G W c ta ma) (ha : JE X G W a te me) (hb : JE X G W b tf mf) : JE X G W (.IfExp c a b pos) (tIf ta te tf) (mIf ma me mf) := by
  refine ⟨fun tk => pe_ifExp (hc.pe tk) (ha.pe tk) (hb.pe tk), fun σ H μ l s hl hs => (hc.sim σ H μ l s hl hs).bind fun x H1 μ1 d s1 g1 r1 p1 => ?_⟩
  subst p1
  cases x with
  | true => simpa using ha.sim σ H1 μ1 l s1 (hl.mono g1) r1
  | false => simpa using hb.sim σ H1 μ1 l s1 (hl.mono g1) r1
/-- a and b, a or b as values; all but the last are bools -/
def mAndV (m n : ME) : ME := fun l s => (m l s).bind fun d s1 => match d with
  | .bl true => n l s1
  | .bl false => .ok (.bl false) s1
  | _ => .stuck
def mOrV (m n : ME) : ME := fun l s => (m l s).bind fun d s1 => match d with
  | .bl true => .ok (.bl true) s1
  | .bl false => n l s1
  | _ => .stuck
def mNotV (m : ME) : ME := fun l s => (m l s).bind fun d s1 => match d with
  | .bl b => .ok (.bl (!b)) s1
  | _ => .stuck
theorem je_one {op} (h : JE X G W a te me) : JE X G W (.BoolOp op [a] pos) te me := ⟨fun tk => pe_one (h.pe tk), h.sim⟩
theorem je_and (ha : JE X G W a te me) (hb : JE X G W (.BoolOp .And (b :: rest) pos) tf mf) : JE X G W (.BoolOp .And (a :: b :: rest) pos) (tAndV te tf) (mAndV me mf) := by
  refine ⟨fun tk => pe_and (ha.pe tk) (hb.pe tk), fun σ H μ l s hl hs => (ha.sim σ H μ l s hl hs).bind fun x H1 μ1 d s1 g1 r1 p1 => ?_⟩
  cases p1 with
  | bl k =>
    cases k with
    | true =>
      have z := hb.sim σ H1 μ1 l s1 (hl.mono g1) r1
      have e : (fun Q : VK => ∃ c, V.bl true = V.bl c ∧ if c = true then tf σ H1 Q else Q (.bl false) H1) = tf σ H1 := by
        funext Q
        apply propext
        constructor
        · rintro ⟨c, h, q⟩; cases h; simpa using q
        · exact fun q => ⟨true, rfl, by simpa using q⟩
      show okP G G.K (fun Q : VK => ∃ c, V.bl true = V.bl c ∧ if c = true then tf σ H1 Q else Q (.bl false) H1) _ _ _ _ _
      rw [e]; exact z
    | false => exact fun Q q => ⟨false, rfl, by simpa using q _ H1 μ1 Grow.refl r1 (.bl false)⟩
  | _ => trivial
theorem je_or (ha : JE X G W a te me) (hb : JE X G W (.BoolOp .Or (b :: rest) pos) tf mf) : JE X G W (.BoolOp .Or (a :: b :: rest) pos) (tOrV te tf) (mOrV me mf) := by
  refine ⟨fun tk => pe_or (ha.pe tk) (hb.pe tk), fun σ H μ l s hl hs => (ha.sim σ H μ l s hl hs).bind fun x H1 μ1 d s1 g1 r1 p1 => ?_⟩
  cases p1 with
  | bl k =>
    cases k with
    | false =>
      have z := hb.sim σ H1 μ1 l s1 (hl.mono g1) r1
      have e : (fun Q : VK => ∃ c, V.bl false = V.bl c ∧ if c = true then Q (.bl true) H1 else tf σ H1 Q) = tf σ H1 := by
        funext Q
        apply propext
        constructor
        · rintro ⟨c, h, q⟩; cases h; simpa using q
        · exact fun q => ⟨false, rfl, by simpa using q⟩
      show okP G G.K (fun Q : VK => ∃ c, V.bl false = V.bl c ∧ if c = true then Q (.bl true) H1 else tf σ H1 Q) _ _ _ _ _
      rw [e]; exact z
    | true => exact fun Q q => ⟨true, rfl, by simpa using q _ H1 μ1 Grow.refl r1 (.bl true)⟩
  | _ => trivial
theorem je_not (ha : JE X G W a te me) : JE X G W (.UnaryOp .Not a pos) (tNotV te) (mNotV me) := by
  refine ⟨fun tk => pe_not (ha.pe tk), fun σ H μ l s hl hs => (ha.sim σ H μ l s hl hs).bind fun x H1 μ1 d s1 g1 r1 p1 => ?_⟩
  cases p1 with
  | bl k => exact fun Q q => ⟨k, rfl, q _ H1 μ1 Grow.refl r1 (.bl (!k))⟩
  | _ => trivial
end

/-! ### arguments, tuples, lists -/
def mNil : MA := fun _ s => .ok [] s
def mCons (m : ME) (ms : MA) : MA := fun l s => (m l s).bind fun d s1 => (ms l s1).bind fun ds s2 => .ok (d :: ds) s2
theorem ja_nil : JA X G W [] tNil mNil := ⟨fun tk => pa_nil, fun σ H μ l s hl hs Q q => q [] H μ Grow.refl hs .nil⟩
theorem ja_cons {e : Expr} {es : List Expr} {te : TE} {t : TA} {me : ME} {m : MA} (ha : JE X G W e te me) (hr : JA X G W es t m) (hs : starEach (e :: es) X.env = (false, eval e X.env) :: starEach es X.env := by rfl) : JA X G W (e :: es) (tCons te t) (mCons me m) := by
  refine ⟨fun tk => pa_cons (ha.pe tk) (hr.pe tk) hs, fun σ H μ l s hl hs => (ha.sim σ H μ l s hl hs).bind fun x H1 μ1 d s1 g1 r1 p1 => ?_⟩
  refine (hr.sim σ H1 μ1 l s1 (hl.mono g1) r1).bind fun xs H2 μ2 ds s2 g2 r2 p2 => ?_
  exact fun Q q => q (x :: xs) H2 μ2 Grow.refl r2 (.cons (p1.mono g2) p2)
def mTup (m : MA) : ME := fun l s => (m l s).bind fun ds s1 => if ds.length ≤ 100000 then .ok (.tup ds) s1 else .stuck
def mLst (m : MA) : ME := fun l s => (m l s).bind fun ds s1 => if ds.length ≤ 100000 then .ok (.lst ds) s1 else .stuck
/-- a new list that is tracked -/
def mNew (m : MA) : ME := fun l s => (m l s).bind fun ds s1 => if ds.length ≤ 100000 then .ok (.ref s1.length) (s1 ++ [.lst ds]) else .stuck
theorem le_line {n : Nat} (h : n ≤ 100000) : n ≤ sizeLine := Nat.le_trans h (by decide)
theorem lt_line {n : Nat} (h : n < 100000) : n < sizeLine := Nat.lt_of_lt_of_le h (by decide)
theorem newT {H : Hp} {μ : Mu} {s : Sto} {vs : List V} {ds : List D} (r : RS G G.K H μ s) (p : RpA G G.K H μ vs ds) {Q : VK} (q : ∀ b H' μ', Grow H μ H' μ' → RS G G.K H' μ' s → Rp G G.K H' μ' b (.tup ds) → Q b H') : ∀ a, H a = none → Q (.ref a) (upd H a (.tup vs)) :=
  fun a ha => q _ _ μ (r.galloc ha) (r.alloc ha) (.tup upd_same (r.notin ha) (p.mono (r.galloc ha)))
theorem newL {H : Hp} {μ : Mu} {s : Sto} {vs : List V} {ds : List D} (r : RS G G.K H μ s) (p : RpA G G.K H μ vs ds) {Q : VK} (q : ∀ b H' μ', Grow H μ H' μ' → RS G G.K H' μ' s → Rp G G.K H' μ' b (.lst ds) → Q b H') : ∀ a, H a = none → Q (.ref a) (upd H a (.lst vs)) :=
  fun a ha => q _ _ μ (r.galloc ha) (r.alloc ha) (.lst upd_same (r.notin ha) (p.mono (r.galloc ha)))
theorem newR {H : Hp} {μ : Mu} {s : Sto} {vs : List V} {ds : List D} (r : RS G G.K H μ s) (p : RpA G G.K H μ vs ds) {Q : VK} (q : ∀ b H' μ', Grow H μ H' μ' → RS G G.K H' μ' (s ++ [.lst ds]) → Rp G G.K H' μ' b (.ref s.length) → Q b H') : ∀ a, H a = none → Q (.ref a) (upd H a (.lst vs)) :=
  fun a ha => q _ _ (μ.add a) (r.gtrack ha) (r.track ha ⟨vs, upd_same, p.mono (r.gtrack ha)⟩) (.ref (by show (μ.tr ++ [a])[s.length]? = some a; rw [← r.len, List.getElem?_append_right (Nat.le_refl _), Nat.sub_self]; rfl))
theorem je_tup {es : List Expr} {t : TA} {m : MA} {x1} {pos : Pos} (h : JA X G W es t m) : JE X G W (.Tuple es x1 pos) (tTup t) (mTup m) := by
  refine ⟨fun tk => pe_tup (h.pe tk), fun σ H μ l s hl hs => (h.sim σ H μ l s hl hs).bind fun xs H1 μ1 ds s1 g1 r1 p1 => ?_⟩
  split
  · rename_i hz
    exact fun Q q => ⟨le_line (by rw [p1.length]; exact hz), newT r1 p1 q⟩
  · trivial
theorem je_lst {es : List Expr} {t : TA} {m : MA} {pos : Pos} (h : JA X G W es t m) : JE X G W (.List es pos) (tLst t) (mLst m) := by
  refine ⟨fun tk => pe_lst (h.pe tk), fun σ H μ l s hl hs => (h.sim σ H μ l s hl hs).bind fun xs H1 μ1 ds s1 g1 r1 p1 => ?_⟩
  split
  · rename_i hz
    exact fun Q q => ⟨le_line (by rw [p1.length]; exact hz), newL r1 p1 q⟩
  · trivial
theorem je_new {es : List Expr} {t : TA} {m : MA} {pos : Pos} (h : JA X G W es t m) : JE X G W (.List es pos) (tLst t) (mNew m) := by
  refine ⟨fun tk => pe_lst (h.pe tk), fun σ H μ l s hl hs => (h.sim σ H μ l s hl hs).bind fun xs H1 μ1 ds s1 g1 r1 p1 => ?_⟩
  split
  · rename_i hz
    exact fun Q q => ⟨le_line (by rw [p1.length]; exact hz), newR r1 p1 q⟩
  · trivial
end

/-! ### reading lists and tuples -/
/-- a list's items: frozen or tracked -/
def rdL (s : Sto) : D → Option (List D)
  | .lst xs => some xs
  | .ref n => match s[n]? with
    | some (.lst xs) => some xs
    | _ => none
  | _ => none
/-- .. a list's, a tuple's, the script's -/
def rdS (s : Sto) : D → Option (List D)
  | .lst xs => some xs
  | .tup xs => some xs
  | .scr xs => some (xs.map D.int)
  | .ref n => match s[n]? with
    | some (.lst xs) => some xs
    | _ => none
  | _ => none
section
variable {G : Gm} {K : PySem.W.Frag} {H : Hp} {μ : Mu} {s : Sto} {v : V} {d : D} {ds : List D}
theorem rdL_ok (r : RS G K H μ s) (p : Rp G K H μ v d) (h : rdL s d = some ds) : ∃ a vs, v = .ref a ∧ H a = some (.lst vs) ∧ RpA G K H μ vs ds := by
  cases p with
  | lst h1 h2 h3 =>
    simp only [rdL, Option.some.injEq] at h
    subst h
    exact ⟨_, _, rfl, h1, h3⟩
  | @ref n a h1 =>
    unfold rdL at h
    cases e : s[n]? with
    | none => simp only [e] at h; cases h
    | some o =>
      cases o with
      | lst xs =>
        simp only [e, Option.some.injEq] at h
        subst h
        obtain ⟨vs, q1, q2⟩ := r.at_ n a _ h1 e
        exact ⟨a, vs, rfl, q1, q2⟩
      | dK _ => simp only [e] at h; cases h
      | dT _ => simp only [e] at h; cases h
  | _ => cases h
theorem rdS_ok (r : RS G K H μ s) (p : Rp G K H μ v d) (h : rdS s d = some ds) : ∃ a vs, v = .ref a ∧ (SqL K H a vs ∨ SqT K H a vs) ∧ RpA G K H μ vs ds := by
  cases p with
  | lst h1 h2 h3 =>
    simp only [rdS, Option.some.injEq] at h
    subst h
    exact ⟨_, _, rfl, .inl (SqL.of h1), h3⟩
  | tup h1 h2 h3 =>
    simp only [rdS, Option.some.injEq] at h
    subst h
    exact ⟨_, _, rfl, .inr (SqT.of h1), h3⟩
  | tupK h1 h2 h3 h4 h5 h6 =>
    simp only [rdS, Option.some.injEq] at h
    subst h
    exact ⟨_, _, rfl, .inr (.inr ⟨_, _, _, h1, h2, h3, h4, h5⟩), h6⟩
  | @scr a o xs h1 h2 =>
    simp only [rdS, Option.some.injEq] at h
    subst h
    exact ⟨_, _, rfl, .inl (.inl (.inr ⟨o, h1⟩)), RpA.ints xs⟩
  | @scrK a o its n xs h1 h2 h3 h4 h5 h6 =>
    simp only [rdS, Option.some.injEq] at h
    subst h
    exact ⟨_, _, rfl, .inl (.inr ⟨o, its, n, h1, h2, h3, h4, h5, h6⟩), RpA.ints xs⟩
  | @ref n a h1 =>
    unfold rdS at h
    cases e : s[n]? with
    | none => simp only [e] at h; cases h
    | some o =>
      cases o with
      | lst xs =>
        simp only [e, Option.some.injEq] at h
        subst h
        obtain ⟨vs, q1, q2⟩ := r.at_ n a _ h1 e
        exact ⟨a, vs, rfl, .inl (SqL.of q1), q2⟩
      | dK _ => simp only [e] at h; cases h
      | dT _ => simp only [e] at h; cases h
  | _ => cases h
end
end DL


namespace DL
open PySem PySem.Spec PyProof.Rows L2

/-! ### ints -/
def mulOk (i j : Int) : Bool := decide (i.natAbs < 2 ^ 64) || decide (j.natAbs < 2 ^ 64) || decide (i.natAbs.log2 + j.natAbs.log2 < 1000000)
def divOk (j : Int) : Bool := decide (j ≠ 0) && decide (j.natAbs.log2 < 9000)
def powOk (i j : Int) : Bool := decide (0 ≤ j) && decide (j ≤ 1000000) && decide (i.natAbs < 2 ^ 64)
def subD : D → D → Sto → R D
  | .int i, .int j, s => .ok (.int (i - j)) s
  | _, _, _ => .stuck
def mulD : D → D → Sto → R D
  | .int i, .int j, s => if mulOk i j = true then .ok (.int (i * j)) s else .stuck
  | .lst xs, .int j, s => if xs.length * j.toNat ≤ 100000 ∧ -100000 ≤ j ∧ j ≤ 100000 then .ok (.lst (List.replicate j.toNat xs).flatten) s else .stuck
  | .tup xs, .int j, s => if xs ≠ [] ∧ 2 ≤ j ∧ j ≤ 1000 ∧ xs.length ≤ 1000 then .ok (.tup (List.replicate j.toNat xs).flatten) s else .stuck
  | _, _, _ => .stuck
/-- the new list is tracked -/
def mulN : D → D → Sto → R D
  | .lst xs, .int j, s => if xs.length * j.toNat ≤ 100000 ∧ -100000 ≤ j ∧ j ≤ 100000 then .ok (.ref s.length) (s ++ [.lst (List.replicate j.toNat xs).flatten]) else .stuck
  | _, _, _ => .stuck
def fdivD : D → D → Sto → R D
  | .int i, .int j, s => if divOk j = true then .ok (.int (i.fdiv j)) s else .stuck
  | _, _, _ => .stuck
def modD : D → D → Sto → R D
  | .int i, .int j, s => if j = 0 then .stuck else .ok (.int (i.fmod j)) s
  | _, _, _ => .stuck
def powD : D → D → Sto → R D
  | .int i, .int j, s => if powOk i j = true then .ok (.int (i ^ j.toNat)) s else .stuck
  | _, _, _ => .stuck
def shlD : D → D → Sto → R D
  | .int i, .int j, s => if powOk i j = true then .ok (.int (i * 2 ^ j.toNat)) s else .stuck
  | _, _, _ => .stuck
def shrD : D → D → Sto → R D
  | .int i, .int j, s => if 0 ≤ j then .ok (.int (i / 2 ^ j.toNat)) s else .stuck
  | _, _, _ => .stuck
def andD : D → D → Sto → R D
  | .int i, .int j, s => .ok (.int (Builtin.bitAnd i j)) s
  | _, _, _ => .stuck
/-- a + b -/
def addD (x y : D) (s : Sto) : R D := match x, y with
  | .int i, .int j => .ok (.int (i + j)) s
  | .str a, .str b => if a.length + b.length ≤ 100000 then .ok (.str (a ++ b)) s else .stuck
  | .tup xs, .tup ys => if xs ≠ [] ∧ xs.length + ys.length ≤ 100000 then .ok (.tup (xs ++ ys)) s else .stuck
  | x, y => match rdL s x, rdL s y with
    | some xs, some ys => if xs.length + ys.length ≤ 100000 then .ok (.lst (xs ++ ys)) s else .stuck
    | _, _ => .stuck

section
variable {X : Cx} {G : Gm} {K : PySem.W.Frag}
def rMulA (K : PySem.W.Frag) : R2 := fun x y H Q => rI CMul (fun i j => .int (i * j)) x y H Q ∨ rI CMulW (fun i j => .int (i * j)) x y H Q ∨ rRep x y H Q ∨ rRepT K x y H Q
theorem op_mulA (hK : X.K = K) : OpR X (binaryOp .Mult) (rMulA K) := hK ▸ DL.OpR.or op_mul (DL.OpR.or op_mulW (DL.OpR.or op_rep op_repT))
def CDivA (_ j : Int) : Prop := j ≠ 0 ∧ j.natAbs.log2 < 9000
theorem op_fdivA : OpR X (binaryOp .FloorDiv) (rI CDivA fun i j => .int (i.fdiv j)) := opI fun _ _ _ _ _ _ _ hc q => floordiv_int hc.1 q (.inl (PyProof.noPylong_of_log2 hc.2))
def rAddA (K : PySem.W.Frag) : R2 := fun x y H Q => rI0 (fun i j => .int (i + j)) x y H Q ∨ (∃ i j, x = .str i ∧ y = .str j ∧ i.length + j.length ≤ sizeLine ∧ Q (.str (i ++ j)) H) ∨ rCatT K x y H Q ∨ rCat x y H Q
theorem op_addA (hK : X.K = K) : OpR X (binaryOp .Add) (rAddA K) := hK ▸ DL.OpR.or op_add (DL.OpR.or op_add_str (DL.OpR.or op_catT op_cat))
theorem op_eqK (hK : X.K = K) (hu : X.A.units + 64 < cLine) : OpR X (compareOp .Eq) (rEqD K) := hK ▸ op_eqD hu
theorem op_neK (hK : X.K = K) (hu : X.A.units + 64 < cLine) : OpR X (compareOp .NotEq) (rNeD K) := hK ▸ op_neD hu

theorem now {t : VK → Prop} {W : Value → Option Addr → Hp → Prop} {H : Hp} {μ : Mu} {s : Sto} {v : V} {d : D} (r : RS G K H μ s) (p : Rp G K H μ v d) (h : ∀ Q : VK, Q v H → t Q) : okP G K t W H μ (Rp G K) (.ok d s) :=
  fun Q q => h Q (q v H μ Grow.refl r p)

theorem s_sub : SimR G K (rI0 fun i j => .int (i - j)) subD := by
  intro H μ s x y d e W r p q
  cases p <;> cases q <;> first | exact trivial | skip
  exact now r (.int _) fun Q z => ⟨_, _, rfl, rfl, z⟩
theorem newTG {H : Hp} {μ : Mu} {s : Sto} {vs : List V} {ds : List D} (r : RS G K H μ s) (p : RpA G K H μ vs ds) {Q : VK} (q : ∀ b H' μ', Grow H μ H' μ' → RS G K H' μ' s → Rp G K H' μ' b (.tup ds) → Q b H') : ∀ a, H a = none → Q (.ref a) (upd H a (.tup vs)) :=
  fun a ha => q _ _ μ (r.galloc ha) (r.alloc ha) (.tup upd_same (r.notin ha) (p.mono (r.galloc ha)))
theorem newLG {H : Hp} {μ : Mu} {s : Sto} {vs : List V} {ds : List D} (r : RS G K H μ s) (p : RpA G K H μ vs ds) {Q : VK} (q : ∀ b H' μ', Grow H μ H' μ' → RS G K H' μ' s → Rp G K H' μ' b (.lst ds) → Q b H') : ∀ a, H a = none → Q (.ref a) (upd H a (.lst vs)) :=
  fun a ha => q _ _ μ (r.galloc ha) (r.alloc ha) (.lst upd_same (r.notin ha) (p.mono (r.galloc ha)))
theorem newRG {H : Hp} {μ : Mu} {s : Sto} {vs : List V} {ds : List D} (r : RS G K H μ s) (p : RpA G K H μ vs ds) {Q : VK} (q : ∀ b H' μ', Grow H μ H' μ' → RS G K H' μ' (s ++ [.lst ds]) → Rp G K H' μ' b (.ref s.length) → Q b H') : ∀ a, H a = none → Q (.ref a) (upd H a (.lst vs)) :=
  fun a ha => q _ _ (μ.add a) (r.gtrack ha) (r.track ha ⟨vs, upd_same, p.mono (r.gtrack ha)⟩) (.ref (by show (μ.tr ++ [a])[s.length]? = some a; rw [← r.len, List.getElem?_append_right (Nat.le_refl _), Nat.sub_self]; rfl))
theorem mulOk_or {i j : Int} (h : mulOk i j = true) : CMul i j ∨ CMulW i j := by
  unfold mulOk at h
  simp only [Bool.or_eq_true, decide_eq_true_eq] at h
  rcases h with (h | h) | h
  · left; left; omega
  · left; right; omega
  · exact .inr h
theorem s_mulN : SimR G K (rMulA K) mulN := by
  intro H μ s x y d e W r p q
  cases p <;> cases q <;> first | exact trivial | skip
  rename_i a vs ds h1 h2 h3 j
  simp only [mulN]
  split
  · rename_i h
    obtain ⟨z1, z2, z3⟩ := h
    exact fun Q q => .inr (.inr (.inl ⟨_, j, vs, rfl, rfl, h1, by omega, by omega, le_line (by rw [h3.length]; exact z1), newRG r (h3.replicate _) q⟩))
  · trivial
theorem s_fdiv : SimR G K (rI CDivA fun i j => .int (i.fdiv j)) fdivD := by
  intro H μ s x y d e W r p q
  cases p <;> cases q <;> first | exact trivial | skip
  simp only [fdivD]
  split
  · rename_i h
    unfold divOk at h
    simp only [Bool.and_eq_true, decide_eq_true_eq] at h
    exact now r (.int _) fun Q z => ⟨_, _, rfl, rfl, h, z⟩
  · trivial
theorem s_mod : SimR G K (rI (fun _ j => j ≠ 0) fun i j => .int (i.fmod j)) modD := by
  intro H μ s x y d e W r p q
  cases p <;> cases q <;> first | exact trivial | skip
  simp only [modD]
  split
  · trivial
  · rename_i h
    exact now r (.int _) fun Q z => ⟨_, _, rfl, rfl, h, z⟩
theorem powOk_of {i j : Int} (h : powOk i j = true) : CPow i j := by
  unfold powOk at h
  simp only [Bool.and_eq_true, decide_eq_true_eq] at h
  exact ⟨h.1.1, h.1.2, h.2⟩
theorem s_pow : SimR G K (rI CPow fun i j => .int (i ^ j.toNat)) powD := by
  intro H μ s x y d e W r p q
  cases p <;> cases q <;> first | exact trivial | skip
  simp only [powD]
  split
  · rename_i h
    exact now r (.int _) fun Q z => ⟨_, _, rfl, rfl, powOk_of h, z⟩
  · trivial
theorem s_shl : SimR G K (rI CPow fun i j => .int (i * 2 ^ j.toNat)) shlD := by
  intro H μ s x y d e W r p q
  cases p <;> cases q <;> first | exact trivial | skip
  simp only [shlD]
  split
  · rename_i h
    exact now r (.int _) fun Q z => ⟨_, _, rfl, rfl, powOk_of h, z⟩
  · trivial
theorem s_shr : SimR G K (rI (fun _ j => 0 ≤ j) fun i j => .int (i / 2 ^ j.toNat)) shrD := by
  intro H μ s x y d e W r p q
  cases p <;> cases q <;> first | exact trivial | skip
  simp only [shrD]
  split
  · rename_i h
    exact now r (.int _) fun Q z => ⟨_, _, rfl, rfl, h, z⟩
  · trivial
theorem s_and : SimR G K (rI0 fun i j => .int (Builtin.bitAnd i j)) andD := by
  intro H μ s x y d e W r p q
  cases p <;> cases q <;> first | exact trivial | skip
  exact now r (.int _) fun Q z => ⟨_, _, rfl, rfl, z⟩
theorem addLists {H : Hp} {μ : Mu} {s : Sto} {x y : V} {d e : D} {W : Value → Option Addr → Hp → Prop} (r : RS G K H μ s) (p : Rp G K H μ x d) (q : Rp G K H μ y e) :
    okP G K (rAddA K x y H) W H μ (Rp G K) (match rdL s d, rdL s e with
      | some xs, some ys => if xs.length + ys.length ≤ 100000 then .ok (.lst (xs ++ ys)) s else .stuck
      | _, _ => .stuck) := by
  cases e1 : rdL s d with
  | none => trivial
  | some xs =>
    cases e2 : rdL s e with
    | none => trivial
    | some ys =>
      dsimp only
      split
      · rename_i hz
        obtain ⟨a, vs, rfl, h1, p1⟩ := rdL_ok r p e1
        obtain ⟨b, us, rfl, h2, p2⟩ := rdL_ok r q e2
        exact fun Q k => .inr (.inr (.inr ⟨a, b, vs, us, rfl, rfl, h1, h2, le_line (by rw [p1.length, p2.length]; exact hz), newLG r (p1.append p2) k⟩))
      · trivial
theorem SqT_of {H : Hp} {μ : Mu} {v : V} {ds : List D} (p : Rp G K H μ v (.tup ds)) : ∃ a vs, v = .ref a ∧ SqT K H a vs ∧ RpA G K H μ vs ds := by
  cases p with
  | tup h1 h2 h3 => exact ⟨_, _, rfl, SqT.of h1, h3⟩
  | tupK h1 h2 h3 h4 h5 h6 => exact ⟨_, _, rfl, .inr ⟨_, _, _, h1, h2, h3, h4, h5⟩, h6⟩
theorem RpA.nil_iff {H : Hp} {μ : Mu} {vs : List V} {ds : List D} (p : RpA G K H μ vs ds) : vs = [] ↔ ds = [] := by
  cases p <;> simp
theorem s_mul : SimR G K (rMulA K) mulD := by
  intro H μ s x y d e W r p q
  unfold mulD
  split
  · cases p; cases q
    split
    · rename_i h
      rcases mulOk_or h with h | h
      · exact now r (.int _) fun Q z => .inl ⟨_, _, rfl, rfl, h, z⟩
      · exact now r (.int _) fun Q z => .inr (.inl ⟨_, _, rfl, rfl, h, z⟩)
    · trivial
  · cases p
    rename_i a vs h1 h2 h3
    cases q
    split
    · rename_i h
      obtain ⟨z1, z2, z3⟩ := h
      exact fun Q q => .inr (.inr (.inl ⟨_, _, vs, rfl, rfl, h1, by omega, by omega, le_line (by rw [h3.length]; exact z1), newLG r (h3.replicate _) q⟩))
    · trivial
  · cases q
    split
    · rename_i h
      obtain ⟨hn, z1, z2, z3⟩ := h
      obtain ⟨a, vs, rfl, h1, p1⟩ := SqT_of p
      exact fun Q k => .inr (.inr (.inr ⟨a, _, vs, rfl, rfl, h1, fun z => hn (p1.nil_iff.mp z), z1, z2, by rw [p1.length]; exact z3, newTG r (p1.replicate _) k⟩))
    · trivial
  · trivial
theorem s_add : SimR G K (rAddA K) addD := by
  intro H μ s x y d e W r p q
  unfold addD
  split
  · cases p; cases q
    exact now r (.int _) fun Q z => .inl ⟨_, _, rfl, rfl, z⟩
  · cases p; cases q
    split
    · rename_i h
      exact now r (.str _) fun Q z => .inr (.inl ⟨_, _, rfl, rfl, le_line h, z⟩)
    · trivial
  · split
    · rename_i xs ys h
      obtain ⟨hn, hz⟩ := h
      obtain ⟨a, vs, rfl, h1, p1⟩ := SqT_of p
      obtain ⟨b, us, rfl, h2, p2⟩ := SqT_of q
      refine fun Q k => .inr (.inr (.inl ⟨a, b, vs, us, rfl, rfl, h1, h2, fun z => hn (p1.nil_iff.mp z), le_line (by rw [p1.length, p2.length]; exact hz), fun z => ?_, fun _ => newTG r (p1.append p2) k⟩))
      have : ys = [] := p2.nil_iff.mp z
      subst this
      rw [List.append_nil] at k
      exact k _ _ μ Grow.refl r p
    · trivial
  · exact addLists r p q

/-! ### unary -/
def mUn (f : D → Sto → R D) (m : ME) : ME := fun l s => (m l s).bind fun d s1 => f d s1
def negD : D → Sto → R D
  | .int i, s => .ok (.int (-i)) s
  | _, _ => .stuck
theorem je_neg {W : WX} {e : Expr} {t : TE} {m : ME} {pos : Pos} (h : JE X G W e t m) : JE X G W (.UnaryOp .USub e pos) (tUn (rU fun i => .int (-i)) t) (mUn negD m) := by
  refine ⟨fun tk => pe_un un_neg (h.pe tk), fun σ H μ l s hl hs => (h.sim σ H μ l s hl hs).bind fun x H1 μ1 d s1 g1 r1 p1 => ?_⟩
  cases p1 <;> first | exact trivial | skip
  exact now r1 (.int _) fun Q z => ⟨_, rfl, z⟩

/-! ### comparisons -/
def cmpD (p : Int → Int → Bool) : D → D → Sto → R D
  | .int i, .int j, s => .ok (.bl (p i j)) s
  | _, _, _ => .stuck
theorem s_cmp {p : Int → Int → Bool} : SimR G K (rI0 fun i j => .bl (p i j)) (cmpD p) := by
  intro H μ s x y d e W r p q
  cases p <;> cases q <;> first | exact trivial | skip
  exact now r (.bl _) fun Q z => ⟨_, _, rfl, rfl, z⟩
abbrev ltD := cmpD fun i j => decide (i < j)
abbrev leD := cmpD fun i j => decide (i ≤ j)
abbrev gtD := cmpD fun i j => decide (j < i)
abbrev geD := cmpD fun i j => decide (j ≤ i)
def isND : D → D → Sto → R D
  | .non, .non, s => .ok (.bl true) s
  | _, .non, s => .ok (.bl false) s
  | _, _, _ => .stuck
def notND : D → D → Sto → R D
  | .non, .non, s => .ok (.bl false) s
  | _, .non, s => .ok (.bl true) s
  | _, _, _ => .stuck
theorem s_isN : SimR G K (fun x y H Q => y = .non ∧ Q (.bl (decide (x = .non))) H) isND := by
  intro H μ s x y d e W r p q
  cases q <;> cases p <;> first | exact trivial | skip
  all_goals first
    | exact now r (.bl true) fun Q z => ⟨rfl, by simpa using z⟩
    | exact now r (.bl false) fun Q z => ⟨rfl, by simpa using z⟩
theorem s_notN : SimR G K (fun x y H Q => y = .non ∧ Q (.bl (!decide (x = .non))) H) notND := by
  intro H μ s x y d e W r p q
  cases q <;> cases p <;> first | exact trivial | skip
  all_goals first
    | exact now r (.bl true) fun Q z => ⟨rfl, by simpa using z⟩
    | exact now r (.bl false) fun Q z => ⟨rfl, by simpa using z⟩
end

/-! ### a < b < c -/
def mChain (f g : D → D → Sto → R D) (ma mb mc : ME) : ME := fun l s => (ma l s).bind fun x s1 => (mb l s1).bind fun y s2 => (f x y s2).bind fun z s3 => match z with
  | .bl true => (mc l s3).bind fun u s4 => g y u s4
  | .bl false => .ok (.bl false) s3
  | _ => .stuck
section
variable {X : Cx} {G : Gm} {W : WX} {a b c : Expr} {ta tb tc : TE} {ma mb mc : ME} {op op' : CmpOp} {r r' : R2} {f g : D → D → Sto → R D} {pos : Pos}
theorem sim_chain (hs : SimR G G.K r f) (hs' : SimR G G.K r' g) (ha : JE X G W a ta ma) (hb : JE X G W b tb mb) (hc : JE X G W c tc mc) :
    ∀ (σ : L2.St) (H : Hp) (μ : Mu) (l : Loc) (s : Sto), RL G G.K H μ σ l → RS G G.K H μ s → okP G G.K (tChain r r' ta tb tc σ H) (fun c d H' => W c d σ H') H μ (Rp G G.K) (mChain f g ma mb mc l s) := by
  intro σ H μ l s hl hs0
  refine (ha.sim σ H μ l s hl hs0).bind fun x H1 μ1 d s1 g1 r1 p1 => ?_
  refine (hb.sim σ H1 μ1 l s1 (hl.mono g1) r1).bind (u := fun y H2 Q => r x y H2 fun z H3 => ∃ k, z = .bl k ∧ (if k = true then tc σ H3 fun w' H4 => r' y w' H4 Q else Q (.bl false) H3)) fun y H2 μ2 e s2 g2 r2 p2 => ?_
  refine (hs H2 μ2 s2 x y d e _ r2 (p1.mono g2) p2).bind (u := fun z H3 Q => ∃ k, z = .bl k ∧ (if k = true then tc σ H3 fun w' H4 => r' y w' H4 Q else Q (.bl false) H3)) fun z H3 μ3 zd s3 g3 r3 p3 => ?_
  cases p3 <;> first | exact trivial | skip
  rename_i k
  cases k with
  | false => exact fun Q q => ⟨false, rfl, by simpa using q _ H3 μ3 Grow.refl r3 (.bl false)⟩
  | true =>
    have z := (hc.sim σ H3 μ3 l s3 (((hl.mono g1).mono g2).mono g3) r3).bind (u := fun w' H4 Q => r' y w' H4 Q) fun u H4 μ4 ud s4 g4 r4 p4 => hs' H4 μ4 s4 y u e ud _ r4 ((p2.mono g3).mono g4) p4
    have e : (fun Q : VK => ∃ k, V.bl true = V.bl k ∧ (if k = true then tc σ H3 fun w' H4 => r' y w' H4 Q else Q (.bl false) H3)) = fun Q : VK => tc σ H3 fun w' H4 => r' y w' H4 Q := by
      funext Q
      apply propext
      constructor
      · rintro ⟨c, h, q⟩; cases h; simpa using q
      · exact fun q => ⟨true, rfl, by simpa using q⟩
    show okP G G.K (fun Q : VK => ∃ k, V.bl true = V.bl k ∧ (if k = true then tc σ H3 fun w' H4 => r' y w' H4 Q else Q (.bl false) H3)) _ _ _ _ _
    rw [e]
    exact z
theorem je_chain (ho : OpR X (compareOp op) r) (hs : SimR G G.K r f) (ho' : OpR X (compareOp op') r') (hs' : SimR G G.K r' g) (ha : JE X G W a ta ma) (hb : JE X G W b tb mb) (hc : JE X G W c tc mc)
    (hm : lastMarks [op, op'] [b, c] = false := by with_unfolding_all rfl) : JE X G W (.Compare a [op, op'] [b, c] pos) (tChain r r' ta tb tc) (mChain f g ma mb mc) := ⟨fun tk => pe_chain ho ho' (ha.pe tk) (hb.pe tk) (hc.pe tk) hm, sim_chain hs hs' ha hb hc⟩
theorem jt_chain (ho : OpR X (compareOp op) r) (hs : SimR G G.K r f) (ho' : OpR X (compareOp op') r') (hs' : SimR G G.K r' g) (ha : JE X G W a ta ma) (hb : JE X G W b tb mb) (hc : JE X G W c tc mc)
    (hm : lastMarks [op, op'] [b, c] = false := by with_unfolding_all rfl) : JT X G W (.Compare a [op, op'] [b, c] pos) (tTest (tChain r r' ta tb tc)) (mTest (mChain f g ma mb mc)) :=
  ⟨fun tk => pt_chain ho ho' (ha.pe tk) (hb.pe tk) (hc.pe tk) hm, sim_test (je_chain (pos := pos) ho hs ho' hs' ha hb hc hm)⟩
end

/-! ### == -/
mutual
def toPy (s : Sto) : D → Option PyData
  | .non => some .none
  | .bl b => some (.bool b)
  | .int i => some (.int i)
  | .str x => if x.length ≤ 100000 then some (.str x) else none
  | .tup xs => (toPyA s xs).map .tuple
  | .lst xs => (toPyA s xs).map .list
  | .scr _ => none
  | .ref _ => none
  | .fn _ => none
def toPyA (s : Sto) : List D → Option (List PyData)
  | [] => some []
  | x :: xs => match toPy s x, toPyA s xs with
    | some y, some ys => some (y :: ys)
    | _, _ => none
end
/-- a tracked list at the top -/
def toPyR (s : Sto) : D → Option PyData
  | .ref n => match s[n]? with
    | some (.lst xs) => (toPyA s xs).map .list
    | _ => none
  | d => toPy s d
def eqB (s : Sto) (d e : D) : Option Bool := match toPyR s d, toPyR s e with
  | some a, some b => if SeqAt.shaped a = true ∧ SeqAt.shaped b = true then some (PyData.eqv a b) else none
  | _, _ => none
def eqD (d e : D) (s : Sto) : R D := match eqB s d e with
  | some b => .ok (.bl b) s
  | none => .stuck
def neD (d e : D) (s : Sto) : R D := match eqB s d e with
  | some b => .ok (.bl (!b)) s
  | none => .stuck
section
variable {X : Cx} {G : Gm} {K : PySem.W.Frag} {H : Hp} {μ : Mu} {s : Sto}
mutual
theorem toPy_dp : ∀ {v : V} {d : D} {a : PyData}, Rp G K H μ v d → toPy s d = some a → Dp K H v a
  | _, _, _, .non, h => by simp only [toPy, Option.some.injEq] at h; subst h; exact .non
  | _, _, _, .bl b, h => by simp only [toPy, Option.some.injEq] at h; subst h; exact .bl b
  | _, _, _, .int i, h => by simp only [toPy, Option.some.injEq] at h; subst h; exact .int i
  | _, _, _, .str x, h => by
    simp only [toPy] at h
    split at h
    · cases h; exact .str x
    · cases h
  | _, _, _, .tup h1 h2 h3, h => by
    simp only [toPy, Option.map_eq_some_iff] at h
    obtain ⟨ys, h, rfl⟩ := h
    exact .tup (SqT.of h1) (toPyA_dp h3 h)
  | _, _, _, .tupK h1 h2 h3 h4 h5 h6, h => by
    simp only [toPy, Option.map_eq_some_iff] at h
    obtain ⟨ys, h, rfl⟩ := h
    exact .tup (.inr ⟨_, _, _, h1, h2, h3, h4, h5⟩) (toPyA_dp h6 h)
  | _, _, _, .lst h1 h2 h3, h => by
    simp only [toPy, Option.map_eq_some_iff] at h
    obtain ⟨ys, h, rfl⟩ := h
    exact .lst (SqL.of h1) (toPyA_dp h3 h)
  | _, _, _, .scr _ _, h => by simp [toPy] at h
  | _, _, _, .scrK _ _ _ _ _ _, h => by simp [toPy] at h
  | _, _, _, .ref _, h => by simp [toPy] at h
  | _, _, _, .fn _, h => by simp [toPy] at h
theorem toPyA_dp : ∀ {vs : List V} {ds : List D} {as : List PyData}, RpA G K H μ vs ds → toPyA s ds = some as → DpAll K H vs as
  | _, _, _, .nil, h => by simp only [toPyA, Option.some.injEq] at h; subst h; exact .nil
  | _, _, _, .cons (d := d) (ds := ds) a r, h => by
    simp only [toPyA] at h
    cases e1 : toPy s d with
    | none => rw [e1] at h; cases h
    | some y =>
      cases e2 : toPyA s ds with
      | none => rw [e1, e2] at h; cases h
      | some ys =>
        rw [e1, e2] at h
        cases h
        exact .cons (toPy_dp a e1) (toPyA_dp r e2)
end
theorem toPyR_dp {v : V} {d : D} {a : PyData} (r : RS G K H μ s) (p : Rp G K H μ v d) (h : toPyR s d = some a) : Dp K H v a := by
  cases d with
  | ref n =>
    cases p with
    | @ref n q h1 =>
      unfold toPyR at h
      cases e : s[n]? with
      | none => simp only [e] at h; cases h
      | some o =>
        cases o with
        | lst xs =>
          simp only [e, Option.map_eq_some_iff] at h
          obtain ⟨ys, h, rfl⟩ := h
          obtain ⟨vs, q1, q2⟩ := r.at_ n q _ h1 e
          exact .lst (SqL.of q1) (toPyA_dp q2 h)
        | dK _ => simp only [e] at h; cases h
        | dT _ => simp only [e] at h; cases h
  | _ => exact toPy_dp (s := s) p h
theorem s_eq : SimR G K (rEqD K) eqD := by
  intro H μ s x y d e W r p q
  unfold eqD eqB
  cases e1 : toPyR s d with
  | none => trivial
  | some a =>
    cases e2 : toPyR s e with
    | none => trivial
    | some b =>
      dsimp only
      by_cases h : SeqAt.shaped a = true ∧ SeqAt.shaped b = true
      · rw [if_pos h]
        exact now r (.bl _) fun Q z => ⟨a, b, toPyR_dp r p e1, toPyR_dp r q e2, h.1, h.2, z⟩
      · rw [if_neg h]; trivial
theorem s_ne : SimR G K (rNeD K) neD := by
  intro H μ s x y d e W r p q
  unfold neD eqB
  cases e1 : toPyR s d with
  | none => trivial
  | some a =>
    cases e2 : toPyR s e with
    | none => trivial
    | some b =>
      dsimp only
      by_cases h : SeqAt.shaped a = true ∧ SeqAt.shaped b = true
      · rw [if_pos h]
        exact now r (.bl _) fun Q z => ⟨a, b, toPyR_dp r p e1, toPyR_dp r q e2, h.1, h.2, z⟩
      · rw [if_neg h]; trivial
end
end DL


namespace DL
open PySem PySem.Spec PyProof.Rows L2

/-! ### xs[i] -/
def ixD (d e : D) (s : Sto) : R D := match e with
  | .int i => match d with
    | .str x => if x.length ≤ 100000 then match atI x.cps.toList i with
        | some c => .ok (.str ⟨#[c]⟩) s
        | none => .stuck
      else .stuck
    | d => match rdS s d with
      | some ds => match atI ds i with
        | some v => .ok v s
        | none => .stuck
      | none => .stuck
  | _ => .stuck
section
variable {X : Cx} {G : Gm} {K : PySem.W.Frag} {H : Hp} {μ : Mu} {s : Sto} {W : WX}
theorem atI_rel {vs : List V} {ds : List D} {i : Int} {d : D} (r : RpA G K H μ vs ds) (h : atI ds i = some d) : ∃ v, atI vs i = some v ∧ Rp G K H μ v d := by
  unfold atI at h ⊢
  rw [r.length]
  cases e : ixN ds.length i with
  | none => rw [e] at h; cases h
  | some j =>
    rw [e] at h
    exact r.get h
theorem s_ix : SimR G K (rIx K) ixD := by
  intro H μ s x y d e W r p q
  unfold ixD
  cases e with
  | int i =>
    cases q
    have key : okP G K (rIx K x (.int i) H) W H μ (Rp G K) (match rdS s d with
      | some ds => match atI ds i with
        | some v => .ok v s
        | none => .stuck
      | none => .stuck) := by
      cases e1 : rdS s d with
      | none => trivial
      | some ds =>
        dsimp only
        cases e2 : atI ds i with
        | none => trivial
        | some z =>
          obtain ⟨a, vs, rfl, h1, p1⟩ := rdS_ok r p e1
          obtain ⟨v, h2, h3⟩ := atI_rel p1 e2
          rcases h1 with h1 | h1
          · exact now r h3 fun Q q => .inl ⟨a, vs, i, v, rfl, rfl, h1, h2, q⟩
          · exact now r h3 fun Q q => .inr (.inl ⟨a, vs, i, v, rfl, rfl, h1, h2, q⟩)
    cases d with
    | str z =>
      cases p
      dsimp only
      split
      · rename_i hz
        cases e2 : atI z.cps.toList i with
        | none => trivial
        | some c => exact now r (.str _) fun Q q => .inr (.inr ⟨z, i, c, rfl, rfl, le_line hz, e2, q⟩)
      · trivial
    | _ => exact key
  | _ => trivial
theorem je_ix {a b : Expr} {ta tb : TE} {ma mb : ME} {pos : Pos} (ha : JE X G W a ta ma) (hb : JE X G W b tb mb) (hp : PlainIx b := by exact fun _ _ => rfl) (hK : X.K = G.K := by rfl) : JE X G W (.Subscript a b pos) (tOp (rIx G.K) ta tb) (mOp ixD ma mb) :=
  ⟨fun tk => pe_ix (hK ▸ ix_seq) (ha.pe tk) (hb.pe tk) hp, sim_op s_ix ha hb⟩

/-! ### xs[a:b] -/
theorem getItem_tuple_whole {prog : Program} {w : World} {A : Around} {E : Value → Shared → Prop} {s : Shared} {t sl : Addr} {items : Array Value} {vl vu : Value} {lo hi : Option Int} {Q : Value → Shared → Prop} (ht : IsTup s.heap t items) (hs : s.heap.IsSliceOf sl vl vu .none) (pl : IsPart vl lo) (pu : IsPart vu hi)
    (hw : HT.sIx items.size 0 lo = 0 ∧ HT.sIx items.size items.size hi = items.size) (h : Q (.ref t) s) : wpAny (model prog w) A (getItem (.ref t) (.ref sl)) Q E s := by
  obtain ⟨os, hos, hcs, hds⟩ := id hs
  have hTs : s.TypeIs (.ref sl) "slice" := ⟨os, hos, hcs⟩
  unfold getItem
  try with_reducible refine wpAny_holding ?_
  first | refine wpAny_bind (wpAny_pure ?_) | skip
  refine wpAny_bind (wpAny_sequenceKey ht.typeIs (by decide) ?_)
  refine wpAny_bind (wpAny_callSpecial?_slot (name := Str.ofString "__getitem__") ht.typeIs PyProof.Rows.slot_tuple_getitem
    (wpAny_call_entry PyProof.Rows.slot_tuple_getitem ht.typeIs entry_tuple_getitem ?_ (args_tuple_getitem _ _)))
  show wpAny _ _ (Builtin.Tuple.tupleItemsOf (.ref t) >>= _) _ _ s
  refine wpAny_bind (tupleItemsOf_ ht ?_)
  refine wpAny_bind (wpAny_typeOf hTs ?_)
  rw [if_pos (by decide)]
  refine wpAny_bind (HT.sliceApplied_gen hs pl pu ?_)
  have hyes : (((HT.sIx items.size 0 lo : Nat) : Int) == 0 && (1 : Int) == 1 && (HT.sIx items.size items.size hi - HT.sIx items.size 0 lo) == items.size) = true := by
    rw [hw.1, hw.2]; simp
  show wpAny _ _ (if (((HT.sIx items.size 0 lo : Nat) : Int) == 0 && (1 : Int) == 1 && (HT.sIx items.size items.size hi - HT.sIx items.size 0 lo) == items.size) = true then _ else _) _ _ s
  rw [if_pos hyes]
  refine wpAny_bind (wpAny_bind (wpAny_typeOf ht.typeIs (wpAny_pure ?_)))
  rw [if_pos (by decide)]
  first
    | exact wpAny_bind (wpAny_pure (wpAny_bind (wpAny_pure (wpAny_pure ⟨_, rfl, wpAny_pure h⟩))))
    | exact wpAny_pure ⟨_, rfl, wpAny_pure h⟩
    | exact wpAny_bind (wpAny_rule (wpAny_pure ⟨_, rfl, wpAny_pure h⟩))
def rSlW (K : PySem.W.Frag) : V → Option Int → Option Int → Hp → VK → Prop := fun x lo hi H Q => ∃ a xs, x = .ref a ∧ SqT K H a xs ∧ (HT.sIx xs.length 0 lo = 0 ∧ HT.sIx xs.length xs.length hi = xs.length) ∧ Q (.ref a) H
theorem sl_tupW : SlR X (rSlW X.K) := by
  intro pins s σ H x v vl vu lo hi sl Q I rx hs pl pu h
  obtain ⟨a, xs, rfl, hx, hw, q⟩ := h
  cases rx
  obtain ⟨its, r, ht, hz⟩ := I.tuple hx
  have hlen : its.toArray.size = xs.length := by rw [List.size_toArray]; exact r.length.symm
  refine ⟨"tuple", _, PyProof.Rows.slot_tuple_getitem.lookup, ht.typeIs, ?_⟩
  exact getItem_tuple_whole ht hs pl pu (by rw [hlen]; exact hw) ⟨.ref a, H, I, rfl, q⟩
def rSlA (K : PySem.W.Frag) : V → Option Int → Option Int → Hp → VK → Prop := fun x lo hi H Q => rSlL K x lo hi H Q ∨ rSlT K x lo hi H Q ∨ rSlW K x lo hi H Q ∨ rSlS x lo hi H Q
theorem sl_any (hK : X.K = K) : SlR X (rSlA K) := hK ▸ sl_list.or (sl_tup.or (sl_tupW.or sl_str))
def cutD (xs : List D) (lo hi : Option Int) : List D := (xs.drop (HT.sIx xs.length 0 lo)).take (HT.sIx xs.length xs.length hi - HT.sIx xs.length 0 lo)
theorem RpA.cut {vs : List V} {ds : List D} (r : RpA G K H μ vs ds) (lo hi : Option Int) : RpA G K H μ (cutV vs lo hi) (cutD ds lo hi) := by
  unfold cutV cutD
  rw [r.length]
  exact (r.drop _).take _
abbrev MO := Loc → Sto → R (Option Int)
structure JO (X : Cx) (G : Gm) (W : WX) (e : Option Expr) (t : TO) (m : MO) : Prop where
  pe : Takes X W → PO X e t
  sim : ∀ (σ : L2.St) (H : Hp) (μ : Mu) (l : Loc) (s : Sto), RL G G.K H μ σ l → RS G G.K H μ s → okP G G.K (t σ H) (fun c d H' => W c d σ H') H μ (fun _ _ b a => b = a) (m l s)
def mNoPart : MO := fun _ s => .ok none s
def mPart (m : ME) : MO := fun l s => (m l s).bind fun d s1 => match d with
  | .int i => .ok (some i) s1
  | _ => .stuck
theorem jo_none : JO X G W none tNoPart mNoPart := ⟨fun tk => po_none, fun σ H μ l s hl hs Q q => q none H μ Grow.refl hs rfl⟩
theorem jo_some {e : Expr} {t : TE} {m : ME} (h : JE X G W e t m) : JO X G W (some e) (tPart t) (mPart m) := by
  refine ⟨fun tk => po_some (h.pe tk), fun σ H μ l s hl hs => (h.sim σ H μ l s hl hs).bind fun x H1 μ1 d s1 g1 r1 p1 => ?_⟩
  cases p1 with
  | int i => exact fun Q q => ⟨i, rfl, q _ H1 μ1 Grow.refl r1 rfl⟩
  | _ => trivial
def slD (d : D) (lo hi : Option Int) (s : Sto) : R D := match d with
  | .str x => if x.length ≤ 100000 then .ok (.str (cutS x lo hi)) s else .stuck
  | .tup xs => .ok (.tup (cutD xs lo hi)) s
  | d => match rdL s d with
    | some xs => .ok (.lst (cutD xs lo hi)) s
    | none => .stuck
/-- the new list tracked -/
def slN (d : D) (lo hi : Option Int) (s : Sto) : R D := match rdL s d with
    | some xs => .ok (.ref s.length) (s ++ [.lst (cutD xs lo hi)])
    | none => .stuck
def mSl (f : D → Option Int → Option Int → Sto → R D) (m : ME) (ml mh : MO) : ME := fun l s => (m l s).bind fun d s1 => (ml l s1).bind fun lo s2 => (mh l s2).bind fun hi s3 => f d lo hi s3
theorem cutD_whole {xs : List D} {lo hi : Option Int} (h : HT.sIx xs.length 0 lo = 0 ∧ HT.sIx xs.length xs.length hi = xs.length) : cutD xs lo hi = xs := by
  unfold cutD
  rw [h.1, h.2, List.drop_zero, Nat.sub_zero, List.take_length]
theorem je_slF {f : D → Option Int → Option Int → Sto → R D} {e : Expr} {lo hi : Option Expr} {t : TE} {tl th : TO} {m : ME} {ml mh : MO} {p2 pos : Pos}
    (hf : ∀ (H : Hp) (μ : Mu) (s : Sto) (v : V) (d : D) (lo hi : Option Int) (W : Value → Option Addr → Hp → Prop), RS G G.K H μ s → Rp G G.K H μ v d → okP G G.K (rSlA G.K v lo hi H) W H μ (Rp G G.K) (f d lo hi s))
    (h : JE X G W e t m) (hl : JO X G W lo tl ml) (hh : JO X G W hi th mh) (hK : X.K = G.K) : JE X G W (.Subscript e (.Slice lo hi none p2) pos) (tSl (rSlA G.K) t tl th) (mSl f m ml mh) := by
  refine ⟨fun tk => pe_slice (sl_any hK) (h.pe tk) (hl.pe tk) (hh.pe tk), fun σ H μ l s hl0 hs => (h.sim σ H μ l s hl0 hs).bind fun x H1 μ1 d s1 g1 r1 p1 => ?_⟩
  refine (hl.sim σ H1 μ1 l s1 (hl0.mono g1) r1).bind fun lo H2 μ2 lo' s2 g2 r2 p2 => ?_
  subst p2
  refine (hh.sim σ H2 μ2 l s2 ((hl0.mono g1).mono g2) r2).bind fun hi H3 μ3 hi' s3 g3 r3 p3 => ?_
  subst p3
  exact hf H3 μ3 s3 x d lo hi _ r3 ((p1.mono g2).mono g3)
theorem s_sl (H : Hp) (μ : Mu) (s : Sto) (v : V) (d : D) (lo hi : Option Int) (W : Value → Option Addr → Hp → Prop) (r : RS G K H μ s) (p : Rp G K H μ v d) : okP G K (rSlA K v lo hi H) W H μ (Rp G K) (slD d lo hi s) := by
  have key : okP G K (rSlA K v lo hi H) W H μ (Rp G K) (match rdL s d with
    | some xs => .ok (.lst (cutD xs lo hi)) s
    | none => .stuck) := by
    cases e : rdL s d with
    | none => trivial
    | some xs =>
      obtain ⟨a, vs, rfl, h1, p1⟩ := rdL_ok r p e
      exact fun Q q => .inl ⟨a, vs, rfl, SqL.of h1, newLG r (p1.cut lo hi) q⟩
  unfold slD
  cases d with
  | str x =>
    cases p
    dsimp only
    split
    · rename_i hz
      exact now r (.str _) fun Q q => .inr (.inr (.inr ⟨x, rfl, le_line hz, q⟩))
    · trivial
  | tup xs =>
    obtain ⟨a, vs, rfl, h1, p1⟩ := SqT_of p
    dsimp only
    by_cases hw : HT.sIx vs.length 0 lo = 0 ∧ HT.sIx vs.length vs.length hi = vs.length
    · rw [cutD_whole (by rw [← p1.length]; exact hw)]
      exact now r p fun Q q => .inr (.inr (.inl ⟨a, vs, rfl, h1, hw, q⟩))
    · exact fun Q q => .inr (.inl ⟨a, vs, rfl, h1, hw, newTG r (p1.cut lo hi) q⟩)
  | _ => exact key
theorem s_slN (H : Hp) (μ : Mu) (s : Sto) (v : V) (d : D) (lo hi : Option Int) (W : Value → Option Addr → Hp → Prop) (r : RS G K H μ s) (p : Rp G K H μ v d) : okP G K (rSlA K v lo hi H) W H μ (Rp G K) (slN d lo hi s) := by
  unfold slN
  cases e : rdL s d with
  | none => trivial
  | some xs =>
    obtain ⟨a, vs, rfl, h1, p1⟩ := rdL_ok r p e
    exact fun Q q => .inl ⟨a, vs, rfl, SqL.of h1, newRG r (p1.cut lo hi) q⟩
theorem je_sl {e : Expr} {lo hi : Option Expr} {t : TE} {tl th : TO} {m : ME} {ml mh : MO} {p2 pos : Pos} (h : JE X G W e t m) (hl : JO X G W lo tl ml) (hh : JO X G W hi th mh) (hK : X.K = G.K := by rfl) : JE X G W (.Subscript e (.Slice lo hi none p2) pos) (tSl (rSlA G.K) t tl th) (mSl slD m ml mh) := je_slF s_sl h hl hh hK
theorem je_slN {e : Expr} {lo hi : Option Expr} {t : TE} {tl th : TO} {m : ME} {ml mh : MO} {p2 pos : Pos} (h : JE X G W e t m) (hl : JO X G W lo tl ml) (hh : JO X G W hi th mh) (hK : X.K = G.K := by rfl) : JE X G W (.Subscript e (.Slice lo hi none p2) pos) (tSl (rSlA G.K) t tl th) (mSl slN m ml mh) := je_slF s_slN h hl hh hK

/-! ### built-in functions -/
def SimC (G : Gm) (K : PySem.W.Frag) (r : List V → Hp → VK → Prop) (f : List D → Sto → R D) : Prop :=
  ∀ (H : Hp) (μ : Mu) (s : Sto) (vs : List V) (ds : List D) (W : Value → Option Addr → Hp → Prop), RS G K H μ s → RpA G K H μ vs ds → okP G K (r vs H) W H μ (Rp G K) (f ds s)
def mCB (f : List D → Sto → R D) (m : MA) : ME := fun l s => (m l s).bind f
theorem sim_cb {r : List V → Hp → VK → Prop} {f : List D → Sto → R D} {es : List Expr} {t : TA} {m : MA} (hs : SimC G G.K r f) (ha : JA X G W es t m) :
    ∀ (σ : L2.St) (H : Hp) (μ : Mu) (l : Loc) (s : Sto), RL G G.K H μ σ l → RS G G.K H μ s → okP G G.K (tCB r t σ H) (fun c d H' => W c d σ H') H μ (Rp G G.K) (mCB f m l s) :=
  fun σ H μ l s hl hs0 => (ha.sim σ H μ l s hl hs0).bind fun xs H1 μ1 ds s1 g1 r1 p1 => hs H1 μ1 s1 xs ds _ r1 p1
section
variable {x : Str} {p pos : Pos} {e : Expr} {es : List Expr} {t : TA} {m : MA} {id T : String} {r : List V → Hp → VK → Prop} {f : List D → Sto → R D}
theorem je_cb (hc : CallR X (.builtin id) r) (hs : SimC G G.K r f) (hm : X.mg x = none) (ha : JA X G W (e :: es) t m) (hg : Gl X x := by rfl) (hv : bootBuiltins x = some (.builtin id) := by decide +kernel) (hn : x ≠ "__name__" := by decide) (hdb : (x == ("__debug__" : Str)) = false := by decide)
    (he : starEach (e :: es) X.env = (false, eval e X.env) :: starEach es X.env := by rfl) (hpl : (backTo pos (starEach es X.env)).any (·.1) = false := by rfl) : JE X G W (.Call (.Name x p) (e :: es) [] pos) (tCB r t) (mCB f m) :=
  ⟨fun tk => pe_callB hc hg hm hv (ha.pe tk) hn hdb he hpl, sim_cb hs ha⟩
theorem je_ct (hc : CallR X (.type T) r) (hs : SimC G G.K r f) (hm : X.mg x = none) (ha : JA X G W (e :: es) t m) (hg : Gl X x := by rfl) (hv : bootBuiltins x = some (.type T) := by decide +kernel) (hn : x ≠ "__name__" := by decide) (hdb : (x == ("__debug__" : Str)) = false := by decide)
    (he : starEach (e :: es) X.env = (false, eval e X.env) :: starEach es X.env := by rfl) (hpl : (backTo pos (starEach es X.env)).any (·.1) = false := by rfl) : JE X G W (.Call (.Name x p) (e :: es) [] pos) (tCB r t) (mCB f m) :=
  ⟨fun tk => pe_callTy hc hg hm hv (ha.pe tk) hn hdb he hpl, sim_cb hs ha⟩
end

theorem CallR.or {f : Value} {r r' : List V → Hp → VK → Prop} (h : CallR X f r) (h' : CallR X f r') : CallR X f (fun xs H Q => r xs H Q ∨ r' xs H Q) := by
  intro pins s σ H xs us Q I rx q
  rcases q with q | q
  · exact h pins s σ H xs us Q I rx q
  · exact h' pins s σ H xs us Q I rx q

def absF : List D → Sto → R D
  | [.int i], s => .ok (.int (if i < 0 then -i else i)) s
  | _, _ => .stuck
theorem sc_abs : SimC G K (fun xs H Q => ∃ i, xs = [.int i] ∧ Q (.int (if i < 0 then -i else i)) H) absF := by
  intro H μ s vs ds W r p
  unfold absF
  split
  · cases p with | cons a b => cases a; cases b; exact now r (.int _) fun Q q => ⟨_, rfl, q⟩
  · trivial
def intF : List D → Sto → R D
  | [.int i], s => .ok (.int i) s
  | [.bl b], s => .ok (.int (if b then 1 else 0)) s
  | _, _ => .stuck
theorem sc_int : SimC G K (fun xs H Q => (∃ i, xs = [.int i] ∧ Q (.int i) H) ∨ ∃ k, xs = [.bl k] ∧ Q (.int (if k then 1 else 0)) H) intF := by
  intro H μ s vs ds W r p
  unfold intF
  split
  · cases p with | cons a b => cases a; cases b; exact now r (.int _) fun Q q => .inl ⟨_, rfl, q⟩
  · cases p with | cons a b => cases a; cases b; exact now r (.int _) fun Q q => .inr ⟨_, rfl, q⟩
  · trivial
def max2F : List D → Sto → R D
  | [.int i, .int j], s => .ok (.int (if j > i then j else i)) s
  | _, _ => .stuck
theorem sc_max2 : SimC G K (fun xs H Q => ∃ i j, xs = [.int i, .int j] ∧ Q (.int (if j > i then j else i)) H) max2F := by
  intro H μ s vs ds W r p
  unfold max2F
  split
  · cases p with | cons a b => cases a; cases b with | cons a b => cases a; cases b; exact now r (.int _) fun Q q => ⟨_, _, rfl, q⟩
  · trivial
def min2F : List D → Sto → R D
  | [.int i, .int j], s => .ok (.int (if j < i then j else i)) s
  | _, _ => .stuck
theorem sc_min2 : SimC G K (fun xs H Q => ∃ i j, xs = [.int i, .int j] ∧ Q (.int (if j < i then j else i)) H) min2F := by
  intro H μ s vs ds W r p
  unfold min2F
  split
  · cases p with | cons a b => cases a; cases b with | cons a b => cases a; cases b; exact now r (.int _) fun Q q => ⟨_, _, rfl, q⟩
  · trivial
theorem RpA.one {vs : List V} {d : D} (p : RpA G K H μ vs [d]) : ∃ v, vs = [v] ∧ Rp G K H μ v d := by
  cases p with | cons a b => cases b; exact ⟨_, rfl, a⟩
theorem RpA.two {vs : List V} {d e : D} (p : RpA G K H μ vs [d, e]) : ∃ v u, vs = [v, u] ∧ Rp G K H μ v d ∧ Rp G K H μ u e := by
  cases p with | cons a b => cases b with | cons c b => cases b; exact ⟨_, _, rfl, a, c⟩
def lenF : List D → Sto → R D
  | [.str x], s => if x.length ≤ 100000 then .ok (.int x.length) s else .stuck
  | [d], s => match rdS s d with
    | some xs => .ok (.int xs.length) s
    | none => .stuck
  | _, _ => .stuck
def rLenA (K : PySem.W.Frag) : List V → Hp → VK → Prop := fun xs H Q => (∃ z, xs = [.str z] ∧ z.length ≤ sizeLine ∧ Q (.int z.length) H) ∨ (∃ p ys, xs = [.ref p] ∧ (SqL K H p ys ∨ SqT K H p ys) ∧ Q (.int ys.length) H)
theorem call_lenA (hK : X.K = K) : CallR X (.builtin "len") (rLenA K) := hK ▸ DL.CallR.or call_len_str call_len_seq
def rTupleA (K : PySem.W.Frag) : List V → Hp → VK → Prop := fun xs H Q => ∃ p ys, xs = [.ref p] ∧ ((SqL K H p ys ∧ ∀ l, H l = none → Q (.ref l) (upd H l (.tup ys))) ∨ (SqT K H p ys ∧ Q (.ref p) H))
def rListA (K : PySem.W.Frag) : List V → Hp → VK → Prop := fun xs H Q => ∃ p ys, xs = [.ref p] ∧ (SqL K H p ys ∨ SqT K H p ys) ∧ ∀ l, H l = none → Q (.ref l) (upd H l (.lst ys))
theorem call_tupleK (hK : X.K = K) : CallR X (.type "tuple") (rTupleA K) := hK ▸ call_tuple_of
theorem call_listK (hK : X.K = K) : CallR X (.type "list") (rListA K) := hK ▸ call_list_of
theorem cr_allK (hK : X.K = K) (hc : X.calm = true) : CallR X (.builtin "all") (rAll K) := hK ▸ cr_all hc
theorem cr_anyK (hK : X.K = K) (hc : X.calm = true) : CallR X (.builtin "any") (rAny K) := hK ▸ cr_any hc
theorem cr_sumK (hK : X.K = K) (hc : X.calm = true) : CallR X (.builtin "sum") (rSum K) := hK ▸ cr_sum hc
theorem call_isiK2 (hK : X.K = K) : CallR X (.builtin "isinstance") (rIsi K) := hK ▸ call_isi
theorem sc_len : SimC G K (rLenA K) lenF := by
  intro H μ s vs ds W r p
  unfold lenF
  split
  · obtain ⟨v, rfl, p0⟩ := p.one
    cases p0
    split
    · rename_i hz
      exact now r (.int _) fun Q q => .inl ⟨_, rfl, le_line hz, q⟩
    · trivial
  · rename_i d hd
    obtain ⟨v, rfl, p0⟩ := p.one
    cases e : rdS _ d with
    | none => trivial
    | some xs =>
      obtain ⟨a, vs, rfl, h1, p1⟩ := rdS_ok r p0 e
      exact now r (.int _) fun Q q => .inr ⟨a, vs, rfl, h1, by rw [p1.length]; exact q⟩
  · trivial
def tupleF : List D → Sto → R D
  | [.tup xs], s => .ok (.tup xs) s
  | [d], s => match rdL s d with
    | some xs => .ok (.tup xs) s
    | none => .stuck
  | _, _ => .stuck
theorem sc_tuple : SimC G K (rTupleA K) tupleF := by
  intro H μ s vs ds W r p
  unfold tupleF
  split
  · obtain ⟨v, rfl, p0⟩ := p.one
    obtain ⟨a, vs, rfl, h1, p1⟩ := SqT_of p0
    exact now r p0 fun Q q => ⟨a, vs, rfl, .inr ⟨h1, q⟩⟩
  · rename_i d hd
    obtain ⟨v, rfl, p0⟩ := p.one
    cases e : rdL _ d with
    | none => trivial
    | some xs =>
      obtain ⟨a, vs, rfl, h1, p1⟩ := rdL_ok r p0 e
      exact fun Q q => ⟨a, vs, rfl, .inl ⟨SqL.of h1, newTG r p1 q⟩⟩
  · trivial
def listF : List D → Sto → R D
  | [d], s => match rdS s d with
    | some xs => .ok (.lst xs) s
    | none => .stuck
  | _, _ => .stuck
def listN : List D → Sto → R D
  | [d], s => match rdS s d with
    | some xs => .ok (.ref s.length) (s ++ [.lst xs])
    | none => .stuck
  | _, _ => .stuck
theorem sc_list : SimC G K (rListA K) listF := by
  intro H μ s vs ds W r p
  unfold listF
  split
  · rename_i d
    obtain ⟨v, rfl, p0⟩ := p.one
    cases e : rdS _ d with
    | none => trivial
    | some xs =>
      obtain ⟨a, vs, rfl, h1, p1⟩ := rdS_ok r p0 e
      exact fun Q q => ⟨a, vs, rfl, h1, newLG r p1 q⟩
  · trivial
theorem sc_listN : SimC G K (rListA K) listN := by
  intro H μ s vs ds W r p
  unfold listN
  split
  · rename_i d
    obtain ⟨v, rfl, p0⟩ := p.one
    cases e : rdS _ d with
    | none => trivial
    | some xs =>
      obtain ⟨a, vs, rfl, h1, p1⟩ := rdS_ok r p0 e
      exact fun Q q => ⟨a, vs, rfl, h1, newRG r p1 q⟩
  · trivial
/-- all boolsD, all intsD -/
def boolsD : List D → Option (List Bool)
  | [] => some []
  | .bl b :: r => (boolsD r).map (b :: ·)
  | _ :: _ => none
def intsD : List D → Option (List Int)
  | [] => some []
  | .int b :: r => (intsD r).map (b :: ·)
  | _ :: _ => none
theorem boolsD_rel : ∀ {vs : List V} {ds : List D} {bs : List Bool}, RpA G K H μ vs ds → boolsD ds = some bs → vs = bs.map V.bl
  | _, _, bs, .nil, h => by simp only [boolsD, Option.some.injEq] at h; subst h; rfl
  | _, _, bs, .cons (ds := ds) a r, h => by
    cases a <;> first | (simp [boolsD] at h; done) | skip
    simp only [boolsD, Option.map_eq_some_iff] at h
    obtain ⟨cs, h, rfl⟩ := h
    rw [List.map_cons, ← boolsD_rel r h]
theorem intsD_rel : ∀ {vs : List V} {ds : List D} {bs : List Int}, RpA G K H μ vs ds → intsD ds = some bs → vs = bs.map V.int
  | _, _, bs, .nil, h => by simp only [intsD, Option.some.injEq] at h; subst h; rfl
  | _, _, bs, .cons (ds := ds) a r, h => by
    cases a <;> first | (simp [intsD] at h; done) | skip
    simp only [intsD, Option.map_eq_some_iff] at h
    obtain ⟨cs, h, rfl⟩ := h
    rw [List.map_cons, ← intsD_rel r h]
def allF : List D → Sto → R D
  | [d], s => match (rdL s d).bind boolsD with
    | some bs => .ok (.bl (bs.all id)) s
    | none => .stuck
  | _, _ => .stuck
def anyF : List D → Sto → R D
  | [d], s => match (rdL s d).bind boolsD with
    | some bs => .ok (.bl (bs.any id)) s
    | none => .stuck
  | _, _ => .stuck
theorem sc_all : SimC G K (rAll K) allF := by
  intro H μ s vs ds W r p
  unfold allF
  split
  · rename_i d
    obtain ⟨v, rfl, p0⟩ := p.one
    cases e : (rdL _ d).bind boolsD with
    | none => trivial
    | some bs =>
      obtain ⟨xs, e1, e2⟩ := Option.bind_eq_some_iff.mp e
      obtain ⟨a, vs, rfl, h1, p1⟩ := rdL_ok r p0 e1
      have := boolsD_rel p1 e2
      subst this
      exact now r (.bl _) fun Q q => ⟨a, bs, rfl, SqL.of h1, q⟩
  · trivial
theorem sc_any : SimC G K (rAny K) anyF := by
  intro H μ s vs ds W r p
  unfold anyF
  split
  · rename_i d
    obtain ⟨v, rfl, p0⟩ := p.one
    cases e : (rdL _ d).bind boolsD with
    | none => trivial
    | some bs =>
      obtain ⟨xs, e1, e2⟩ := Option.bind_eq_some_iff.mp e
      obtain ⟨a, vs, rfl, h1, p1⟩ := rdL_ok r p0 e1
      have := boolsD_rel p1 e2
      subst this
      exact now r (.bl _) fun Q q => ⟨a, bs, rfl, SqL.of h1, q⟩
  · trivial
def sumF : List D → Sto → R D
  | [d], s => match (rdL s d).bind intsD with
    | some bs => .ok (.int bs.sum) s
    | none => .stuck
  | _, _ => .stuck
theorem sc_sum : SimC G K (rSum K) sumF := by
  intro H μ s vs ds W r p
  unfold sumF
  split
  · rename_i d
    obtain ⟨v, rfl, p0⟩ := p.one
    cases e : (rdL _ d).bind intsD with
    | none => trivial
    | some bs =>
      obtain ⟨xs, e1, e2⟩ := Option.bind_eq_some_iff.mp e
      obtain ⟨a, vs, rfl, h1, p1⟩ := rdL_ok r p0 e1
      have := intsD_rel p1 e2
      subst this
      exact now r (.int _) fun Q q => ⟨a, bs, rfl, SqL.of h1, q⟩
  · trivial

/-! ### isinstance -/
/-- the type's name of a value -/
def tyD : D → Option String
  | .non => some "NoneType"
  | .bl _ => some "bool"
  | .int _ => some "int"
  | .str _ => some "str"
  | .tup _ => some "tuple"
  | .lst _ => some "list"
  | .scr _ => some "list"
  | _ => none
def isiF (T : String) (d : D) (s : Sto) : R D := match tyD d with
  | some a => .ok (.bl (a == T || (a == "bool" && T == "int"))) s
  | none => .stuck
def mIsi (T : String) (m : ME) : ME := fun l s => (m l s).bind fun d s1 => isiF T d s1
theorem tyx {v : V} {d : D} {a : String} (p : Rp G K H μ v d) (h : tyD d = some a) : TyX K H v (.type a) := by
  cases p <;> simp only [tyD, Option.some.injEq, reduceCtorEq] at h <;> subst h
  · exact .base .non
  · exact .base (.bl _)
  · exact .base (.int _)
  · exact .base (.str _)
  · exact .base (.tup (by assumption))
  · exact .kTuple (by assumption) (by assumption)
  · exact .base (.lst (by assumption))
  · exact .base (.frz (by assumption))
  · exact .kList (by assumption) (by assumption)
/-- isinstance(x, T), T the name of a built-in type -/
theorem je_isi {e : Expr} {te : TE} {me : ME} {T : String} {x : Str} {p p2 pos : Pos} (hT : T = "int" ∨ T = "bool" ∨ T = "str" ∨ T = "tuple" ∨ T = "list") (hm : X.mg "isinstance" = none) (hm2 : X.mg x = none) (h : JE X G W e te me) (hv2 : bootBuiltins x = some (.type T) := by decide +kernel)
    (hg : Gl X "isinstance" := by rfl) (hg2 : Gl X x := by rfl) (hn2 : x ≠ "__name__" := by decide) (hd2 : (x == ("__debug__" : Str)) = false := by decide)
    (he1 : starEach [.Name x p2] X.env = (false, eval (.Name x p2) X.env) :: starEach [] X.env := by rfl) (he : starEach [e, .Name x p2] X.env = (false, eval e X.env) :: starEach [.Name x p2] X.env := by rfl) (hpl : (backTo pos (starEach [.Name x p2] X.env)).any (·.1) = false := by rfl) (hK : X.K = G.K := by rfl) :
    JE X G W (.Call (.Name "isinstance" p) [e, .Name x p2] [] pos) (tCB (rIsi G.K) (tCons te (tCons (tC (.ty T)) tNil))) (mIsi T me) := by
  refine ⟨fun tk => pe_callB (call_isiK2 hK) hg hm (by decide +kernel) (pa_cons (h.pe tk) (pa_cons (pe_bltn hg2 hm2 hv2 (v := .ty T) rfl hn2 hd2) pa_nil he1) he) (by decide) (by decide) he hpl, fun σ H μ l s hl hs => (h.sim σ H μ l s hl hs).bind fun v H1 μ1 d s1 g1 r1 p1 => ?_⟩
  unfold isiF
  cases e1 : tyD d with
  | none => trivial
  | some a =>
    have hk : kitB a T = some (a == T || (a == "bool" && T == "int")) := by
      cases d <;> simp only [tyD, Option.some.injEq, reduceCtorEq] at e1 <;> subst e1 <;> rcases hT with rfl | rfl | rfl | rfl | rfl <;> decide +kernel
    exact now r1 (.bl _) fun Q q => ⟨v, .ty T, .type a, .type T, _, rfl, .ty T, tyx p1 e1, kit_ty hk, q⟩

/-! ### calls of defs -/
/-- the promise: what the mirror says -/
def spD (G : Gm) (K : PySem.W.Frag) (n : Nat) (f : MF) : Sp := fun vs H Q E => vs.length = n ∧ ∃ (μ : Mu) (ds : List D) (s : Sto), RpA G K H μ vs ds ∧ RS G K H μ s ∧
  match f ds s with
  | .ok d s' => ∀ v H' μ', Grow H μ H' μ' → RS G K H' μ' s' → Rp G K H' μ' v d → Q v H'
  | .ex x s' => ∀ C dd H' μ', Grow H μ H' μ' → RS G K H' μ' s' → G.cl x.cls = some C → Fld G K H' μ' x dd → E (.ref C) dd H'
  | .stuck => False
def mCall (n : Nat) (f : MF) (m : MA) : ME := fun l s => (m l s).bind fun ds s1 => if ds.length = n then f ds s1 else .stuck
theorem okP_call {n : Nat} {f : MF} {vs : List V} {ds : List D} {σ : L2.St} (r : RS G K H μ s) (p : RpA G K H μ vs ds) (hn : ds.length = n) : okP G K (fun Q => spD G K n f vs H Q (WE W σ)) (fun c d H' => W c d σ H') H μ (Rp G K) (f ds s) := by
  cases e : f ds s with
  | ok d s' => exact fun Q q => ⟨by rw [p.length]; exact hn, μ, ds, s, p, r, by rw [e]; exact fun v H' μ' g r' p' => q v H' μ' g r' p'⟩
  | ex x s' => exact fun Q q => ⟨by rw [p.length]; exact hn, μ, ds, s, p, r, by rw [e]; exact fun C dd H' μ' g r' hc hf => q C dd H' μ' g r' hc hf⟩
  | stuck => trivial
end
end DL


namespace DL
open PySem PySem.Spec PyProof.Rows L2

/-- a def of the program: what it is worth -/
structure FnD (P : Program) (w : World) (K : PySem.W.Frag) (mg : Str → Option Value) (base : Heap) (G : Gm) (k : Nat) (x : String) (n : Nat) (f : MF) : Prop where
  ex : ∃ (a : Addr) (fd : FuncData) (ps : List Str), FnOk P w K mg base (L2.CX P w) k a fd ps (spD G K n f) ∧ mg x = some (.ref a) ∧ G.fn x = some a ∧ PySem.W.keepIn K (.ref a) = true ∧ Binds K fd ps []
theorem FnD.mono {P : Program} {w : World} {K : PySem.W.Frag} {mg : Str → Option Value} {base : Heap} {G : Gm} {j k : Nat} {x : String} {n : Nat} {f : MF} (F : FnD P w K mg base G j x n f) (h : j ≤ k) : FnD P w K mg base G k x n f := by
  obtain ⟨a, fd, ps, h1, h2⟩ := F.ex
  exact ⟨a, fd, ps, h1.mono h, h2⟩
section
variable {X : Cx} {G : Gm} {K : PySem.W.Frag} {H : Hp} {μ : Mu} {s : Sto} {W : WX} {k : Nat}
theorem je_call {x : String} {n : Nat} {f : MF} {e : Expr} {es : List Expr} {t : TA} {m : MA} {p pos : Pos} (F : FnD X.prog X.w G.K X.mg X.base G k x n f) (hr : Room k X.A) (ha : JA X G W (e :: es) t m) (hg : Gl X (x : Str) := by rfl)
    (hdb : ((x : Str) == ("__debug__" : Str)) = false := by decide) (he : starEach (e :: es) X.env = (false, eval e X.env) :: starEach es X.env := by rfl) (hpl : (backTo pos (starEach es X.env)).any (·.1) = false := by rfl) (hK : X.K = G.K := by rfl) :
    JE X G W (.Call (.Name x p) (e :: es) [] pos) (tCallS (spD G G.K n f) (WE W) t) (mCall n f m) := by
  obtain ⟨a, fd, ps, F1, h1, _, h2, h3⟩ := F.ex
  rw [← hK] at h2 h3
  have F1 : FnOk X.prog X.w X.K X.mg X.base (L2.CX X.prog X.w) k a fd ps (spD G G.K n f) := by rw [hK]; exact F1
  refine ⟨fun tk => pe_callS F1 hr hg h1 h2 h3 (passAt tk) (ha.pe tk) hdb he hpl, fun σ H μ l s hl hs => (ha.sim σ H μ l s hl hs).bind fun xs H1 μ1 ds s1 g1 r1 p1 => ?_⟩
  split
  · rename_i hn
    exact okP_call r1 p1 hn
  · trivial
/-- a def as a value -/
theorem je_fn {x : String} {n : Nat} {f : MF} {pos : Pos} (F : FnD X.prog X.w G.K X.mg X.base G k x n f) (hg : Gl X (x : Str) := by rfl) (hd : ((x : Str) == ("__debug__" : Str)) = false := by decide) : JE X G W (.Name x pos) (tC (.ref (G.fA x))) (mC (.fn x)) := by
  obtain ⟨a, fd, ps, F1, h1, h4, h2, h3⟩ := F.ex
  have e : G.fA x = a := by unfold Gm.fA; rw [h4]; rfl
  rw [e]
  exact ⟨fun tk => pe_glob hg h1 rfl hd, simC fun _ _ => .fn h4⟩
/-- a constant of the program's top -/
structure GlD (K : PySem.W.Frag) (mg : Str → Option Value) (G : Gm) (x : String) (d : D) : Prop where
  ex : ∃ u, mg x = some u ∧ RelV (G.cst x) u ∧ ∀ H μ, Rp G K H μ (G.cst x) d
theorem je_glb {x : String} {d : D} {pos : Pos} (F : GlD G.K X.mg G x d) (hg : Gl X (x : Str) := by rfl) (hd : ((x : Str) == ("__debug__" : Str)) = false := by decide) : JE X G W (.Name x pos) (tC (G.cst x)) (mC d) := by
  obtain ⟨u, h1, h2, h3⟩ := F.ex
  exact ⟨fun tk => pe_glob hg h1 h2 hd, simC h3⟩
/-- a call of a name of the def's own that holds one of some defs -/
def mCallV (i : Nat) (fs : List (String × Nat × MF)) (m : MA) : ME := fun l s => match l[i]? with
  | some (some (.fn x)) => match fs.lookup x with
    | some (n, f) => mCall n f m l s
    | none => .stuck
  | _ => .stuck
def tCallV (i : Nat) (C : Addr → Sp → Prop) (E : L2.St → XK) (t : TA) : TE := fun σ H Q => ∃ a sp, C a sp ∧ σ[i]? = some (some (.ref a)) ∧ t σ H fun vs H1 => sp vs H1 Q (E σ)
theorem pe_callV {C : Addr → Sp → Prop} {E : L2.St → XK} {i : Nat} {x : Str} {e : Expr} {es : List Expr} {t : TA} {p pos : Pos} (hC : ∀ a sp, C a sp → ∃ fd ps, FnOk X.prog X.w X.K X.mg X.base (L2.CX X.prog X.w) k a fd ps sp ∧ PySem.W.keepIn X.K (.ref a) = true ∧ Binds X.K fd ps []) (hr : Room k X.A) (hN : X.N[i]? = some x) (hv : Vis X.env.scope x)
    (hx : ∀ σ, PassesAt (L2.CX X.prog X.w) X σ (E σ)) (ha : PA X (e :: es) t)
    (hdb : (x == ("__debug__" : Str)) = false := by decide) (hcd : (x == ("__classdict__" : Str)) = false := by decide)
    (he : starEach (e :: es) X.env = (false, eval e X.env) :: starEach es X.env := by rfl) (hpl : (backTo pos (starEach es X.env)).any (·.1) = false := by rfl) : PE X (.Call (.Name x p) (e :: es) [] pos) (tCallV i C E t) := by
  refine ⟨fun pins s σ H Q I h => ?_⟩
  obtain ⟨a, sp, hc, hs, ht⟩ := h
  obtain ⟨fd, ps, F, hk, hb⟩ := hC a sp hc
  refine wpAny_Call_Name_kw (thn ((pe_var (pos := p) hN hv hdb hcd).run pins s σ H (fun v H1 => v = .ref a ∧ H1 = H) I ⟨.ref a, hs, rfl, rfl⟩) fun u s1 ⟨v, H1, I1, r1, q1⟩ => ?_)
  obtain ⟨rfl, rfl⟩ := q1
  cases r1
  refine PySem.W.callWith_K (h₀ := X.base) I.ok.mod.kin hk (thn (ha.run pos pins s1 σ _ _ I1 ht) fun us s2 ⟨vs, H2, I2, r, q⟩ => ⟨I2.kIn, ?_⟩) he hpl
  exact run_fnS F hr hb (hx σ) I2 r q
inductive FsOk (P : Program) (w : World) (K : PySem.W.Frag) (mg : Str → Option Value) (base : Heap) (G : Gm) (k : Nat) : List (String × Nat × MF) → Prop
  | nil : FsOk P w K mg base G k []
  | cons {x : String} {n : Nat} {f : MF} {fs : List (String × Nat × MF)} : FnD P w K mg base G k x n f → FsOk P w K mg base G k fs → FsOk P w K mg base G k ((x, n, f) :: fs)
theorem FsOk.get {P : Program} {w : World} {K : PySem.W.Frag} {mg : Str → Option Value} {base : Heap} {G : Gm} {k : Nat} : ∀ {fs : List (String × Nat × MF)} {x : String} {n : Nat} {f : MF}, FsOk P w K mg base G k fs → fs.lookup x = some (n, f) → FnD P w K mg base G k x n f
  | _, _, _, _, .nil, h => by simp at h
  | (y, m, g) :: fs, x, n, f, .cons a r, h => by
    rw [List.lookup_cons] at h
    split at h
    · rename_i e
      have e := eq_of_beq e
      cases h
      subst e
      exact a
    · exact FsOk.get r h
theorem je_callV {i : Nat} {fs : List (String × Nat × MF)} {x : Str} {e : Expr} {es : List Expr} {t : TA} {m : MA} {p pos : Pos} (F : FsOk X.prog X.w G.K X.mg X.base G k fs) (hr : Room k X.A) (ha : JA X G W (e :: es) t m) (hN : X.N[i]? = some x := by rfl) (hv : Vis X.env.scope x := by first | exact Or.inl rfl | exact Or.inr (Or.inl rfl) | exact Or.inr (Or.inr rfl))
    (hdb : (x == ("__debug__" : Str)) = false := by decide) (hcd : (x == ("__classdict__" : Str)) = false := by decide)
    (he : starEach (e :: es) X.env = (false, eval e X.env) :: starEach es X.env := by rfl) (hpl : (backTo pos (starEach es X.env)).any (·.1) = false := by rfl) (hK : X.K = G.K := by rfl) :
    JE X G W (.Call (.Name x p) (e :: es) [] pos) (tCallV i (fun a sp => ∃ y n f, fs.lookup y = some (n, f) ∧ G.fn y = some a ∧ sp = spD G G.K n f) (WE W) t) (mCallV i fs m) := by
  refine ⟨fun tk => pe_callV (fun a sp ⟨y, n, f, h1, h2, h3⟩ => ?_) hr hN hv (passAt tk) (ha.pe tk) hdb hcd he hpl, fun σ H μ l s hl hs => ?_⟩
  · obtain ⟨b, fd, ps, F1, _, h5, h6, h7⟩ := (F.get h1).ex
    rw [h2] at h5
    cases h5
    subst h3
    rw [hK]
    exact ⟨fd, ps, F1, h6, h7⟩
  · unfold mCallV
    cases e1 : l[i]? with
    | none => trivial
    | some o =>
      cases o with
      | none => trivial
      | some d =>
        obtain ⟨v, hv1, hv2⟩ := hl.2 i d e1
        cases hv2 <;> first | trivial | skip
        rename_i y a hy
        dsimp only
        cases e2 : fs.lookup y with
        | none => trivial
        | some nf =>
          obtain ⟨n, f⟩ := nf
          dsimp only
          have z : okP G G.K (fun Q => t σ H fun vs H1 => spD G G.K n f vs H1 Q (WE W σ)) (fun c d H' => W c d σ H') H μ (Rp G G.K) (mCall n f m l s) := by
            refine (ha.sim σ H μ l s hl hs).bind fun xs H1 μ1 ds s1 g1 r1 p1 => ?_
            split
            · rename_i hn
              exact okP_call r1 p1 hn
            · trivial
          cases e3 : mCall n f m l s with
          | ok d s' => rw [e3] at z; exact fun Q q => ⟨a, _, ⟨y, n, f, e2, hy, rfl⟩, hv1, z Q q⟩
          | ex x s' => rw [e3] at z; exact fun Q q => ⟨a, _, ⟨y, n, f, e2, hy, rfl⟩, hv1, z Q q⟩
          | stuck => trivial

/-! ### what a loop walks -/
def RI (G : Gm) (K : PySem.W.Frag) (H : Hp) (μ : Mu) (J : It) (ds : List D) : Prop := ∀ H' μ', Mono H μ H' μ' → ∀ s, RS G K H' μ' s → ∀ i : Nat,
  (∀ d, ds[i]? = some d → J.go i H' ∧ ∀ x H'', J.yld i H' x H'' → Grow H' μ' H'' μ' ∧ RS G K H'' μ' s ∧ Rp G K H'' μ' x d) ∧ (ds.length ≤ i → J.stop i H')
abbrev MI := Loc → Sto → R (List D)
structure JI (X : Cx) (G : Gm) (W : WX) (tg it : Expr) (t : TI) (m : MI) : Prop where
  pe : Takes X W → PI X tg it t
  sim : ∀ (σ : L2.St) (H : Hp) (μ : Mu) (l : Loc) (s : Sto), RL G G.K H μ σ l → RS G G.K H μ s → okP G G.K (t σ H) (fun c d H' => W c d σ H') H μ (RI G G.K) (m l s)
theorem PI.or {tg it : Expr} {t t' : TI} (h : PI X tg it t) (h' : PI X tg it t') : PI X tg it (fun σ H R => t σ H R ∨ t' σ H R) := by
  refine ⟨fun pins s σ H R I q => ?_⟩
  rcases q with q | q
  · exact h.run pins s σ H R I q
  · exact h'.run pins s σ H R I q
theorem fresh_step {H : Hp} {μ : Mu} {s : Sto} (r : RS G K H μ s) {T : Addr} {vs : List V} {ds : List D} (hT : H T = none) (p : RpA G K H μ vs ds) : Grow H μ (upd H T (.tup vs)) μ ∧ RS G K (upd H T (.tup vs)) μ s ∧ Rp G K (upd H T (.tup vs)) μ (.ref T) (.tup ds) :=
  ⟨r.galloc hT, r.alloc hT, .tup upd_same (r.notin hT) (p.mono (r.galloc hT))⟩
/-- a list or tuple that stands -/
def stands : D → Option (List D)
  | .lst xs => some xs
  | .tup xs => some xs
  | .scr xs => some (xs.map D.int)
  | _ => none
def mIter (m : ME) : MI := fun l s => (m l s).bind fun d s1 => match stands d with
  | some xs => .ok xs s1
  | none => .stuck
theorem standsL {v : V} {d : D} {ds : List D} (p : Rp G K H μ v d) (hn : ∀ ys, d ≠ .tup ys) (h : stands d = some ds) : ∃ a vs, v = .ref a ∧ (∀ H' μ', Mono H μ H' μ' → SqL K H' a vs) ∧ RpA G K H μ vs ds := by
  cases p with
  | lst h1 h2 h3 =>
    simp only [stands, Option.some.injEq] at h
    subst h
    exact ⟨_, _, rfl, fun H' μ' g => SqL.of (g.keep _ _ h1 h2), h3⟩
  | tup _ _ _ => exact absurd rfl (hn _)
  | tupK _ _ _ _ _ _ => exact absurd rfl (hn _)
  | @scr a o xs h1 h2 =>
    simp only [stands, Option.some.injEq] at h
    subst h
    exact ⟨_, _, rfl, fun H' μ' g => .inl (.inr ⟨o, g.keep _ _ h1 h2⟩), RpA.ints xs⟩
  | @scrK a o its n xs h1 h2 h3 h4 h5 h6 =>
    simp only [stands, Option.some.injEq] at h
    subst h
    exact ⟨_, _, rfl, fun H' μ' g => .inr ⟨o, its, n, h1, h2, h3, h4, h5, h6⟩, RpA.ints xs⟩
  | _ => simp [stands] at h
theorem standsT {v : V} {ds : List D} (p : Rp G K H μ v (.tup ds)) : ∃ a vs, v = .ref a ∧ (∀ H' μ', Mono H μ H' μ' → SqT K H' a vs) ∧ RpA G K H μ vs ds := by
  cases p with
  | tup h1 h2 h3 => exact ⟨_, _, rfl, fun H' μ' g => SqT.of (g.keep _ _ h1 h2), h3⟩
  | tupK h1 h2 h3 h4 h5 h6 => exact ⟨_, _, rfl, fun H' μ' g => .inr ⟨_, _, _, h1, h2, h3, h4, h5⟩, h6⟩
theorem Mono.refl : Mono H μ H μ := ⟨fun _ _ h _ => h, fun _ _ _ h => h, fun _ _ h => h⟩
theorem RI.list {a : Addr} {vs : List V} {ds : List D} (h : ∀ H' μ', Mono H μ H' μ' → SqL K H' a vs) (p : RpA G K H μ vs ds) : RI G K H μ (Itl K a) ds := by
  intro H' μ' g s r i
  refine ⟨fun d e => ?_, fun hi => ⟨vs, h H' μ' g, by rw [p.length]; exact hi⟩⟩
  obtain ⟨v, h1, h2⟩ := p.get e
  refine ⟨⟨vs, v, h H' μ' g, h1⟩, fun x H'' hy => ?_⟩
  obtain ⟨rfl, hy⟩ := hy
  have := hy vs (h _ μ' g)
  rw [h1] at this
  cases this
  exact ⟨Grow.refl, r, h2.mon g⟩
theorem RI.tuple {a : Addr} {vs : List V} {ds : List D} (h : ∀ H' μ', Mono H μ H' μ' → SqT K H' a vs) (p : RpA G K H μ vs ds) : RI G K H μ (Itt K a) ds := by
  intro H' μ' g s r i
  refine ⟨fun d e => ?_, fun hi => ⟨vs, h H' μ' g, by rw [p.length]; exact hi⟩⟩
  obtain ⟨v, h1, h2⟩ := p.get e
  refine ⟨⟨vs, v, h H' μ' g, h1⟩, fun x H'' hy => ?_⟩
  obtain ⟨rfl, hy⟩ := hy
  have := hy vs (h _ μ' g)
  rw [h1] at this
  cases this
  exact ⟨Grow.refl, r, h2.mon g⟩
def rangeD (lo : Int) (n : Nat) : List D := (List.range n).map fun (i : Nat) => .int (lo + (i : Int))
theorem RI.range {lo : Int} {n : Nat} : RI G K H μ (Itr lo n) (rangeD lo n) := by
  intro H' μ' g s r i
  refine ⟨fun d e => ?_, fun hi => by show n ≤ i; simpa [rangeD] using hi⟩
  have hi : i < n := by
    have := (List.getElem?_eq_some_iff.mp e).1
    simpa [rangeD] using this
  have hd : d = .int (lo + (i : Int)) := by
    unfold rangeD at e
    rw [List.getElem?_map, List.getElem?_range hi] at e
    exact (Option.some.inj e).symm
  subst hd
  refine ⟨hi, fun x H'' hy => ?_⟩
  obtain ⟨rfl, rfl⟩ := hy
  exact ⟨Grow.refl, r, .int _⟩
theorem ji_any {tg e : Expr} {t : TE} {m : ME} (h : JE X G W e t m) (hK : X.K = G.K := by rfl) : JI X G W tg e (fun σ H R => iList G.K t σ H R ∨ iTup G.K t σ H R) (mIter m) := by
  refine ⟨fun tk => hK ▸ PI.or (pi_list (h.pe tk)) (pi_tup (h.pe tk)), fun σ H μ l s hl hs => ?_⟩
  have z := h.sim σ H μ l s hl hs
  unfold mIter
  cases e1 : m l s with
  | stuck => trivial
  | ex x s1 =>
    rw [e1] at z
    exact fun Q q => .inl (z _ fun C d H' μ' g => q C d H' μ' g)
  | ok d s1 =>
    rw [e1] at z
    show okP G G.K _ _ H μ _ (match stands d with
      | some xs => .ok xs s1
      | none => .stuck)
    cases e2 : stands d with
    | none => trivial
    | some xs =>
      intro Q q
      by_cases hk : (∃ ys, d = .tup ys)
      · obtain ⟨ys, rfl⟩ := hk
        simp only [stands, Option.some.injEq] at e2
        subst e2
        refine .inr (z _ fun v H' μ' g r p => ?_)
        obtain ⟨a, vs, rfl, h1, p1⟩ := standsT p
        exact ⟨a, rfl, ⟨vs, h1 H' μ' Mono.refl⟩, q _ H' μ' g r (RI.tuple h1 p1)⟩
      · refine .inl (z _ fun v H' μ' g r p => ?_)
        obtain ⟨a, vs, rfl, h1, p1⟩ := standsL p (fun ys e => hk ⟨ys, e⟩) e2
        exact ⟨a, rfl, ⟨vs, h1 H' μ' Mono.refl⟩, q _ H' μ' g r (RI.list h1 p1)⟩
/-- small enough for a range; not to be reckoned out -/
noncomputable def intB (i : Int) : Bool := @decide (-(2 ^ 62) ≤ i ∧ i < 2 ^ 62) (Classical.propDecidable _)
noncomputable def mRng1 (m : MA) : MI := fun l s => (m l s).bind fun ds s1 => match ds with
  | [.int j] => if intB j = true then .ok (rangeD 0 j.toNat) s1 else .stuck
  | _ => .stuck
noncomputable def mRng2 (m : MA) : MI := fun l s => (m l s).bind fun ds s1 => match ds with
  | [.int i, .int j] => if intB i = true ∧ intB j = true then .ok (rangeD i (j - i).toNat) s1 else .stuck
  | _ => .stuck
theorem intB_of {i : Int} (h : intB i = true) : -(2 ^ 62) ≤ i ∧ i < 2 ^ 62 := by
  unfold intB at h
  simpa using h
theorem ji_rng1 {tg a : Expr} {t : TA} {m : MA} {p pos : Pos} (hm : X.mg "range" = none) (h : JA X G W [a] t m) (hg : Gl X "range" := by rfl) (hs : starEach [a] X.env = [(false, eval a X.env)] := by rfl) : JI X G W tg (.Call (.Name "range" p) [a] [] pos) (iRng1 t) (mRng1 m) := by
  refine ⟨fun tk => pi_range1 hg hm (h.pe tk) hs, fun σ H μ l s hl hs => (h.sim σ H μ l s hl hs).bind fun xs H1 μ1 ds s1 g1 r1 p1 => ?_⟩
  split
  · split
    · rename_i j hj
      obtain ⟨v, rfl, p0⟩ := p1.one
      cases p0
      have := intB_of hj
      exact fun Q q => ⟨_, rfl, this.1, this.2, q _ H1 μ1 Grow.refl r1 RI.range⟩
    · trivial
  · trivial
theorem ji_rng2 {tg a b : Expr} {t : TA} {m : MA} {p pos : Pos} (hm : X.mg "range" = none) (h : JA X G W [a, b] t m) (hg : Gl X "range" := by rfl) (hs : starEach [a, b] X.env = [(false, eval a X.env), (false, eval b X.env)] := by rfl) (hs2 : starEach [b] X.env = [(false, eval b X.env)] := by rfl) : JI X G W tg (.Call (.Name "range" p) [a, b] [] pos) (iRng2 t) (mRng2 m) := by
  refine ⟨fun tk => pi_range2 hg hm (h.pe tk) hs hs2, fun σ H μ l s hl hs => (h.sim σ H μ l s hl hs).bind fun xs H1 μ1 ds s1 g1 r1 p1 => ?_⟩
  split
  · split
    · rename_i j hj
      obtain ⟨v, u, rfl, p0, p2⟩ := p1.two
      cases p0
      cases p2
      have h1 := intB_of hj.1
      have h2 := intB_of hj.2
      exact fun Q q => ⟨_, _, rfl, ⟨h1.1, h1.2, h2.1, h2.2⟩, q _ H1 μ1 Grow.refl r1 RI.range⟩
    · trivial
  · trivial
/-- pairs -/
def zipD : List D → List D → List D
  | x :: xs, y :: ys => .tup [x, y] :: zipD xs ys
  | _, _ => []
theorem zipD_get : ∀ {xs ys : List D} {i : Nat} {d : D}, (zipD xs ys)[i]? = some d → ∃ x y, xs[i]? = some x ∧ ys[i]? = some y ∧ d = .tup [x, y]
  | [], _, i, d, h => by simp [zipD] at h
  | _ :: _, [], i, d, h => by simp [zipD] at h
  | x :: xs, y :: ys, 0, d, h => by
    simp [zipD] at h
    exact ⟨x, y, by simp, by simp, h.symm⟩
  | x :: xs, y :: ys, i + 1, d, h => by
    simp only [zipD, List.getElem?_cons_succ] at h ⊢
    exact zipD_get h
theorem zipD_len : ∀ {xs ys : List D} {i : Nat}, (zipD xs ys).length ≤ i → xs.length ≤ i ∨ ys.length ≤ i
  | [], _, i, _ => .inl (Nat.zero_le _)
  | _ :: _, [], i, _ => .inr (Nat.zero_le _)
  | x :: xs, y :: ys, 0, h => by simp [zipD] at h
  | x :: xs, y :: ys, i + 1, h => by
    simp only [zipD, List.length_cons, Nat.add_le_add_iff_right] at h ⊢
    exact zipD_len h
theorem RI.zipL {a b : Addr} {vs us : List V} {ds es : List D} (h : ∀ H' μ', Mono H μ H' μ' → SqL K H' a vs) (p : RpA G K H μ vs ds) (h' : ∀ H' μ', Mono H μ H' μ' → SqL K H' b us) (p' : RpA G K H μ us es) : RI G K H μ (Itz K a b) (zipD ds es) := by
  intro H' μ' g s r i
  refine ⟨fun d e => ?_, fun hi => ⟨vs, us, h H' μ' g, h' H' μ' g, by rw [p.length, p'.length]; exact zipD_len hi⟩⟩
  obtain ⟨x, y, e1, e2, rfl⟩ := zipD_get e
  obtain ⟨v, h1, h2⟩ := p.get e1
  obtain ⟨u, h3, h4⟩ := p'.get e2
  refine ⟨⟨vs, us, v, u, h H' μ' g, h' H' μ' g, h1, h3⟩, fun z H'' hy => ?_⟩
  obtain ⟨T, a1, b1, rfl, hT, rfl, k1, k2⟩ := hy
  have q1 := k1 vs (h _ μ' g)
  have q2 := k2 us (h' _ μ' g)
  rw [h1] at q1
  rw [h3] at q2
  cases q1
  cases q2
  exact fresh_step r hT (.cons (h2.mon g) (.cons (h4.mon g) .nil))
theorem RI.zipT {a b : Addr} {vs us : List V} {ds es : List D} (h : ∀ H' μ', Mono H μ H' μ' → SqT K H' a vs) (p : RpA G K H μ vs ds) (h' : ∀ H' μ', Mono H μ H' μ' → SqT K H' b us) (p' : RpA G K H μ us es) : RI G K H μ (RZ.ItzT K a b) (zipD ds es) := by
  intro H' μ' g s r i
  refine ⟨fun d e => ?_, fun hi => ⟨vs, us, h H' μ' g, h' H' μ' g, by rw [p.length, p'.length]; exact zipD_len hi⟩⟩
  obtain ⟨x, y, e1, e2, rfl⟩ := zipD_get e
  obtain ⟨v, h1, h2⟩ := p.get e1
  obtain ⟨u, h3, h4⟩ := p'.get e2
  refine ⟨⟨vs, us, v, u, h H' μ' g, h' H' μ' g, h1, h3⟩, fun z H'' hy => ?_⟩
  obtain ⟨T, a1, b1, rfl, hT, rfl, k1, k2⟩ := hy
  have q1 := k1 vs (h _ μ' g)
  have q2 := k2 us (h' _ μ' g)
  rw [h1] at q1
  rw [h3] at q2
  cases q1
  cases q2
  exact fresh_step r hT (.cons (h2.mon g) (.cons (h4.mon g) .nil))
def mZip (m : MA) : MI := fun l s => (m l s).bind fun ds s1 => match ds with
  | [.tup xs, .tup ys] => .ok (zipD xs ys) s1
  | [.lst xs, .lst ys] => .ok (zipD xs ys) s1
  | _ => .stuck
theorem ji_zip {elts : List Expr} {kk : Nat} {tpos : Pos} {a b : Expr} {t : TA} {m : MA} {p pos : Pos} (hm : X.mg "zip" = none) (h : JA X G W [a, b] t m) (hg : Gl X "zip" := by rfl)
    (hs : starEach [a, b] X.env = (false, eval a X.env) :: starEach [b] X.env := by rfl) (hpl : (backTo pos (starEach [b] X.env)).any (·.1) = false := by rfl) (hK : X.K = G.K := by rfl) : JI X G W (.Tuple elts kk tpos) (.Call (.Name "zip" p) [a, b] [] pos) (RZ.iZipA G.K t) (mZip m) := by
  refine ⟨fun tk => hK ▸ RZ.pi_zipA hg hm (h.pe tk) hs hpl, fun σ H μ l s hl hs => (h.sim σ H μ l s hl hs).bind fun xs H1 μ1 ds s1 g1 r1 p1 => ?_⟩
  split
  · obtain ⟨v, u, rfl, p0, p2⟩ := p1.two
    obtain ⟨a, vs, rfl, h1, q1⟩ := standsT p0
    obtain ⟨b, us, rfl, h2, q2⟩ := standsT p2
    exact fun Q q => ⟨a, b, vs, us, rfl, .inr ⟨h1 _ _ Mono.refl, h2 _ _ Mono.refl, q _ H1 μ1 Grow.refl r1 (RI.zipT h1 q1 h2 q2)⟩⟩
  · obtain ⟨v, u, rfl, p0, p2⟩ := p1.two
    obtain ⟨a, vs, rfl, h1, q1⟩ := standsL p0 (fun _ e => by cases e) rfl
    obtain ⟨b, us, rfl, h2, q2⟩ := standsL p2 (fun _ e => by cases e) rfl
    exact fun Q q => ⟨a, b, vs, us, rfl, .inl ⟨h1 _ _ Mono.refl, h2 _ _ Mono.refl, q _ H1 μ1 Grow.refl r1 (RI.zipL h1 q1 h2 q2)⟩⟩
  · trivial
def enumD (i : Nat) : List D → List D
  | [] => []
  | x :: xs => .tup [.int (i : Int), x] :: enumD (i + 1) xs
theorem enumD_get : ∀ {xs : List D} {n i : Nat} {d : D}, (enumD n xs)[i]? = some d → ∃ x, xs[i]? = some x ∧ d = .tup [.int ((n + i : Nat) : Int), x]
  | [], n, i, d, h => by simp [enumD] at h
  | x :: xs, n, 0, d, h => by
    simp [enumD] at h
    exact ⟨x, by simp, h.symm⟩
  | x :: xs, n, i + 1, d, h => by
    simp only [enumD, List.getElem?_cons_succ] at h ⊢
    obtain ⟨y, h1, h2⟩ := enumD_get h
    exact ⟨y, h1, by rw [h2, show n + 1 + i = n + (i + 1) by omega]⟩
theorem enumD_len : ∀ {xs : List D} {n : Nat}, (enumD n xs).length = xs.length
  | [], _ => rfl
  | x :: xs, n => by rw [enumD, List.length_cons, List.length_cons, enumD_len]
theorem RI.enum {a : Addr} {vs : List V} {ds : List D} (h : ∀ H' μ', Mono H μ H' μ' → SqL K H' a vs) (p : RpA G K H μ vs ds) : RI G K H μ (Ite K a) (enumD 0 ds) := by
  intro H' μ' g s r i
  refine ⟨fun d e => ?_, fun hi => ⟨vs, h H' μ' g, by rw [p.length]; rw [enumD_len] at hi; exact hi⟩⟩
  obtain ⟨x, e1, rfl⟩ := enumD_get e
  obtain ⟨v, h1, h2⟩ := p.get e1
  refine ⟨⟨vs, v, h H' μ' g, h1⟩, fun z H'' hy => ?_⟩
  obtain ⟨T, a1, rfl, hT, rfl, k1⟩ := hy
  have q1 := k1 vs (h _ μ' g)
  rw [h1] at q1
  cases q1
  rw [Nat.zero_add]
  exact fresh_step r hT (.cons (.int _) (.cons (h2.mon g) .nil))
def mEnum (m : MA) : MI := fun l s => (m l s).bind fun ds s1 => match ds with
  | [.lst xs] => .ok (enumD 0 xs) s1
  | _ => .stuck
theorem ji_enum {elts : List Expr} {kk : Nat} {tpos : Pos} {a : Expr} {t : TA} {m : MA} {p pos : Pos} (hm : X.mg "enumerate" = none) (h : JA X G W [a] t m) (hg : Gl X "enumerate" := by rfl)
    (hs : starEach [a] X.env = [(false, eval a X.env)] := by rfl) (hK : X.K = G.K := by rfl) : JI X G W (.Tuple elts kk tpos) (.Call (.Name "enumerate" p) [a] [] pos) (iEnum G.K t) (mEnum m) := by
  refine ⟨fun tk => hK ▸ pi_enum hg hm (h.pe tk) hs, fun σ H μ l s hl hs => (h.sim σ H μ l s hl hs).bind fun xs H1 μ1 ds s1 g1 r1 p1 => ?_⟩
  split
  · obtain ⟨v, rfl, p0⟩ := p1.one
    obtain ⟨a, vs, rfl, h1, q1⟩ := standsL p0 (fun _ e => by cases e) rfl
    exact fun Q q => ⟨a, vs, rfl, h1 _ _ Mono.refl, q _ H1 μ1 Grow.refl r1 (RI.enum h1 q1)⟩
  · trivial
end
end DL


namespace DL
open PySem PySem.Spec PyProof.Rows L2

/-! ### targets -/
abbrev MG := D → Loc → Sto → R Loc
abbrev MGs := List D → Loc → Sto → R Loc
structure JG (X : Cx) (G : Gm) (W : WX) (tg : Expr) (t : TG) (m : MG) : Prop where
  pe : Takes X W → PG X tg t
  sim : ∀ (σ : L2.St) (H : Hp) (μ : Mu) (l : Loc) (s : Sto) (v : V) (d : D), RL G G.K H μ σ l → RS G G.K H μ s → Rp G G.K H μ v d →
    okP G G.K (fun Q : L2.St → Hp → Prop => t v σ H Q) (fun c d H' => W c d σ H') H μ (RL G G.K) (m d l s)
structure JGs (X : Cx) (G : Gm) (W : WX) (tg : List Expr) (t : TGs) (m : MGs) : Prop where
  pe : Takes X W → PGs X tg t
  sim : ∀ (σ : L2.St) (H : Hp) (μ : Mu) (l : Loc) (s : Sto) (vs : List V) (ds : List D), RL G G.K H μ σ l → RS G G.K H μ s → RpA G G.K H μ vs ds →
    okP G G.K (fun Q : L2.St → Hp → Prop => t vs σ H Q) (fun c d H' => W c d σ H') H μ (RL G G.K) (m ds l s)
def mgName (i : Nat) : MG := fun d l s => .ok (l.set i (some d)) s
def mgNil : MGs := fun ds l s => match ds with
  | [] => .ok l s
  | _ => .stuck
section
variable {X : Cx} {G : Gm} {K : PySem.W.Frag} {H : Hp} {μ : Mu} {s : Sto} {W : WX} {k : Nat}
theorem RL.set {σ : L2.St} {l : Loc} {i : Nat} {v : V} {d : D} (r : RL G K H μ σ l) (p : Rp G K H μ v d) : RL G K H μ (σ.set i (some v)) (l.set i (some d)) := by
  refine ⟨by rw [List.length_set, List.length_set]; exact r.1, fun j e h => ?_⟩
  by_cases hij : i = j
  · subst hij
    have hlt : i < l.length := by
      have := (List.getElem?_eq_some_iff.mp h).1
      rwa [List.length_set] at this
    rw [List.getElem?_set_self hlt] at h
    cases h
    exact ⟨v, List.getElem?_set_self (by rw [r.1]; exact hlt), p⟩
  · rw [List.getElem?_set_ne hij] at h
    obtain ⟨u, h1, h2⟩ := r.2 j e h
    exact ⟨u, by rw [List.getElem?_set_ne hij]; exact h1, h2⟩
theorem jg_name {i : Nat} {x : Str} {pos : Pos} (hN : X.N.Nodup) (hi : X.N[i]? = some x := by rfl) (hx : L2.Loc X.env.scope x := by first | exact Or.inl rfl | exact Or.inr rfl) (hf : X.fn x = true ∨ X.env.scope.names.lookup x = some .local := by first | exact .inl rfl | exact .inr rfl | assumption) : JG X G W (.Name x pos) (gName i) (mgName i) :=
  ⟨fun tk => pg_name hN hi hx hf, fun σ H μ l s v d hl hs hp Q q => q _ H μ Grow.refl hs (hl.set hp)⟩
theorem jgs_nil : JGs X G W [] gNil mgNil := by
  refine ⟨fun tk => pgs_nil, fun σ H μ l s vs ds hl hs hp => ?_⟩
  cases hp with
  | nil => exact fun Q q => ⟨rfl, q σ H μ Grow.refl hs hl⟩
  | cons a b => trivial
theorem okP.ws {β α : Type} {t : (β → Hp → Prop) → Prop} {W W' : Value → Option Addr → Hp → Prop} {Rl : Hp → Mu → β → α → Prop} {r : R α} (h : okP G K t W H μ Rl r) (hw : ∀ c d H, W' c d H → W c d H) : okP G K t W' H μ Rl r := by
  cases r with
  | ok a s => exact h
  | ex c s => exact fun Q q => h Q fun C d H' μ' g r c f => hw _ _ _ (q C d H' μ' g r c f)
  | stuck => trivial
/-- what is stored raises nothing -/
def noEx {α : Type} (r : R α) : R α := match r with
  | .ok a s => .ok a s
  | _ => .stuck
def mgCons (m : MG) (ms : MGs) : MGs := fun ds l s => match ds with
  | d :: ds => (m d l s).bind fun l1 s1 => noEx (ms ds l1 s1)
  | [] => .stuck
theorem okP.noEx {β α : Type} {t : (β → Hp → Prop) → Prop} {W W' : Value → Option Addr → Hp → Prop} {Rl : Hp → Mu → β → α → Prop} {r : R α} (h : okP G K t W H μ Rl r) : okP G K t W' H μ Rl (noEx r) := by
  cases r with
  | ok a s => exact h
  | ex c s => trivial
  | stuck => trivial
theorem jgs_cons {e : Expr} {es : List Expr} {t : TG} {u : TGs} {m : MG} {ms : MGs} (h1 : JG X G W e t m) (h2 : JGs X G W es u ms) (hs : (assignEach (e :: es) X.env).map (·.2) = assign e X.env :: (assignEach es X.env).map (·.2) := by rfl) : JGs X G W (e :: es) (gCons t u) (mgCons m ms) := by
  refine ⟨fun tk => pgs_cons (h1.pe tk) (h2.pe tk) hs, fun σ H μ l s vs ds hl hs hp => ?_⟩
  cases hp with
  | nil => trivial
  | @cons v d vs ds a b =>
    have z : okP G G.K (fun Q : L2.St → Hp → Prop => t v σ H fun σ' H' => u vs σ' H' Q) (fun c d H' => W c d σ H') H μ (RL G G.K) ((m d l s).bind fun l1 s1 => noEx (ms ds l1 s1)) :=
      (h1.sim σ H μ l s v d hl hs a).bind fun σ1 H1 μ1 l1 s1 g1 r1 p1 => (h2.sim σ1 H1 μ1 l1 s1 vs ds p1 r1 (b.mono g1)).noEx
    show okP G G.K (fun Q : L2.St → Hp → Prop => gCons t u (v :: vs) σ H Q) _ H μ _ ((m d l s).bind fun l1 s1 => noEx (ms ds l1 s1))
    generalize ((m d l s).bind fun l1 s1 => noEx (ms ds l1 s1)) = r at z ⊢
    cases r with
    | ok l2 s2 => exact fun Q q => ⟨v, vs, rfl, z Q q⟩
    | ex c s2 => exact fun Q q => ⟨v, vs, rfl, z Q q⟩
    | stuck => trivial
def mgTup (n : Nat) (ms : MGs) : MG := fun d l s => match d with
  | .tup ds => if ds.length = n then ms ds l s else .stuck
  | _ => .stuck
theorem jg_tup {es : List Expr} {kk : Nat} {t : TGs} {n : Nat} {ms : MGs} {pos : Pos} (hc : X.calm = true) (h : JGs X G W es t ms) (hn : (assignEach es X.env).length = n := by rfl) (hst : (assignEach es X.env).findIdx? (·.1) = none := by rfl) (hK : X.K = G.K := by rfl) : JG X G W (.Tuple es kk pos) (gTup G.K n t) (mgTup n ms) := by
  refine ⟨fun tk => hK ▸ pg_tup hc (h.pe tk) hn hst, fun σ H μ l s v d hl hs hp => ?_⟩
  unfold mgTup
  split
  · rename_i ds
    split
    · rename_i hz
      obtain ⟨a, vs, rfl, h1, p1⟩ := SqT_of hp
      have z := h.sim σ H μ l s vs ds hl hs p1
      cases e : ms ds l s with
      | ok l2 s2 => rw [e] at z; exact fun Q q => ⟨a, vs, rfl, h1, by rw [p1.length]; exact hz, z Q q⟩
      | ex c s2 => rw [e] at z; exact fun Q q => ⟨a, vs, rfl, h1, by rw [p1.length]; exact hz, z Q q⟩
      | stuck => trivial
    · trivial
  · trivial
/-- a, b = a list -/
def mgLst (n : Nat) (ms : MGs) : MG := fun d l s => match rdL s d with
  | some ds => if ds.length = n then ms ds l s else .stuck
  | none => .stuck
theorem jg_lst {es : List Expr} {kk : Nat} {t : TGs} {n : Nat} {ms : MGs} {pos : Pos} (hc : X.calm = true) (h : JGs X G W es t ms) (hn : (assignEach es X.env).length = n := by rfl) (hst : (assignEach es X.env).findIdx? (·.1) = none := by rfl) (hK : X.K = G.K := by rfl) : JG X G W (.Tuple es kk pos) (gLst G.K n t) (mgLst n ms) := by
  refine ⟨fun tk => hK ▸ pg_lst hc (h.pe tk) hn hst, fun σ H μ l s v d hl hs hp => ?_⟩
  unfold mgLst
  cases e1 : rdL s d with
  | none => trivial
  | some ds =>
    dsimp only
    split
    · rename_i hz
      obtain ⟨a, vs, rfl, h1, p1⟩ := rdL_ok hs hp e1
      have z := h.sim σ H μ l s vs ds hl hs p1
      cases e : ms ds l s with
      | ok l2 s2 => rw [e] at z; exact fun Q q => ⟨a, vs, rfl, SqL.of h1, by rw [p1.length]; exact hz, z Q q⟩
      | ex c s2 => rw [e] at z; exact fun Q q => ⟨a, vs, rfl, SqL.of h1, by rw [p1.length]; exact hz, z Q q⟩
      | stuck => trivial
    · trivial
/-- o[i] = v -/
def setD (o i v : D) (s : Sto) : R Unit := match o, i with
  | .ref n, .int k => match s[n]? with
    | some (.lst xs) => match ixN xs.length k with
      | some j => .ok () (s.set n (.lst (xs.set j v)))
      | none => .stuck
    | _ => .stuck
  | _, _ => .stuck
def SimSet (G : Gm) (K : PySem.W.Frag) (r : TSet) (f : D → D → D → Sto → R Unit) : Prop :=
  ∀ (H : Hp) (μ : Mu) (s : Sto) (x y z : V) (o i v : D) (W : Value → Option Addr → Hp → Prop), RS G K H μ s → Rp G K H μ x o → Rp G K H μ y i → Rp G K H μ z v → okP G K (fun Q : Unit → Hp → Prop => r x y z H (Q ())) W H μ (fun _ _ _ _ => True) (f o i v s)
theorem s_set : SimSet G K rSetL setD := by
  intro H μ s x y z o i v W r p q t
  cases o <;> first | trivial | skip
  rename_i n
  cases i <;> first | trivial | skip
  rename_i k
  cases p
  rename_i a ha
  cases q
  unfold setD
  dsimp only
  cases e : s[n]? with
  | none => trivial
  | some u =>
    cases u with
    | lst xs =>
      dsimp only
      cases e2 : ixN xs.length k with
      | none => trivial
      | some j =>
        obtain ⟨vs, q1, q2⟩ := r.at_ n a _ ha e
        have hm : a ∈ μ.tr := List.mem_iff_getElem?.mpr ⟨n, ha⟩
        have g : Grow H μ (upd H a (.lst (vs.set j z))) μ := r.gwrite hm
        exact fun Q q => ⟨a, vs, k, j, rfl, rfl, q1, by rw [q2.length]; exact e2, q () _ μ g (r.write ha ⟨_, upd_same, (q2.set j t).mono g⟩) trivial⟩
    | dK _ => trivial
    | dT _ => trivial
def mgSub (f : D → D → D → Sto → R Unit) (mo mi : ME) : MG := fun v l s => (mo l s).bind fun o s1 => (mi l s1).bind fun i s2 => (f o i v s2).bind fun _ s3 => .ok l s3
theorem jg_sub {o i : Expr} {to ti : TE} {mo mi : ME} {f : D → D → D → Sto → R Unit} {r : TSet} {pos : Pos} (hset : PSet X r) (hsim : SimSet G G.K r f) (ho : JE X G W o to mo) (hi : JE X G W i ti mi)
    (ha : ∀ v, assign (.Subscript o i pos) X.env v = (do
      let ov ← holding [v] (eval o X.env)
      let iv ← holding [v, ov] (eval i X.env)
      standAt pos
      holding [v, ov, iv] (setItem ov iv v)
      release [v, ov, iv] []) := by intro _; rfl) : JG X G W (.Subscript o i pos) (gSub to ti r) (mgSub f mo mi) := by
  refine ⟨fun tk => pg_sub (ho.pe tk) (hi.pe tk) hset ha, fun σ H μ l s v d hl hs hp => ?_⟩
  refine (ho.sim σ H μ l s hl hs).bind (u := fun x H1 Q => ti σ H1 fun i H2 => r x i v H2 fun H3 => Q σ H3) fun x H1 μ1 od s1 g1 r1 p1 => ?_
  refine (hi.sim σ H1 μ1 l s1 (hl.mono g1) r1).bind (u := fun i H2 Q => r x i v H2 fun H3 => Q σ H3) fun y H2 μ2 id s2 g2 r2 p2 => ?_
  refine (hsim H2 μ2 s2 x y v od id d _ r2 (p1.mono g2) p2 ((hp.mono g1).mono g2)).bind (t := fun Q : Unit → Hp → Prop => r x y v H2 (Q ())) (u := fun _ H3 Q => Q σ H3) fun _ H3 μ3 _ s3 g3 r3 _ => ?_
  exact fun Q q => q σ H3 μ3 Grow.refl r3 (((hl.mono g1).mono g2).mono g3)

/-! ### methods of built-in types -/
def isTy (T : String) (s : Sto) : D → Bool
  | .str _ => T == "str"
  | .int _ => T == "int"
  | .lst _ => T == "list"
  | .scr _ => T == "list"
  | .ref n => match s[n]? with
    | some (.lst _) => T == "list"
    | some (.dK _) => T == "dict"
    | some (.dT _) => T == "dict"
    | none => false
  | _ => false
theorem isTy_ok {T : String} {v : V} {d : D} (r : RS G K H μ s) (p : Rp G K H μ v d) (h : isTy T s d = true) : tyV K T v H := by
  cases d with
  | str x => cases p; exact eq_of_beq h
  | int x => cases p; exact eq_of_beq h
  | lst x => cases p; exact .inl ⟨eq_of_beq h, _, SqL.of (by assumption)⟩
  | scr x =>
    cases p with
    | scr h1 h2 => exact .inl ⟨eq_of_beq h, _, .inl (.inr ⟨_, h1⟩)⟩
    | scrK h1 h2 h3 h4 h5 h6 => exact .inl ⟨eq_of_beq h, _, .inr ⟨_, _, _, h1, h2, h3, h4, h5, h6⟩⟩
  | ref n =>
    cases p
    rename_i a ha
    unfold isTy at h
    cases e : s[n]? with
    | none => simp only [e] at h; cases h
    | some o =>
      cases o with
      | lst xs =>
        simp only [e] at h
        obtain ⟨vs, q1, q2⟩ := r.at_ n a _ ha e
        exact .inl ⟨eq_of_beq h, _, SqL.of q1⟩
      | dK xs =>
        simp only [e] at h
        obtain ⟨vs, q1, q2⟩ := r.at_ n a _ ha e
        exact .inr (.inr (.inl ⟨eq_of_beq h, .inl ⟨_, q1⟩⟩))
      | dT xs =>
        simp only [e] at h
        obtain ⟨vs, q1, q2⟩ := r.at_ n a _ ha e
        exact .inr (.inr (.inl ⟨eq_of_beq h, .inr ⟨_, q1⟩⟩))
  | _ => cases h
def SimM (G : Gm) (K : PySem.W.Frag) (r : V → List V → Hp → VK → Prop) (f : D → List D → Sto → R D) : Prop :=
  ∀ (H : Hp) (μ : Mu) (s : Sto) (x : V) (vs : List V) (d : D) (ds : List D) (W : Value → Option Addr → Hp → Prop), RS G K H μ s → Rp G K H μ x d → RpA G K H μ vs ds → okP G K (r x vs H) W H μ (Rp G K) (f d ds s)
def mMeth (T : String) (f : D → List D → Sto → R D) (mo : ME) (ma : MA) : ME := fun l s => (mo l s).bind fun d s1 => if isTy T s1 d = true then (ma l s1).bind fun ds s2 => f d ds s2 else .stuck
section
variable {o e : Expr} {es : List Expr} {to : TE} {t : TA} {mo : ME} {ma : MA} {name : Str} {apos cpos : Pos} {T id : String} {r : V → List V → Hp → VK → Prop} {f : D → List D → Sto → R D}
theorem okP_and {P : Prop} {u : VK → Prop} {W : Value → Option Addr → Hp → Prop} {ret : R D} (hp : P) (z : okP G K u W H μ (Rp G K) ret) : okP G K (fun Q => P ∧ u Q) W H μ (Rp G K) ret := by
  cases ret with
  | ok a s => exact fun Q q => ⟨hp, z Q q⟩
  | ex a s => exact fun Q q => ⟨hp, z Q q⟩
  | stuck => trivial
theorem je_meth (pa : PlainAttrs T) (slot : Slot T name id) (hty : typeOf (.builtin id) = pure (.type "method_descriptor")) (hm : MtR X id r) (hs : SimM G G.K r f) (ho : JE X G W o to mo) (ha : JA X G W (e :: es) t ma)
    (hbase : attributeBase o name X.env (eval o X.env) = eval o X.env := by rfl)
    (hfew : ((backTo cpos (starEach (e :: es) X.env)).all (fun x => !x.1) && (backToKw cpos (keywordEach [] X.env)).all (fun x => x.1.isSome)
      && decide ((e :: es).length + ([] : List Keyword).length + (if ([] : List Keyword).isEmpty then 0 else 1) < 30)) = true := by rfl)
    (hline : (apos.endLine == cpos.line) = true := by rfl) (hst : starEach (e :: es) X.env = (false, eval e X.env) :: starEach es X.env := by rfl) (hplain : (backTo cpos (starEach es X.env)).any (·.1) = false := by rfl) (hK : X.K = G.K := by rfl) :
    JE X G W (.Call (.Attribute o name apos) (e :: es) [] cpos) (tBM G.K T r to t) (mMeth T f mo ma) := by
  refine ⟨fun tk => hK ▸ pe_bm pa slot hty hm (ho.pe tk) (ha.pe tk) hbase hfew hline hst hplain, fun σ H μ l s hl hs0 => (ho.sim σ H μ l s hl hs0).bind fun x H1 μ1 d s1 g1 r1 p1 => ?_⟩
  split
  · rename_i ht
    refine okP_and (isTy_ok r1 p1 ht) ?_
    exact (ha.sim σ H1 μ1 l s1 (hl.mono g1) r1).bind fun vs H2 μ2 ds s2 g2 r2 p2 => hs H2 μ2 s2 x vs d ds _ r2 (p1.mono g2) p2
  · trivial
theorem je_meth0 (pa : PlainAttrs T) (slot : Slot T name id) (hty : typeOf (.builtin id) = pure (.type "method_descriptor")) (hm : MtR X id r) (hs : SimM G G.K r f) (ho : JE X G W o to mo)
    (hbase : attributeBase o name X.env (eval o X.env) = eval o X.env := by rfl) (hline : (apos.endLine == cpos.line) = true := by rfl) (hK : X.K = G.K := by rfl) :
    JE X G W (.Call (.Attribute o name apos) [] [] cpos) (tBM0 G.K T r to) (mMeth T f mo mNil) := by
  refine ⟨fun tk => hK ▸ pe_bm0 pa slot hty hm (ho.pe tk) hbase hline, fun σ H μ l s hl hs0 => (ho.sim σ H μ l s hl hs0).bind fun x H1 μ1 d s1 g1 r1 p1 => ?_⟩
  split
  · rename_i ht
    refine okP_and (isTy_ok r1 p1 ht) ?_
    exact hs H1 μ1 s1 x [] d [] _ r1 p1 .nil
  · trivial
end
def appendM (o : D) (ds : List D) (s : Sto) : R D := match o, ds with
  | .ref n, [d] => match s[n]? with
    | some (.lst xs) => if xs.length < 100000 then .ok .non (s.set n (.lst (xs ++ [d]))) else .stuck
    | _ => .stuck
  | _, _ => .stuck
theorem sm_append : SimM G K rAppend appendM := by
  intro H μ s x vs d ds W r p q
  unfold appendM
  split
  · rename_i n e
    cases p
    rename_i a ha
    obtain ⟨v, rfl, q0⟩ := q.one
    cases e1 : s[n]? with
    | none => trivial
    | some u =>
      cases u with
      | lst xs =>
        dsimp only
        split
        · rename_i hz
          obtain ⟨vs, q1, q2⟩ := r.at_ n a _ ha e1
          have hm : a ∈ μ.tr := List.mem_iff_getElem?.mpr ⟨n, ha⟩
          have g : Grow H μ (upd H a (.lst (vs ++ [v]))) μ := r.gwrite hm
          exact fun Q k => ⟨a, vs, v, rfl, rfl, q1, lt_line (by rw [q2.length]; exact hz), k _ _ μ g (r.write ha ⟨_, upd_same, (q2.append (.cons q0 .nil)).mono g⟩) .non⟩
        · trivial
      | dK _ => trivial
      | dT _ => trivial
  · trivial
end

/-! ### comprehensions -/
def wipeD (l : Loc) : List Nat → Loc
  | [] => l
  | v :: vs => (wipeD l vs).set v none
def lcL (tg : MG) (tt : MT) (me : ME) : List D → MA
  | [], _, s => .ok [] s
  | d :: ds, l, s => (tg d l s).bind fun l1 s1 => (tt l1 s1).bind fun b s2 => match b with
    | true => (me l1 s2).bind fun y s3 => (lcL tg tt me ds l s3).bind fun ys s4 => .ok (y :: ys) s4
    | false => lcL tg tt me ds l s2
def mLc (own : List Nat) (mi : MI) (tg : MG) (tt : MT) (me : ME) : ME := fun l s => (mi l s).bind fun ds s1 => (noEx (lcL tg tt me ds (wipeD l own) s1)).bind fun ys s2 => if ys.length ≤ 100000 then .ok (.lst ys) s2 else .stuck
/-- the new list tracked -/
def mLcN (own : List Nat) (mi : MI) (tg : MG) (tt : MT) (me : ME) : ME := fun l s => (mi l s).bind fun ds s1 => (noEx (lcL tg tt me ds (wipeD l own) s1)).bind fun ys s2 => if ys.length ≤ 100000 then .ok (.ref s2.length) (s2 ++ [.lst ys]) else .stuck
/-- the tests of a comprehension -/
structure JTs (X : Cx) (G : Gm) (W : WX) (ifs : List Expr) (t : TT) (m : MT) : Prop where
  pe : Takes X W → PTs X ifs t
  sim : ∀ (σ : L2.St) (H : Hp) (μ : Mu) (l : Loc) (s : Sto), RL G G.K H μ σ l → RS G G.K H μ s → okP G G.K (t σ H) (fun c d H' => W c d σ H') H μ BEq2 (m l s)
def mYes : MT := fun _ s => .ok true s
abbrev W0 : WX := fun _ _ _ _ => False
section
variable {X : Cx} {G : Gm} {K : PySem.W.Frag} {H : Hp} {μ : Mu} {s : Sto} {W : WX} {k : Nat}
theorem jts_nil : JTs X G W [] tYes mYes := ⟨fun tk => pts_nil, fun σ H μ l s hl hs Q q => q true H μ Grow.refl hs rfl⟩
theorem jts_one {c : Expr} {t : TT} {m : MT} (h : JT X G W c t m) : JTs X G W [c] t m := ⟨fun tk => pts_one (h.pe tk), h.sim⟩
theorem RL.wipe {σ : L2.St} {l : Loc} (r : RL G K H μ σ l) : ∀ vs : List Nat, RL G K H μ (wipe σ vs) (wipeD l vs)
  | [] => r
  | v :: vs => by
    have ih := RL.wipe r vs
    unfold wipeD L2.wipe
    refine ⟨by rw [List.length_set, List.length_set]; exact ih.1, fun j e h => ?_⟩
    by_cases hij : v = j
    · subst hij
      have hlt : v < (wipeD l vs).length := by
        have := (List.getElem?_eq_some_iff.mp h).1
        rwa [List.length_set] at this
      rw [List.getElem?_set_self hlt] at h
      cases h
    · rw [List.getElem?_set_ne hij] at h
      obtain ⟨u, h1, h2⟩ := ih.2 j e h
      exact ⟨u, by rw [List.getElem?_set_ne hij]; exact h1, h2⟩
/-- the target stores the own names alone -/
def Keeps (g : TG) (vs : List Nat) : Prop := ∀ (v : V) (σ : L2.St) (H : Hp) (Q : L2.St → Hp → Prop), g v σ H Q → g v σ H fun σ2 H2 => wipe σ2 vs = wipe σ vs ∧ Q σ2 H2
theorem wipe_set {σ : L2.St} {i : Nat} {x : Option V} : ∀ {vs : List Nat}, i ∈ vs → wipe (σ.set i x) vs = wipe σ vs
  | [], h => by simp at h
  | v :: vs, h => by
    unfold L2.wipe
    by_cases hm : i ∈ vs
    · rw [wipe_set hm]
    · have e : v = i := by
        rcases List.mem_cons.mp h with h | h
        · exact h.symm
        · exact absurd h hm
      subst e
      have key : ∀ (ws : List Nat), v ∉ ws → wipe (σ.set v x) ws = (wipe σ ws).set v x := by
        intro ws
        induction ws with
        | nil => intro _; rfl
        | cons w ws ih =>
          intro hn
          unfold L2.wipe
          rw [ih (fun z => hn (List.mem_cons_of_mem _ z))]
          exact List.set_comm _ _ (fun z => hn (by rw [z]; exact List.mem_cons_self))
      rw [key vs hm, List.set_set]
theorem keeps_name {i : Nat} {vs : List Nat} (h : i ∈ vs) : Keeps (gName i) vs := fun v σ H Q q => ⟨wipe_set h, q⟩
theorem keeps_tup {n : Nat} {t : TGs} {vs : List Nat} (h : ∀ (us : List V) (σ : L2.St) (H : Hp) (Q : L2.St → Hp → Prop), t us σ H Q → t us σ H fun σ2 H2 => wipe σ2 vs = wipe σ vs ∧ Q σ2 H2) : Keeps (gTup K n t) vs :=
  fun v σ H Q ⟨a, xs, e, hq, hl, q⟩ => ⟨a, xs, e, hq, hl, h xs σ H Q q⟩
def KeepsS (t : TGs) (vs : List Nat) : Prop := ∀ (us : List V) (σ : L2.St) (H : Hp) (Q : L2.St → Hp → Prop), t us σ H Q → t us σ H fun σ2 H2 => wipe σ2 vs = wipe σ vs ∧ Q σ2 H2
theorem keeps_nil {vs : List Nat} : KeepsS gNil vs := fun us σ H Q ⟨e, q⟩ => ⟨e, rfl, q⟩
theorem keeps_cons {i : Nat} {u : TGs} {vs : List Nat} (h : i ∈ vs) (hu : KeepsS u vs) : KeepsS (gCons (gName i) u) vs := fun us σ H Q ⟨v, r, e, q⟩ => ⟨v, r, e, by
  have z := hu r (σ.set i (some v)) H Q q
  rw [wipe_set h] at z
  exact z⟩
theorem wipe_wipe {σ : L2.St} : ∀ vs : List Nat, wipe (wipe σ vs) vs = wipe σ vs := by
  have key : ∀ (ws vs : List Nat), (∀ i ∈ ws, i ∈ vs) → wipe (wipe σ ws) vs = wipe σ vs := by
    intro ws
    induction ws with
    | nil => intro vs _; rfl
    | cons w ws ih =>
      intro vs h
      show wipe ((wipe σ ws).set w none) vs = _
      rw [wipe_set (h w List.mem_cons_self)]
      exact ih vs fun i hi => h i (List.mem_cons_of_mem _ hi)
  exact fun vs => key vs vs fun _ h => h
theorem Keeps.two {g : TG} {vs : List Nat} (h : Keeps g vs) {v : V} {σ : L2.St} {H : Hp} {Q : L2.St → Hp → Prop} (q : g v (wipe σ vs) H Q) : g v (wipe σ vs) H fun σ2 H2 => wipe σ2 vs = wipe σ vs ∧ Q σ2 H2 := by
  have z := h v (wipe σ vs) H Q q
  rw [wipe_wipe] at z
  exact z
theorem Grow.none_back {H1 : Hp} {μ1 : Mu} {s1 : Sto} (g : Grow H μ H1 μ1) (r : RS G K H1 μ1 s1) {a : Addr} (h : H1 a = none) : H a = none := by
  cases q : H a with
  | none => rfl
  | some o =>
    exfalso
    by_cases hm : a ∈ μ
    · rcases hm with hm | hm
      · obtain ⟨n, hn⟩ := List.mem_iff_getElem?.mp hm
        obtain ⟨u, e⟩ := r.some_ (g.pre n a hn)
        rw [h] at e; cases e
      · have := g.res a hm
        rw [h, q] at this; cases this
    · have := g.keep a o q hm
      rw [h] at this; cases this
theorem Grow.over {H1 H' H4 H5 : Hp} {μ1 μ' μ4 : Mu} {s1 : Sto} {Da : Addr} (r1 : RS G K H1 μ1 s1) (g1 : Grow H1 μ1 H' ⟨μ'.tr, μ1.rs⟩) (hr : μ'.rs = Da :: μ1.rs) (hD : H1 Da = none) (gg : Grow H' μ' H4 μ4) (hh : ∀ a, a ≠ Da → H5 a = H4 a) : Grow H1 μ1 H5 ⟨μ4.tr, μ1.rs⟩ := by
  refine ⟨fun a o h hn => ?_, fun a ha => ?_, fun n p h => gg.pre n p (g1.pre n p h), rfl, fun a ha => ?_⟩
  · have hne : a ≠ Da := ne_of_none h hD
    have h1 := g1.keep a o h hn
    have h2 : a ∉ μ' := fun z => by
      rcases z with z | z
      · exact g1.notin h hn (.inl z)
      · rw [hr] at z
        rcases List.mem_cons.mp z with z | z
        · exact hne z
        · exact hn (.inr z)
    rw [hh a hne]
    exact gg.keep a o h1 h2
  · rcases gg.news a ha with z | z
    · exact g1.news a z
    · by_cases hm : a ∈ μ1
      · rcases hm with hm | hm
        · exact .inl hm
        · right; rw [← g1.res a hm]; exact z
      · right
        cases q : H1 a with
        | none => rfl
        | some o =>
          have := g1.keep a o q hm
          rw [z] at this; cases this
  · have hne : a ≠ Da := fun z => by
      obtain ⟨⟨o, e⟩, _⟩ := r1.rk a ha
      rw [z, hD] at e; cases e
    rw [hh a hne, gg.res a (by rw [hr]; exact List.mem_cons_of_mem _ ha)]
    exact g1.res a ha
theorem RS.rwrite {Da : Addr} {o : HO} (r : RS G K H μ s) (h : Da ∈ μ.rs) : RS G K (upd H Da o) μ s ∧ Mono H μ (upd H Da o) μ := by
  have m : Mono H μ (upd H Da o) μ := ⟨fun a u e hn => by rw [upd_ne (show a ≠ Da from fun z => hn (.inr (z ▸ h)))]; exact e, fun _ _ _ n => n, fun _ _ e => e⟩
  refine ⟨⟨r.len, r.nd, fun n p u e1 e2 => (r.at_ n p u e1 e2).mon m fun u e => ?_, fun a ha => ?_⟩, m⟩
  · have hp : p ∈ μ.tr := List.mem_iff_getElem?.mpr ⟨n, e1⟩
    rw [upd_ne (show p ≠ Da from fun z => (r.rk Da h).2 (z ▸ hp))]
    exact e
  · obtain ⟨⟨u, e⟩, n⟩ := r.rk a ha
    by_cases z : a = Da
    · exact ⟨⟨o, by rw [z, upd_same]⟩, n⟩
    · exact ⟨⟨u, by rw [upd_ne z]; exact e⟩, n⟩
theorem bind_ok_inv {α β : Type} {r : R α} {f : α → Sto → R β} {b : β} {s : Sto} (h : r.bind f = .ok b s) : ∃ a s1, r = .ok a s1 ∧ f a s1 = .ok b s := by
  cases r with
  | ok a s1 => exact ⟨a, s1, rfl, h⟩
  | ex c s1 => cases h
  | stuck => cases h
/-- a comprehension's list while it grows: D is reserved -/
theorem lc_run {wi : TI} {g : TG} {tt : TT} {te : TE} {vs : List Nat} {mi : MI} {tg : MG} {mt : MT} {me : ME} {σ : L2.St} {l : Loc}
    (hkeep : Keeps g vs)
    (hi : okP G K (wi σ H) (fun c d H' => W c d σ H') H μ (RI G K) (mi l s))
    (hg : ∀ (σ : L2.St) (H : Hp) (μ : Mu) (l : Loc) (s : Sto) (v : V) (d : D), RL G K H μ σ l → RS G K H μ s → Rp G K H μ v d → okP G K (fun Q : L2.St → Hp → Prop => g v σ H Q) (fun _ _ _ => False) H μ (RL G K) (tg d l s))
    (ht : ∀ (σ : L2.St) (H : Hp) (μ : Mu) (l : Loc) (s : Sto), RL G K H μ σ l → RS G K H μ s → okP G K (tt σ H) (fun _ _ _ => False) H μ BEq2 (mt l s))
    (he : ∀ (σ : L2.St) (H : Hp) (μ : Mu) (l : Loc) (s : Sto), RL G K H μ σ l → RS G K H μ s → okP G K (te σ H) (fun _ _ _ => False) H μ (Rp G K) (me l s))
    (hl : RL G K H μ σ l) (f : List D → Sto → R D)
    (hf : ∀ (H' : Hp) (μ' : Mu) (s' : Sto) (Da : Addr) (ys : List D) (us : List V) (d : D) (s2 : Sto), f ys s' = .ok d s2 → Grow H μ H' μ' → RS G K H' ⟨μ'.tr, Da :: μ'.rs⟩ s' → H' Da = some (.lst us) → H Da = none → RpA G K H' ⟨μ'.tr, Da :: μ'.rs⟩ us ys → ∃ μ2, Grow H μ H' μ2 ∧ RS G K H' μ2 s2 ∧ Rp G K H' μ2 (.ref Da) d)
    (hfx : ∀ ys s' c s2, f ys s' ≠ .ex c s2) (hfl : ∀ ys s' d s2, f ys s' = .ok d s2 → ys.length ≤ 100000) :
    okP G K (tLc wi g tt te vs σ H) (fun c d H' => W c d σ H') H μ (Rp G K) ((mi l s).bind fun ds s1 => (noEx (lcL tg mt me ds (wipeD l vs) s1)).bind f) := by
  cases e1 : mi l s with
  | stuck => trivial
  | ex c s1 =>
    rw [e1] at hi
    exact fun Q q => hi _ fun C d H' μ' g r cc ff => q C d H' μ' g r cc ff
  | ok ds s1 =>
    rw [e1] at hi
    show okP G K (tLc wi g tt te vs σ H) (fun c d H' => W c d σ H') H μ (Rp G K) ((noEx (lcL tg mt me ds (wipeD l vs) s1)).bind f)
    cases e2 : lcL tg mt me ds (wipeD l vs) s1 with
    | stuck => trivial
    | ex c s2 => trivial
    | ok ys s2 =>
      show okP G K (tLc wi g tt te vs σ H) (fun c d H' => W c d σ H') H μ (Rp G K) (f ys s2)
      cases e3 : f ys s2 with
      | stuck => trivial
      | ex c s3 => exact absurd e3 (hfx _ _ _ _)
      | ok d s3 =>
        intro Q q
        have hlen := hfl _ _ _ _ e3
        refine hi _ fun J H1 μ1 g1 r1 ri Da hD => ?_
        have hDn : Da ∉ μ1 := r1.notin hD
        have hm1 : ∀ {H' : Hp} {μ' : Mu}, Grow H1 μ1 H' ⟨μ'.tr, μ1.rs⟩ → μ'.rs = Da :: μ1.rs → Mono H1 μ1 H' μ' := fun {H' μ'} g hr => by
          refine ⟨g.keep, fun a o h n z => ?_, g.pre⟩
          rcases z with z | z
          · exact g.notin h n (.inl z)
          · rw [hr] at z
            rcases List.mem_cons.mp z with z | z
            · exact ne_of_none h hD z
            · exact n (.inr z)
        refine ⟨fun i m H' => ∃ (μ' : Mu) (s' : Sto) (us : List V) (acc rest : List D), Grow H1 μ1 H' ⟨μ'.tr, μ1.rs⟩ ∧ μ'.rs = Da :: μ1.rs ∧ RS G K H' μ' s' ∧ H' Da = some (.lst us) ∧ RpA G K H' μ' us acc ∧
          lcL tg mt me (ds.drop i) (wipeD l vs) s' = .ok rest s2 ∧ ys = acc ++ rest ∧ i + m = ds.length, ⟨ds.length, ?_⟩, fun i m H' hW => ?_⟩
        · have m0 : Mono H1 μ1 (upd H1 Da (.lst [])) ⟨μ1.tr, Da :: μ1.rs⟩ := by
            refine ⟨fun a o h _ => by rw [upd_ne (ne_of_none h hD)]; exact h, fun a o h n z => ?_, fun _ _ h => h⟩
            rcases z with z | z
            · exact n (.inl z)
            · rcases List.mem_cons.mp z with z | z
              · exact ne_of_none h hD z
              · exact n (.inr z)
          refine ⟨⟨μ1.tr, Da :: μ1.rs⟩, s1, [], [], ys, r1.galloc hD, rfl, ⟨r1.len, r1.nd, fun n p u a b => (r1.at_ n p u a b).mon m0 fun u e => by rw [upd_ne (ne_of_none e hD)]; exact e, fun a ha => ?_⟩, upd_same, .nil, e2, rfl, by omega⟩
          rcases List.mem_cons.mp ha with z | z
          · exact ⟨⟨_, by rw [z, upd_same]⟩, fun w => hDn (.inl (z ▸ w))⟩
          · obtain ⟨⟨o, e⟩, n⟩ := r1.rk a z
            exact ⟨⟨o, by rw [upd_ne (ne_of_none e hD)]; exact e⟩, n⟩
        · obtain ⟨μ', s', us, acc, rest, g', hr, rs', hus, racc, hrun, hys, him⟩ := hW
          have mono' := hm1 g' hr
          obtain ⟨rgo, rstop⟩ := ri H' μ' mono' s' rs' i
          by_cases hi2 : ds.length ≤ i
          · left
            refine ⟨rstop hi2, ?_⟩
            rw [List.drop_of_length_le hi2] at hrun
            simp only [lcL, R.ok.injEq] at hrun
            obtain ⟨rfl, rfl⟩ := hrun
            rw [List.append_nil] at hys
            subst hys
            have em : (⟨μ'.tr, Da :: μ1.rs⟩ : Mu) = μ' := by rw [← hr]
            obtain ⟨μ2, k1, k2, k3⟩ := hf H' ⟨μ'.tr, μ1.rs⟩ s' Da ys us d s3 e3 (g1.trans g') (by show RS G K H' ⟨μ'.tr, Da :: μ1.rs⟩ s'; rw [em]; exact rs') hus (g1.none_back r1 hD) (by show RpA G K H' ⟨μ'.tr, Da :: μ1.rs⟩ us ys; rw [em]; exact racc)
            exact q _ H' μ2 k1 k2 k3
          · right
            have hlt : i < ds.length := by omega
            rw [List.drop_eq_getElem_cons hlt] at hrun
            simp only [lcL] at hrun
            obtain ⟨l1, t1, h1, hrun⟩ := bind_ok_inv hrun
            obtain ⟨b, t2, h2, hrun⟩ := bind_ok_inv hrun
            have hgo := rgo ds[i] (List.getElem?_eq_getElem hlt)
            refine ⟨hgo.1, fun H5 => ∃ (μ' : Mu) (s' : Sto) (us : List V) (acc rest : List D), Grow H1 μ1 H5 ⟨μ'.tr, μ1.rs⟩ ∧ μ'.rs = Da :: μ1.rs ∧ RS G K H5 μ' s' ∧ H5 Da = some (.lst us) ∧ RpA G K H5 μ' us acc ∧
              lcL tg mt me (ds.drop (i + 1)) (wipeD l vs) s' = .ok rest s2 ∧ ys = acc ++ rest, fun H5 h5 => ?_, fun x H'' hy => ?_⟩
            · obtain ⟨a, b, c, dd, e, f1, f2, f3, f4, f5, f6, f7⟩ := h5
              exact ⟨m - 1, by omega, a, b, c, dd, e, f1, f2, f3, f4, f5, f6, f7, by omega⟩
            · obtain ⟨gy, ry, py⟩ := hgo.2 x H'' hy
              have hlw : RL G K H'' μ' (wipe σ vs) (wipeD l vs) := (((hl.mono g1).mon mono').mono gy).wipe vs
              have hDr : Da ∈ μ'.rs := by rw [hr]; exact List.mem_cons_self
              have zg := hg (wipe σ vs) H'' μ' (wipeD l vs) s' x ds[i] hlw ry py
              rw [h1] at zg
              refine hkeep.two (zg _ fun σ2 H2 μ2 g2 r2 p2 => ?_)
              have zt := ht σ2 H2 μ2 l1 t1 p2 r2
              rw [h2] at zt
              refine zt _ fun b' H3 μ3 g3 r3 hb => ?_
              subst hb
              have gg3 : Grow H' μ' H3 μ3 := (gy.trans g2).trans g3
              cases b' with
              | false =>
                rw [if_neg Bool.false_ne_true]
                dsimp only at hrun
                refine ⟨μ3, t2, us, acc, rest, Grow.over r1 g' hr hD gg3 fun _ _ => rfl, gg3.rs.trans hr, r3, ?_, racc.mono gg3, hrun, hys⟩
                rw [gg3.res Da hDr]; exact hus
              | true =>
                rw [if_pos rfl]
                dsimp only at hrun
                obtain ⟨y, t3, h3, hrun⟩ := bind_ok_inv hrun
                obtain ⟨ys', t4, h4, hrun⟩ := bind_ok_inv hrun
                simp only [R.ok.injEq] at hrun
                obtain ⟨rfl, rfl⟩ := hrun
                have ze := he σ2 H3 μ3 l1 t2 (p2.mono g3) r3
                rw [h3] at ze
                refine ze _ fun v H4 μ4 g4 r4 p4 => ?_
                have gg4 : Grow H' μ' H4 μ4 := gg3.trans g4
                have hr4 : μ4.rs = Da :: μ1.rs := gg4.rs.trans hr
                have hus4 : H4 Da = some (.lst us) := by rw [gg4.res Da hDr]; exact hus
                refine ⟨us, hus4, lt_line ?_, ?_⟩
                · rw [racc.length]
                  have : ys.length = acc.length + (ys'.length + 1) := by rw [hys, List.length_append, List.length_cons]
                  omega
                · obtain ⟨r5, m5⟩ := r4.rwrite (Da := Da) (o := .lst (us ++ [v])) (by rw [hr4]; exact List.mem_cons_self)
                  refine ⟨μ4, t3, us ++ [v], acc ++ [y], ys', Grow.over r1 g' hr hD gg4 fun a ha => upd_ne ha, hr4, r5, upd_same, ((racc.mono gg4).append (.cons p4 .nil)).mon m5, h4, ?_⟩
                  rw [hys, List.append_assoc]; rfl
/-- the list is frozen -/
theorem lc_frozen {s0 s' : Sto} {Da : Addr} {us : List V} {ys : List D} (r0 : RS G K H μ s0) {H' : Hp} {μ' : Mu} (g : Grow H μ H' μ') (r : RS G K H' ⟨μ'.tr, Da :: μ'.rs⟩ s') (hD : H' Da = some (.lst us)) (h0 : H Da = none) (p : RpA G K H' ⟨μ'.tr, Da :: μ'.rs⟩ us ys) :
    Grow H μ H' μ' ∧ RS G K H' μ' s' ∧ Rp G K H' μ' (.ref Da) (.lst ys) := by
  have m : Mono H' ⟨μ'.tr, Da :: μ'.rs⟩ H' μ' := ⟨fun _ _ h _ => h, fun a o h n z => by
    rcases z with z | z
    · exact n (.inl z)
    · exact n (.inr (List.mem_cons_of_mem _ z)), fun _ _ h => h⟩
  refine ⟨g, ⟨r.len, r.nd, fun n q u a b => (r.at_ n q u a b).mon m fun u e => e, fun a ha => r.rk a (List.mem_cons_of_mem _ ha)⟩, .lst hD (fun z => ?_) (p.mon m)⟩
  rcases z with z | z
  · exact (r.rk Da List.mem_cons_self).2 z
  · rw [g.rs] at z
    obtain ⟨⟨o, e⟩, _⟩ := r0.rk Da z
    rw [h0] at e; cases e
/-- the list is tracked -/
theorem lc_tracked {s0 s' : Sto} {Da : Addr} {us : List V} {ys : List D} (r0 : RS G K H μ s0) {H' : Hp} {μ' : Mu} (g : Grow H μ H' μ') (r : RS G K H' ⟨μ'.tr, Da :: μ'.rs⟩ s') (hD : H' Da = some (.lst us)) (h0 : H Da = none) (p : RpA G K H' ⟨μ'.tr, Da :: μ'.rs⟩ us ys) :
    Grow H μ H' (μ'.add Da) ∧ RS G K H' (μ'.add Da) (s' ++ [.lst ys]) ∧ Rp G K H' (μ'.add Da) (.ref Da) (.ref s'.length) := by
  have hn : Da ∉ μ'.rs := fun z => by
    rw [g.rs] at z
    obtain ⟨⟨o, e⟩, _⟩ := r0.rk Da z
    rw [h0] at e; cases e
  have ht : Da ∉ μ'.tr := (r.rk Da List.mem_cons_self).2
  have m : Mono H' ⟨μ'.tr, Da :: μ'.rs⟩ H' (μ'.add Da) := ⟨fun _ _ h _ => h, fun a o h n z => by
    rcases z with z | z
    · rcases List.mem_append.mp z with z | z
      · exact n (.inl z)
      · rw [List.mem_singleton] at z
        exact n (.inr (by rw [z]; exact List.mem_cons_self))
    · exact n (.inr (List.mem_cons_of_mem _ z)), fun n q e => by
    show (μ'.tr ++ [Da])[n]? = some q
    have e : μ'.tr[n]? = some q := e
    rw [List.getElem?_append_left (List.getElem?_eq_some_iff.mp e).1]; exact e⟩
  have hlen : μ'.tr.length = s'.length := r.len
  have hlast : (μ'.tr ++ [Da])[s'.length]? = some Da := by rw [← hlen, List.getElem?_append_right (Nat.le_refl _), Nat.sub_self]; rfl
  refine ⟨⟨g.keep, fun a ha => ?_, fun n q e => ?_, g.rs, g.res⟩, ⟨?_, ?_, fun n q u a b => ?_, fun a ha => ?_⟩, .ref hlast⟩
  · rcases List.mem_append.mp ha with z | z
    · exact g.news a z
    · rw [List.mem_singleton] at z; right; rw [z]; exact h0
  · have e := g.pre n q e
    show (μ'.tr ++ [Da])[n]? = some q
    rw [List.getElem?_append_left (List.getElem?_eq_some_iff.mp e).1]; exact e
  · show (μ'.tr ++ [Da]).length = _
    rw [List.length_append, List.length_append, hlen]; rfl
  · show (μ'.tr ++ [Da]).Nodup
    rw [List.nodup_append]
    refine ⟨r.nd, by simp, fun a ha b hb => ?_⟩
    rw [List.mem_singleton] at hb
    subst hb
    intro z
    subst z
    exact ht ha
  · have a : (μ'.tr ++ [Da])[n]? = some q := a
    by_cases hlt : n < μ'.tr.length
    · rw [List.getElem?_append_left hlt] at a
      rw [List.getElem?_append_left (by rw [← hlen]; exact hlt)] at b
      exact (r.at_ n q u a b).mon m fun u e => e
    · have hn2 : n = s'.length := by
        have := (List.getElem?_eq_some_iff.mp a).1
        rw [List.length_append] at this
        simp at this
        omega
      subst hn2
      rw [hlast] at a
      cases a
      rw [List.getElem?_append_right (Nat.le_refl _), Nat.sub_self] at b
      simp at b
      subst b
      exact ⟨us, hD, p.mon m⟩
  · obtain ⟨e, n⟩ := r.rk a (List.mem_cons_of_mem _ ha)
    refine ⟨e, fun z => ?_⟩
    rcases List.mem_append.mp z with z | z
    · exact n z
    · rw [List.mem_singleton] at z
      exact hn (z ▸ ha)
end
end DL


namespace DL
open PySem PySem.Spec PyProof.Rows L2
section
variable {X : Cx} {G : Gm} {K : PySem.W.Frag} {H : Hp} {μ : Mu} {s : Sto} {W : WX} {k : Nat}

/-! ### comprehensions as expressions -/
section
variable {elt tg iter : Expr} {ifs : List Expr} {scope : Scope} {own : List (Str × Nat)} {pos : Pos} {wi : TI} {g : TG} {tt : TT} {te : TE} {mi : MI} {mg : MG} {mt : MT} {me : ME}
theorem lc_sim (hi : JI X G W tg iter wi mi) (hk : Keeps g (own.map (·.2)))
    (hg : ∀ (s : Shared) (H : Hp) (C : Addr) (cl : List (Str × Addr)) (fp : List Addr), JG (X.blk s H scope (compEnvC scope cl C X.env) fp) G W0 tg g mg) (ht : ∀ (s : Shared) (H : Hp) (C : Addr) (cl : List (Str × Addr)) (fp : List Addr), JTs (X.blk s H scope (compEnvC scope cl C X.env) fp) G W0 ifs tt mt)
    (he : ∀ (s : Shared) (H : Hp) (C : Addr) (cl : List (Str × Addr)) (fp : List Addr), JE (X.blk s H scope (compEnvC scope cl C X.env) fp) G W0 elt te me) :
    (∀ (σ : L2.St) (H : Hp) (μ : Mu) (l : Loc) (s : Sto), RL G G.K H μ σ l → RS G G.K H μ s → okP G G.K (tLc wi g tt te (own.map (·.2)) σ H) (fun c d H' => W c d σ H') H μ (Rp G G.K) (mLc (own.map (·.2)) mi mg mt me l s)) ∧
    (∀ (σ : L2.St) (H : Hp) (μ : Mu) (l : Loc) (s : Sto), RL G G.K H μ σ l → RS G G.K H μ s → okP G G.K (tLc wi g tt te (own.map (·.2)) σ H) (fun c d H' => W c d σ H') H μ (Rp G G.K) (mLcN (own.map (·.2)) mi mg mt me l s)) := by
  have kg := (hg X.s_0 X.H_0 0 [] []).sim
  have kt := (ht X.s_0 X.H_0 0 [] []).sim
  have ke := (he X.s_0 X.H_0 0 [] []).sim
  refine ⟨fun σ H μ l s hl hs => ?_, fun σ H μ l s hl hs => ?_⟩
  · refine lc_run hk (hi.sim σ H μ l s hl hs) kg kt ke hl (fun ys s2 => if ys.length ≤ 100000 then .ok (.lst ys) s2 else .stuck) (fun H' μ' s' Da ys us d s2 e g r hD h0 p => ?_) (fun ys s' c s2 e => ?_) (fun ys s' d s2 e => ?_)
    · split at e
      · cases e; exact ⟨μ', lc_frozen hs g r hD h0 p⟩
      · cases e
    · split at e <;> cases e
    · split at e
      · assumption
      · cases e
  · refine lc_run hk (hi.sim σ H μ l s hl hs) kg kt ke hl (fun ys s2 => if ys.length ≤ 100000 then .ok (.ref s2.length) (s2 ++ [.lst ys]) else .stuck) (fun H' μ' s' Da ys us d s2 e g r hD h0 p => ?_) (fun ys s' c s2 e => ?_) (fun ys s' d s2 e => ?_)
    · split at e
      · cases e; exact ⟨_, lc_tracked hs g r hD h0 p⟩
      · cases e
    · split at e <;> cases e
    · split at e
      · assumption
      · cases e
theorem je_lc (hc : X.calm = true) (hN : X.N.Nodup) (hi : JI X G W tg iter wi mi) (ok : BlkOk X.N X.env.scope scope own) (hk : Keeps g (own.map (·.2)))
    (hg : ∀ (s : Shared) (H : Hp) (C : Addr) (cl : List (Str × Addr)) (fp : List Addr), JG (X.blk s H scope (compEnvC scope cl C X.env) fp) G W0 tg g mg) (ht : ∀ (s : Shared) (H : Hp) (C : Addr) (cl : List (Str × Addr)) (fp : List Addr), JTs (X.blk s H scope (compEnvC scope cl C X.env) fp) G W0 ifs tt mt)
    (he : ∀ (s : Shared) (H : Hp) (C : Addr) (cl : List (Str × Addr)) (fp : List Addr), JE (X.blk s H scope (compEnvC scope cl C X.env) fp) G W0 elt te me) (hs : ∀ x, foldedSetIterable iter X.env x = pure x := by intro _; rfl) :
    JE X G W (.ListComp elt [⟨tg, iter, ifs, 0⟩] scope pos) (tLc wi g tt te (own.map (·.2))) (mLc (own.map (·.2)) mi mg mt me) :=
  ⟨fun tk => pe_lc hc hN (hi.pe tk) ok (fun s H C cl fp => (hg s H C cl fp).pe takes0) (fun s H C cl fp => (ht s H C cl fp).pe takes0) (fun s H C cl fp => (he s H C cl fp).pe takes0) hs, (lc_sim hi hk hg ht he).1⟩
theorem je_lcN (hc : X.calm = true) (hN : X.N.Nodup) (hi : JI X G W tg iter wi mi) (ok : BlkOk X.N X.env.scope scope own) (hk : Keeps g (own.map (·.2)))
    (hg : ∀ (s : Shared) (H : Hp) (C : Addr) (cl : List (Str × Addr)) (fp : List Addr), JG (X.blk s H scope (compEnvC scope cl C X.env) fp) G W0 tg g mg) (ht : ∀ (s : Shared) (H : Hp) (C : Addr) (cl : List (Str × Addr)) (fp : List Addr), JTs (X.blk s H scope (compEnvC scope cl C X.env) fp) G W0 ifs tt mt)
    (he : ∀ (s : Shared) (H : Hp) (C : Addr) (cl : List (Str × Addr)) (fp : List Addr), JE (X.blk s H scope (compEnvC scope cl C X.env) fp) G W0 elt te me) (hs : ∀ x, foldedSetIterable iter X.env x = pure x := by intro _; rfl) :
    JE X G W (.ListComp elt [⟨tg, iter, ifs, 0⟩] scope pos) (tLc wi g tt te (own.map (·.2))) (mLcN (own.map (·.2)) mi mg mt me) :=
  ⟨fun tk => pe_lc hc hN (hi.pe tk) ok (fun s H C cl fp => (hg s H C cl fp).pe takes0) (fun s H C cl fp => (ht s H C cl fp).pe takes0) (fun s H C cl fp => (he s H C cl fp).pe takes0) hs, (lc_sim hi hk hg ht he).2⟩
end

/-! ### statements -/
structure JS (X : Cx) (G : Gm) (W : WX) (st : Stmt) (t : TS) (m : MS) : Prop where
  pe : Takes X W → PassesOwn (model X.prog X.w) X.A X.env X.xe → PS X st t
  sim : ∀ (σ : L2.St) (H : Hp) (μ : Mu) (l : Loc) (s : Sto), RL G G.K H μ σ l → RS G G.K H μ s → okS G G.K t W σ H μ (m l s)
structure JSs (X : Cx) (G : Gm) (W : WX) (st : List Stmt) (t : TS) (m : MS) : Prop where
  pe : Takes X W → PassesOwn (model X.prog X.w) X.A X.env X.xe → PSs X st t
  sim : ∀ (σ : L2.St) (H : Hp) (μ : Mu) (l : Loc) (s : Sto), RL G G.K H μ σ l → RS G G.K H μ s → okS G G.K t W σ H μ (m l s)
def mNext : MS := fun l s => .nx l s
def mSeq (m n : MS) : MS := fun l s => match m l s with
  | .nx l1 s1 => n l1 s1
  | o => o
section
variable {st : Stmt} {rest : List Stmt} {t u : TS} {m n : MS} {e : Expr} {te : TE} {me : ME} {pos : Pos}
theorem jss_nil : JSs X G W [] tNext mNext := ⟨fun _ _ => pss_nil, fun σ H μ l s hl hs D q => q σ H μ Grow.refl hl hs⟩
theorem jss_one (h : JS X G W st t m) : JSs X G W [st] t m := ⟨fun a b => pss_one (h.pe a b), h.sim⟩
theorem jss_cons (h1 : JS X G W st t m) (h2 : JSs X G W rest u n) : JSs X G W (st :: rest) (tSeq t u) (mSeq m n) := by
  refine ⟨fun a b => pss_cons (h1.pe a b) (h2.pe a b), fun σ H μ l s hl hs D q => ?_⟩
  refine h1.sim σ H μ l s hl hs { D with nx := u D } ?_
  unfold mSeq at q
  cases e : m l s with
  | nx l1 s1 =>
    rw [e] at q
    exact fun σ' H' μ' g rl rs => h2.sim σ' H' μ' l1 s1 rl rs D (q.up g)
  | rt d s1 => rw [e] at q; exact q
  | bk l1 s1 => rw [e] at q; exact q
  | ct l1 s1 => rw [e] at q; exact q
  | ex x l1 s1 => rw [e] at q; exact q
  | stuck => rw [e] at q; exact q
/-- locals behind, as an outcome -/
def toOut (l : Loc) : R Loc → Out
  | .ok l1 s1 => .nx l1 s1
  | .ex c s1 => .ex c l s1
  | .stuck => .stuck
theorem okS_of {T : (L2.St → Hp → Prop) → Prop} {t : TS} {σ : L2.St} {l : Loc} {r : R Loc} (ht : ∀ D : Ends, t D σ H = T D.nx) (hl : RL G K H μ σ l) (h : okP G K T (fun c d H' => W c d σ H') H μ (RL G K) r) : okS G K t W σ H μ (toOut l r) := by
  intro D q
  rw [ht]
  cases r with
  | ok l1 s1 => exact h _ fun σ' H' μ' g rs rl => q σ' H' μ' g rl rs
  | ex c s1 => exact h _ fun C d H' μ' g rs hc hf => q C d σ H' μ' g (hl.mono g) rs hc hf
  | stuck => exact q.elim
def mAsg (me : ME) (mg : MG) : MS := fun l s => toOut l ((me l s).bind fun d s1 => mg d l s1)
theorem js_asg {tg : Expr} {g : TG} {mg : MG} (he : JE X G W e te me) (hg : JG X G W tg g mg) (hs : swapsWithSole [tg] e pos.line X.env = pure false := by rfl) (hw : swappedStores [tg] e X.env = pure none := by rfl)
    (h1 : (assignEach [tg] X.env).map (·.2) = [assign tg X.env] := by rfl) : JS X G W (.Assign [tg] e pos) (tAsg te g) (mAsg me mg) :=
  ⟨fun a _ => ps_asg (he.pe a) (hg.pe a) hs hw h1, fun σ H μ l s hl hs => okS_of (T := fun Q => te σ H fun x H1 => g x σ H1 Q) (fun _ => rfl) hl
    ((he.sim σ H μ l s hl hs).bind fun x H1 μ1 d s1 g1 r1 p1 => hg.sim σ H1 μ1 l s1 x d (hl.mono g1) r1 p1)⟩
theorem js_set {i : Nat} {x : Str} {pos' : Pos} (hN : X.N.Nodup) (he : JE X G W e te me) (hi : X.N[i]? = some x := by rfl) (hx : L2.Loc X.env.scope x := by first | exact Or.inl rfl | exact Or.inr rfl) (hs : swapsWith e (some (.Name x pos')) pos.line X.env = pure false := by rfl) (hf : X.fn x = true ∨ X.env.scope.names.lookup x = some .local := by first | exact .inl rfl | exact .inr rfl | assumption) :
    JS X G W (.Assign [.Name x pos'] e pos) (tAsg te (gName i)) (mAsg me (mgName i)) :=
  ⟨fun a _ => ps_set hN hi hx (he.pe a) hs hf, fun σ H μ l s hl hs => okS_of (T := fun Q => te σ H fun x H1 => gName i x σ H1 Q) (fun _ => rfl) hl
    ((he.sim σ H μ l s hl hs).bind fun x H1 μ1 d s1 g1 r1 p1 => fun Q q => q _ H1 μ1 Grow.refl r1 ((hl.mono g1).set p1))⟩
/-- name = [..] -/
theorem js_setLc {i : Nat} {y : Str} {py : Pos} {elt tg iter : Expr} {ifs : List Expr} {scope : Scope} {own : List (Str × Nat)} {spos : Pos} {wi : TI} {g : TG} {tt : TT} {mi : MI} {mg : MG} {mt : MT} (hc : X.calm = true) (hN : X.N.Nodup) (hi : JI X G W tg iter wi mi) (ok : BlkOk X.N X.env.scope scope own) (hk : Keeps g (own.map (·.2)))
    (hg : ∀ (s : Shared) (H : Hp) (C : Addr) (cl : List (Str × Addr)) (fp : List Addr), JG (X.blk s H scope (compEnvC scope cl C X.env) fp) G W0 tg g mg) (ht : ∀ (s : Shared) (H : Hp) (C : Addr) (cl : List (Str × Addr)) (fp : List Addr), JTs (X.blk s H scope (compEnvC scope cl C X.env) fp) G W0 ifs tt mt)
    (he : ∀ (s : Shared) (H : Hp) (C : Addr) (cl : List (Str × Addr)) (fp : List Addr), JE (X.blk s H scope (compEnvC scope cl C X.env) fp) G W0 elt te me)
    (hy : X.N[i]? = some y := by rfl) (hyl : X.env.scope.names.lookup y = some .local := by rfl) (hsw : swapsWith (.ListComp elt [⟨tg, iter, ifs, 0⟩] scope pos) (some (.Name y py)) spos.line X.env = pure true := by exact sw_true rfl rfl rfl (by decide +kernel)) (hs : ∀ x, foldedSetIterable iter X.env x = pure x := by intro _; rfl) :
    JS X G W (.Assign [.Name y py] (.ListComp elt [⟨tg, iter, ifs, 0⟩] scope pos) spos) (tAsg (tLc wi g tt te (own.map (·.2))) (gName i)) (mAsg (mLc (own.map (·.2)) mi mg mt me) (mgName i)) :=
  ⟨fun tk _ => ps_setLc hc hN hy hyl hsw (hi.pe tk) ok (fun s H C cl fp => (hg s H C cl fp).pe takes0) (fun s H C cl fp => (ht s H C cl fp).pe takes0) (fun s H C cl fp => (he s H C cl fp).pe takes0) hs,
    fun σ H μ l s hl hs => okS_of (T := fun Q => tLc wi g tt te (own.map (·.2)) σ H fun x H1 => gName i x σ H1 Q) (fun _ => rfl) hl
    (okP.bind (u := fun x H1 Q => gName i x σ H1 Q) (f := fun d s1 => mgName i d l s1) (Rm := RL G G.K) ((lc_sim hi hk hg ht he).1 σ H μ l s hl hs) fun x H1 μ1 d s1 g1 r1 p1 => fun Q q => q _ H1 μ1 Grow.refl r1 ((hl.mono g1).set p1))⟩
theorem js_setLcN {i : Nat} {y : Str} {py : Pos} {elt tg iter : Expr} {ifs : List Expr} {scope : Scope} {own : List (Str × Nat)} {spos : Pos} {wi : TI} {g : TG} {tt : TT} {mi : MI} {mg : MG} {mt : MT} (hc : X.calm = true) (hN : X.N.Nodup) (hi : JI X G W tg iter wi mi) (ok : BlkOk X.N X.env.scope scope own) (hk : Keeps g (own.map (·.2)))
    (hg : ∀ (s : Shared) (H : Hp) (C : Addr) (cl : List (Str × Addr)) (fp : List Addr), JG (X.blk s H scope (compEnvC scope cl C X.env) fp) G W0 tg g mg) (ht : ∀ (s : Shared) (H : Hp) (C : Addr) (cl : List (Str × Addr)) (fp : List Addr), JTs (X.blk s H scope (compEnvC scope cl C X.env) fp) G W0 ifs tt mt)
    (he : ∀ (s : Shared) (H : Hp) (C : Addr) (cl : List (Str × Addr)) (fp : List Addr), JE (X.blk s H scope (compEnvC scope cl C X.env) fp) G W0 elt te me)
    (hy : X.N[i]? = some y := by rfl) (hyl : X.env.scope.names.lookup y = some .local := by rfl) (hsw : swapsWith (.ListComp elt [⟨tg, iter, ifs, 0⟩] scope pos) (some (.Name y py)) spos.line X.env = pure true := by exact sw_true rfl rfl rfl (by decide +kernel)) (hs : ∀ x, foldedSetIterable iter X.env x = pure x := by intro _; rfl) :
    JS X G W (.Assign [.Name y py] (.ListComp elt [⟨tg, iter, ifs, 0⟩] scope pos) spos) (tAsg (tLc wi g tt te (own.map (·.2))) (gName i)) (mAsg (mLcN (own.map (·.2)) mi mg mt me) (mgName i)) :=
  ⟨fun tk _ => ps_setLc hc hN hy hyl hsw (hi.pe tk) ok (fun s H C cl fp => (hg s H C cl fp).pe takes0) (fun s H C cl fp => (ht s H C cl fp).pe takes0) (fun s H C cl fp => (he s H C cl fp).pe takes0) hs,
    fun σ H μ l s hl hs => okS_of (T := fun Q => tLc wi g tt te (own.map (·.2)) σ H fun x H1 => gName i x σ H1 Q) (fun _ => rfl) hl
    (okP.bind (u := fun x H1 Q => gName i x σ H1 Q) (f := fun d s1 => mgName i d l s1) (Rm := RL G G.K) ((lc_sim hi hk hg ht he).2 σ H μ l s hl hs) fun x H1 μ1 d s1 g1 r1 p1 => fun Q q => q _ H1 μ1 Grow.refl r1 ((hl.mono g1).set p1))⟩
/-- a, b = x, y -/
def mPar (i j : Nat) (ma : MA) : MS := fun l s => toOut l ((ma l s).bind fun ds s1 => match ds with
  | [d, e] => .ok ((l.set i (some d)).set j (some e)) s1
  | _ => .stuck)
theorem js_par {i j : Nat} {x y : Str} {a b : Expr} {ta : TA} {ma : MA} {px py pt : Pos} {kt k2 pt2} (hc : X.calm = true) (hN : X.N.Nodup) (ha : JA X G W [a, b] ta ma) (hi : X.N[i]? = some x := by rfl) (hj : X.N[j]? = some y := by rfl) (hij : i ≠ j := by decide)
    (hx : X.env.scope.names.lookup x = some .local := by rfl) (hy : X.env.scope.names.lookup y = some .local := by rfl)
    (hw : swappedStores [.Tuple [.Name x px, .Name y py] kt pt] (.Tuple [a, b] k2 pt2) X.env = pure (some [x, y]) := by rfl)
    (hs : swapsWithSole [.Tuple [.Name x px, .Name y py] kt pt] (.Tuple [a, b] k2 pt2) pos.line X.env = pure false := by rfl) :
    JS X G W (.Assign [.Tuple [.Name x px, .Name y py] kt pt] (.Tuple [a, b] k2 pt2) pos) (tPar i j ta) (mPar i j ma) := by
  refine ⟨fun tk _ => ps_par hc hN hi hj hij hx hy (ha.pe tk) hw hs, fun σ H μ l s hl hs => ?_⟩
  refine okS_of (T := fun Q => ta σ H fun vs H1 => ∃ v w, vs = [v, w] ∧ Q ((σ.set i (some v)).set j (some w)) H1) (fun _ => rfl) hl ((ha.sim σ H μ l s hl hs).bind fun xs H1 μ1 ds s1 g1 r1 p1 => ?_)
  split
  · obtain ⟨v, u, rfl, p0, p2⟩ := p1.two
    exact fun Q q => ⟨v, u, rfl, q _ H1 μ1 Grow.refl r1 (((hl.mono g1).set p0).set p2)⟩
  · trivial
def mPar3 (i j n : Nat) (ma : MA) : MS := fun l s => toOut l ((ma l s).bind fun ds s1 => match ds with
  | [d, e, f] => .ok (((l.set i (some d)).set j (some e)).set n (some f)) s1
  | _ => .stuck)
theorem RpA.three {vs : List V} {d e f : D} (p : RpA G K H μ vs [d, e, f]) : ∃ v u w, vs = [v, u, w] ∧ Rp G K H μ v d ∧ Rp G K H μ u e ∧ Rp G K H μ w f := by
  cases p with | cons a b => cases b with | cons c b => cases b with | cons d b => cases b; exact ⟨_, _, _, rfl, a, c, d⟩
theorem js_par3 {i j n : Nat} {x y z : Str} {a b c : Expr} {ta : TA} {ma : MA} {px py pz pt : Pos} {kt k2 pt2} (hc : X.calm = true) (hN : X.N.Nodup) (ha : JA X G W [a, b, c] ta ma) (hi : X.N[i]? = some x := by rfl) (hj : X.N[j]? = some y := by rfl) (hl : X.N[n]? = some z := by rfl) (hij : i ≠ j := by decide) (hil : i ≠ n := by decide) (hjl : j ≠ n := by decide)
    (hx : X.env.scope.names.lookup x = some .local := by rfl) (hy : X.env.scope.names.lookup y = some .local := by rfl) (hz : X.env.scope.names.lookup z = some .local := by rfl)
    (hw : swappedStores [.Tuple [.Name x px, .Name y py, .Name z pz] kt pt] (.Tuple [a, b, c] k2 pt2) X.env = pure (some [x, y, z]) := by rfl)
    (hs : swapsWithSole [.Tuple [.Name x px, .Name y py, .Name z pz] kt pt] (.Tuple [a, b, c] k2 pt2) pos.line X.env = pure false := by rfl) :
    JS X G W (.Assign [.Tuple [.Name x px, .Name y py, .Name z pz] kt pt] (.Tuple [a, b, c] k2 pt2) pos) (tPar3 i j n ta) (mPar3 i j n ma) := by
  refine ⟨fun tk _ => ps_par3 hc hN hi hj hl hij hil hjl hx hy hz (ha.pe tk) hw hs, fun σ H μ l s hl hs => ?_⟩
  refine okS_of (T := fun Q => ta σ H fun vs H1 => ∃ u v w, vs = [u, v, w] ∧ Q (((σ.set i (some u)).set j (some v)).set n (some w)) H1) (fun _ => rfl) hl ((ha.sim σ H μ l s hl hs).bind fun xs H1 μ1 ds s1 g1 r1 p1 => ?_)
  split
  · obtain ⟨v, u, w, rfl, p0, p2, p3⟩ := p1.three
    exact fun Q q => ⟨v, u, w, rfl, q _ H1 μ1 Grow.refl r1 ((((hl.mono g1).set p0).set p2).set p3)⟩
  · trivial
/-- x op= e -/
def mAug (i : Nat) (f : D → D → Sto → R D) (me : ME) : MS := fun l s => toOut l (match l[i]? with
  | some (some d) => (me l s).bind fun e s1 => (f d e s1).bind fun z s2 => .ok (l.set i (some z)) s2
  | _ => .stuck)
theorem js_aug {i : Nat} {x : Str} {op : Operator} {r : R2} {f : D → D → Sto → R D} {pos' : Pos} (hN : X.N.Nodup) (ho : OpR X (inplaceOp op) r) (hsim : SimR G G.K r f) (he : JE X G W e te me) (hi : X.N[i]? = some x := by rfl) (hx : L2.Loc X.env.scope x := by first | exact Or.inl rfl | exact Or.inr rfl) (hf : X.fn x = true ∨ X.env.scope.names.lookup x = some .local := by first | exact .inl rfl | exact .inr rfl | assumption) :
    JS X G W (.AugAssign (.Name x pos') op e pos) (tAug i te r) (mAug i f me) := by
  refine ⟨fun tk _ => ps_aug hN hi hx (he.pe tk) ho hf, fun σ H μ l s hl hs => ?_⟩
  refine okS_of (T := fun Q => ∃ x, σ[i]? = some (some x) ∧ te σ H fun y H1 => r x y H1 fun z H2 => Q (σ.set i (some z)) H2) (fun _ => rfl) hl ?_
  cases e1 : l[i]? with
  | none => trivial
  | some o =>
    cases o with
    | none => trivial
    | some d =>
      obtain ⟨v, h1, h2⟩ := hl.2 i d e1
      have z : okP G G.K (fun Q : L2.St → Hp → Prop => te σ H fun y H1 => r v y H1 fun z H2 => Q (σ.set i (some z)) H2) (fun c d H' => W c d σ H') H μ (RL G G.K) ((me l s).bind fun e s1 => (f d e s1).bind fun z s2 => .ok (l.set i (some z)) s2) := by
        refine (he.sim σ H μ l s hl hs).bind (u := fun y H1 Q => r v y H1 fun z H2 => Q (σ.set i (some z)) H2) fun y H1 μ1 e s1 g1 r1 p1 => ?_
        refine (hsim H1 μ1 s1 v y d e _ r1 (h2.mono g1) p1).bind (u := fun z H2 Q => Q (σ.set i (some z)) H2) fun z H2 μ2 zd s2 g2 r2 p2 => ?_
        exact fun Q q => q _ H2 μ2 Grow.refl r2 (((hl.mono g1).mono g2).set p2)
      dsimp only
      generalize ((me l s).bind fun e s1 => (f d e s1).bind fun z s2 => .ok (l.set i (some z)) s2) = rr at z ⊢
      cases rr with
      | ok a s2 => exact fun Q q => ⟨v, h1, z Q q⟩
      | ex a s2 => exact fun Q q => ⟨v, h1, z Q q⟩
      | stuck => trivial
def mRet (me : ME) : MS := fun l s => match me l s with
  | .ok d s1 => .rt d s1
  | .ex c s1 => .ex c l s1
  | .stuck => .stuck
theorem js_ret (he : JE X G W e te me) : JS X G W (.Return (some e) pos) (tRet te) (mRet me) := by
  refine ⟨fun tk _ => ps_ret (he.pe tk), fun σ H μ l s hl hs D q => ?_⟩
  have z := he.sim σ H μ l s hl hs
  unfold mRet at q
  cases e : me l s with
  | ok d s1 => rw [e] at z q; exact z _ fun v H' μ' g r p => q v H' μ' g r p
  | ex c s1 => rw [e] at z q; exact z _ fun C d H' μ' g r hc hf => q C d σ H' μ' g (hl.mono g) r hc hf
  | stuck => rw [e] at q; exact q.elim
def mRetN : MS := fun _ s => .rt .non s
theorem js_retN : JS X G W (.Return none pos) tRetN mRetN := ⟨fun _ _ => ps_retN, fun σ H μ l s hl hs D q => q .non H μ Grow.refl hs .non⟩
theorem js_pass : JS X G W (.Pass pos) tNext mNext := ⟨fun _ _ => ps_pass, fun σ H μ l s hl hs D q => q σ H μ Grow.refl hl hs⟩
def mBrk : MS := fun l s => .bk l s
def mCnt : MS := fun l s => .ct l s
theorem js_brk : JS X G W (.Break pos) tBreak mBrk := ⟨fun _ _ => ps_break, fun σ H μ l s hl hs D q => q σ H μ Grow.refl hl hs⟩
theorem js_cnt : JS X G W (.Continue pos) tCont mCnt := ⟨fun _ _ => ps_continue, fun σ H μ l s hl hs D q => q σ H μ Grow.refl hl hs⟩
def mExpr (me : ME) : MS := fun l s => toOut l ((me l s).bind fun _ s1 => .ok l s1)
theorem js_expr (he : JE X G W e te me) (hs : swapsWith e none pos.line X.env = pure false := by rfl) : JS X G W (.Expr e pos) (tDrop te) (mExpr me) :=
  ⟨fun tk _ => ps_expr (he.pe tk) hs, fun σ H μ l s hl hs => okS_of (T := fun Q => te σ H fun _ H1 => Q σ H1) (fun _ => rfl) hl
    ((he.sim σ H μ l s hl hs).bind fun x H1 μ1 d s1 g1 r1 p1 => fun Q q => q σ H1 μ1 Grow.refl r1 (hl.mono g1))⟩
def mIfS (mc : MT) (m n : MS) : MS := fun l s => match mc l s with
  | .ok true s1 => m l s1
  | .ok false s1 => n l s1
  | .ex c s1 => .ex c l s1
  | .stuck => .stuck
theorem js_if {c : Expr} {a b : List Stmt} {tc : TT} {mc : MT} (hc : JT X G W c tc mc) (ha : JSs X G W a t m) (hb : JSs X G W b u n) : JS X G W (.If c a b pos) (tIfS tc t u) (mIfS mc m n) := by
  refine ⟨fun tk po => ps_if (hc.pe tk) (ha.pe tk po) (hb.pe tk po), fun σ H μ l s hl hs D q => ?_⟩
  have z := hc.sim σ H μ l s hl hs
  unfold mIfS at q
  cases e : mc l s with
  | ok b s1 =>
    rw [e] at z q
    refine z _ fun b' H' μ' g r hb' => ?_
    subst hb'
    cases b' with
    | true => rw [if_pos rfl]; exact ha.sim σ H' μ' l s1 (hl.mono g) r D (Post.up g q)
    | false => rw [if_neg Bool.false_ne_true]; exact hb.sim σ H' μ' l s1 (hl.mono g) r D (Post.up g q)
  | ex c s1 => rw [e] at z q; exact z _ fun C d H' μ' g r hc hf => q C d σ H' μ' g (hl.mono g) r hc hf
  | stuck => rw [e] at q; exact q.elim
end

/-! ### loops -/
def forL (mg : MG) (mb : MS) : List D → MS
  | [], l, s => .nx l s
  | d :: ds, l, s => match mg d l s with
    | .ok l1 s1 => match mb l1 s1 with
      | .nx l2 s2 => forL mg mb ds l2 s2
      | .ct l2 s2 => forL mg mb ds l2 s2
      | .bk l2 s2 => .nx l2 s2
      | .rt d s2 => .rt d s2
      | .ex c l2 s2 => .ex c l2 s2
      | .stuck => .stuck
    | .ex c s1 => .ex c l s1
    | .stuck => .stuck
def mFor (mi : MI) (mg : MG) (mb : MS) : MS := fun l s => match mi l s with
  | .ok ds s1 => forL mg mb ds l s1
  | .ex c s1 => .ex c l s1
  | .stuck => .stuck
theorem js_for {tg iter : Expr} {body : List Stmt} {wi : TI} {g : TG} {tb : TS} {mi : MI} {mg : MG} {mb : MS} {pos : Pos} (hc : X.calm = true) (hi : JI X G W tg iter wi mi) (hg : JG X G W tg g mg) (hb : JSs X G W body tb mb)
    (hs : ∀ x, foldedSetIterable iter X.env x = pure x := by intro _; rfl) : JS X G W (.For tg iter body [] pos) (tFor wi g tb) (mFor mi mg mb) := by
  refine ⟨fun tk po => ps_for po hc (hi.pe tk) (hg.pe tk) (hb.pe tk po) hs, fun σ H μ l s hl hs D q => ?_⟩
  have z := hi.sim σ H μ l s hl hs
  unfold mFor at q
  cases e : mi l s with
  | stuck => rw [e] at q; exact q.elim
  | ex c s1 => rw [e] at z q; exact z _ fun C d H' μ' g r hc hf => q C d σ H' μ' g (hl.mono g) r hc hf
  | ok ds s1 =>
    rw [e] at z q
    refine z _ fun J H1 μ1 g1 r1 ri => ?_
    refine ⟨fun i m σ' H' => ∃ (μ' : Mu) (l' : Loc) (s' : Sto), Grow H1 μ1 H' μ' ∧ RL G G.K H' μ' σ' l' ∧ RS G G.K H' μ' s' ∧ i + m = ds.length ∧ Post G G.K D W H' μ' (forL mg mb (ds.drop i) l' s'), ⟨ds.length, μ1, l, s1, Grow.refl, hl.mono g1, r1, by omega, Post.up g1 q⟩, fun i m σ' H' hW => ?_⟩
    obtain ⟨μ', l', s', g', rl', rs', him, hp⟩ := hW
    obtain ⟨rgo, rstop⟩ := ri H' μ' g'.mono s' rs' i
    by_cases hi2 : ds.length ≤ i
    · left
      rw [List.drop_of_length_le hi2] at hp
      exact ⟨rstop hi2, hp σ' H' μ' Grow.refl rl' rs'⟩
    · right
      have hlt : i < ds.length := by omega
      rw [List.drop_eq_getElem_cons hlt] at hp
      have hgo := rgo ds[i] (List.getElem?_eq_getElem hlt)
      refine ⟨hgo.1, fun σ5 H5 => ∃ (μ' : Mu) (l' : Loc) (s' : Sto), Grow H1 μ1 H5 μ' ∧ RL G G.K H5 μ' σ5 l' ∧ RS G G.K H5 μ' s' ∧ Post G G.K D W H5 μ' (forL mg mb (ds.drop (i + 1)) l' s'), fun σ5 H5 h5 => ?_, fun x H'' hy => ?_⟩
      · obtain ⟨a, b, c, f1, f2, f3, f4⟩ := h5
        exact ⟨m - 1, by omega, a, b, c, f1, f2, f3, by omega, f4⟩
      · obtain ⟨gy, ry, py⟩ := hgo.2 x H'' hy
        have zg := hg.sim σ' H'' μ' l' s' x ds[i] (rl'.mono gy) ry py
        simp only [forL] at hp
        cases e2 : mg ds[i] l' s' with
        | stuck => rw [e2] at hp; exact hp.elim
        | ex c s2 =>
          rw [e2] at zg hp
          exact zg _ fun C d H2 μ2 g2 r2 hc hf => hp C d σ' H2 μ2 (gy.trans g2) ((rl'.mono gy).mono g2) r2 hc hf
        | ok l2 s2 =>
          rw [e2] at zg hp
          refine zg _ fun σ2 H2 μ2 g2 r2 rl2 => ?_
          have gg : Grow H' μ' H2 μ2 := gy.trans g2
          refine hb.sim σ2 H2 μ2 l2 s2 rl2 r2 _ ?_
          dsimp only at hp
          cases e3 : mb l2 s2 with
          | nx l3 s3 =>
            rw [e3] at hp
            exact fun σ3 H3 μ3 g3 rl3 r3 => ⟨μ3, l3, s3, (g'.trans gg).trans g3, rl3, r3, Post.up (gg.trans g3) hp⟩
          | ct l3 s3 =>
            rw [e3] at hp
            exact fun σ3 H3 μ3 g3 rl3 r3 => ⟨μ3, l3, s3, (g'.trans gg).trans g3, rl3, r3, Post.up (gg.trans g3) hp⟩
          | bk l3 s3 =>
            rw [e3] at hp
            exact fun σ3 H3 μ3 g3 rl3 r3 => hp σ3 H3 μ3 (gg.trans g3) rl3 r3
          | rt d s3 =>
            rw [e3] at hp
            exact fun v H3 μ3 g3 r3 p3 => hp v H3 μ3 (gg.trans g3) r3 p3
          | ex c l3 s3 =>
            rw [e3] at hp
            exact fun C d σ3 H3 μ3 g3 rl3 r3 hc hf => hp C d σ3 H3 μ3 (gg.trans g3) rl3 r3 hc hf
          | stuck => rw [e3] at hp; exact hp.elim

/-- n turns at most -/
def whileN (mc : MT) (mb : MS) : Nat → Loc → Sto → Option Out
  | 0, _, _ => none
  | n + 1, l, s => match mc l s with
    | .ok true s1 => match mb l s1 with
      | .nx l2 s2 => whileN mc mb n l2 s2
      | .ct l2 s2 => whileN mc mb n l2 s2
      | .bk l2 s2 => some (.nx l2 s2)
      | .rt d s2 => some (.rt d s2)
      | .ex c l2 s2 => some (.ex c l2 s2)
      | .stuck => some .stuck
    | .ok false s1 => some (.nx l s1)
    | .ex c s1 => some (.ex c l s1)
    | .stuck => some .stuck
theorem whileN_mono {mc : MT} {mb : MS} : ∀ {n m : Nat} {l : Loc} {s : Sto} {o : Out}, whileN mc mb n l s = some o → n ≤ m → whileN mc mb m l s = some o
  | 0, _, _, _, _, h, _ => by cases h
  | n + 1, 0, _, _, _, _, h => absurd h (by omega)
  | n + 1, m + 1, l, s, o, h, hm => by
    unfold whileN at h ⊢
    cases e : mc l s with
    | ok b s1 =>
      cases b with
      | true =>
        simp only [e] at h ⊢
        cases e2 : mb l s1 with
        | nx l2 s2 => simp only [e2] at h ⊢; exact whileN_mono h (by omega)
        | ct l2 s2 => simp only [e2] at h ⊢; exact whileN_mono h (by omega)
        | bk l2 s2 => simp only [e2] at h ⊢; exact h
        | rt l2 s2 => simp only [e2] at h ⊢; exact h
        | ex c l2 s2 => simp only [e2] at h ⊢; exact h
        | stuck => simp only [e2] at h ⊢; exact h
      | false => simp only [e] at h ⊢; exact h
    | ex c s1 => simp only [e] at h ⊢; exact h
    | stuck => simp only [e] at h ⊢; exact h
open Classical in
noncomputable def mWhile (mc : MT) (mb : MS) : MS := fun l s => if h : ∃ n o, whileN mc mb n l s = some o then h.choose_spec.choose else .stuck
theorem mWhile_of {mc : MT} {mb : MS} {n : Nat} {l : Loc} {s : Sto} {o : Out} (h : whileN mc mb n l s = some o) : mWhile mc mb l s = o := by
  have hh : ∃ n o, whileN mc mb n l s = some o := ⟨n, o, h⟩
  unfold mWhile
  rw [dif_pos hh]
  have h2 := hh.choose_spec.choose_spec
  have h3 := whileN_mono h2 (Nat.le_max_left _ n)
  have h4 := whileN_mono h (Nat.le_max_right hh.choose n)
  rw [h3] at h4
  exact Option.some.inj h4
theorem mWhile_some {mc : MT} {mb : MS} {l : Loc} {s : Sto} (h : mWhile mc mb l s ≠ .stuck) : ∃ n, whileN mc mb n l s = some (mWhile mc mb l s) := by
  by_cases hh : ∃ n o, whileN mc mb n l s = some o
  · obtain ⟨n, o, e⟩ := hh
    exact ⟨n, by rw [e, mWhile_of e]⟩
  · exfalso
    apply h
    unfold mWhile
    rw [dif_neg hh]
/-- one turn -/
theorem mWhile_eq {mc : MT} {mb : MS} {l : Loc} {s : Sto} : mWhile mc mb l s = match mc l s with
    | .ok true s1 => (match mb l s1 with
      | .nx l2 s2 => mWhile mc mb l2 s2
      | .ct l2 s2 => mWhile mc mb l2 s2
      | .bk l2 s2 => .nx l2 s2
      | .rt d s2 => .rt d s2
      | .ex c l2 s2 => .ex c l2 s2
      | .stuck => .stuck)
    | .ok false s1 => .nx l s1
    | .ex c s1 => .ex c l s1
    | .stuck => .stuck := by
  have key : ∀ l2 s2, mWhile mc mb l2 s2 = .stuck ∨ ∃ n, whileN mc mb n l2 s2 = some (mWhile mc mb l2 s2) := fun l2 s2 => by
    by_cases hh : mWhile mc mb l2 s2 = .stuck
    · exact .inl hh
    · exact .inr (mWhile_some hh)
  have dead : ∀ l2 s2, (∀ n, whileN mc mb (n + 1) l s = whileN mc mb n l2 s2) → mWhile mc mb l s = mWhile mc mb l2 s2 := fun l2 s2 hn => by
    by_cases hh : ∃ n o, whileN mc mb n l2 s2 = some o
    · obtain ⟨n, o, e⟩ := hh
      rw [mWhile_of e, mWhile_of (n := n + 1) (by rw [hn]; exact e)]
    · have h1 : mWhile mc mb l2 s2 = .stuck := by unfold mWhile; rw [dif_neg hh]
      have h2 : ¬ ∃ n o, whileN mc mb n l s = some o := fun ⟨n, o, e⟩ => by
        cases n with
        | zero => cases e
        | succ n => exact hh ⟨n, o, by rw [← hn]; exact e⟩
      rw [h1]
      unfold mWhile
      rw [dif_neg h2]
  cases e : mc l s with
  | ok b s1 =>
    cases b with
    | true =>
      dsimp only
      cases e2 : mb l s1 with
      | nx l2 s2 => exact dead l2 s2 fun n => by simp only [whileN, e, e2]
      | ct l2 s2 => exact dead l2 s2 fun n => by simp only [whileN, e, e2]
      | bk l2 s2 => exact mWhile_of (n := 1) (by simp only [whileN, e, e2])
      | rt l2 s2 => exact mWhile_of (n := 1) (by simp only [whileN, e, e2])
      | ex c l2 s2 => exact mWhile_of (n := 1) (by simp only [whileN, e, e2])
      | stuck => exact mWhile_of (n := 1) (by simp only [whileN, e, e2])
    | false => exact mWhile_of (n := 1) (by simp only [whileN, e])
  | ex c s1 => exact mWhile_of (n := 1) (by simp only [whileN, e])
  | stuck => exact mWhile_of (n := 1) (by simp only [whileN, e])
theorem js_while {c : Expr} {body : List Stmt} {tc : TT} {tb : TS} {mc : MT} {mb : MS} {pos : Pos} (hc : JT X G W c tc mc) (hb : JSs X G W body tb mb) : JS X G W (.While c body [] pos) (tWhile tc tb) (mWhile mc mb) := by
  refine ⟨fun tk po => ps_while po (hc.pe tk) (hb.pe tk po), fun σ H μ l s hl hs D q => ?_⟩
  have hq : mWhile mc mb l s ≠ .stuck := fun z => by rw [z] at q; exact q.elim
  obtain ⟨n, hn⟩ := mWhile_some hq
  refine ⟨fun m σ' H' => ∃ (μ' : Mu) (l' : Loc) (s' : Sto) (o : Out), Grow H μ H' μ' ∧ RL G G.K H' μ' σ' l' ∧ RS G G.K H' μ' s' ∧ whileN mc mb m l' s' = some o ∧ Post G G.K D W H' μ' o, ⟨n, μ, l, s, _, Grow.refl, hl, hs, hn, q⟩, fun m σ' H' hW => ?_⟩
  obtain ⟨μ', l', s', o, g', rl', rs', hw, hp⟩ := hW
  cases m with
  | zero => cases hw
  | succ m =>
    have z := hc.sim σ' H' μ' l' s' rl' rs'
    simp only [whileN] at hw
    cases e : mc l' s' with
    | stuck => simp only [e, Option.some.injEq] at hw; subst hw; exact hp.elim
    | ex c s1 =>
      simp only [e, Option.some.injEq] at hw
      subst hw
      rw [e] at z
      exact z _ fun C d H2 μ2 g2 r2 hc hf => hp C d σ' H2 μ2 g2 (rl'.mono g2) r2 hc hf
    | ok b s1 =>
      rw [e] at z
      refine z _ fun b' H2 μ2 g2 r2 hb' => ?_
      subst hb'
      cases b' with
      | false =>
        rw [if_neg Bool.false_ne_true]
        simp only [e, Option.some.injEq] at hw
        subst hw
        exact hp σ' H2 μ2 g2 (rl'.mono g2) r2
      | true =>
        rw [if_pos rfl]
        simp only [e] at hw
        refine ⟨fun σ5 H5 => ∃ (μ' : Mu) (l' : Loc) (s' : Sto) (o : Out), Grow H μ H5 μ' ∧ RL G G.K H5 μ' σ5 l' ∧ RS G G.K H5 μ' s' ∧ whileN mc mb m l' s' = some o ∧ Post G G.K D W H5 μ' o, fun σ5 H5 h5 => ⟨m, by omega, h5⟩, ?_⟩
        refine hb.sim σ' H2 μ2 l' s1 (rl'.mono g2) r2 _ ?_
        cases e3 : mb l' s1 with
        | nx l3 s3 =>
          simp only [e3] at hw
          exact fun σ3 H3 μ3 g3 rl3 r3 => ⟨μ3, l3, s3, o, (g'.trans g2).trans g3, rl3, r3, hw, Post.up (g2.trans g3) hp⟩
        | ct l3 s3 =>
          simp only [e3] at hw
          exact fun σ3 H3 μ3 g3 rl3 r3 => ⟨μ3, l3, s3, o, (g'.trans g2).trans g3, rl3, r3, hw, Post.up (g2.trans g3) hp⟩
        | bk l3 s3 =>
          simp only [e3, Option.some.injEq] at hw
          subst hw
          exact fun σ3 H3 μ3 g3 rl3 r3 => hp σ3 H3 μ3 (g2.trans g3) rl3 r3
        | rt d s3 =>
          simp only [e3, Option.some.injEq] at hw
          subst hw
          exact fun v H3 μ3 g3 r3 p3 => hp v H3 μ3 (g2.trans g3) r3 p3
        | ex c l3 s3 =>
          simp only [e3, Option.some.injEq] at hw
          subst hw
          exact fun C d σ3 H3 μ3 g3 rl3 r3 hc hf => hp C d σ3 H3 μ3 (g2.trans g3) rl3 r3 hc hf
        | stuck => simp only [e3, Option.some.injEq] at hw; subst hw; exact hp.elim
end
end DL


namespace DL
open PySem PySem.Spec PyProof.Rows L2
section
variable {X : Cx} {G : Gm} {K : PySem.W.Frag} {H : Hp} {μ : Mu} {s : Sto} {W : WX} {k : Nat}

/-! ### raise -/
theorem pmk_own0 {C : Addr} {bmB : List Value} {B newId initId : String} {x : Str} {p pos : Pos} (F : ExcBaseFacts B newId initId bmB) (q : PySem.W.excIn X.K C bmB newId = true) (gC : X.mg x = some (.ref C)) (kC : PySem.W.keepIn X.K (.ref C) = true) (r : Raises X (.ref C)) (hg : Gl X x)
    (hdb : (x == ("__debug__" : Str)) = false := by decide) : PMk X (.Call (.Name x p) [] [] pos) (fun _ H Q => Q (.ref C) none H) := by
  intro pins s σ H Q I h
  refine wpAny_Call_Name_kw (ld_glob I hg gC ?_ hdb)
  refine PySem.W.callWith_K0 I.kIn kC ?_
  show wpAny _ _ (call (.ref C) []) _ _ _
  obtain ⟨bm, N, nm, qn, bs, hdct, sn, sub, ab, col, dd, k0, k1, k2, k3, k5, mN, hC, hN, hni, T⟩ := exc_obj I.kIn q
  refine wpAny_call_exc_subT F T hC hN hni (fun h' e hm => ?_) (by show 0 ≤ sizeLine; exact Nat.zero_le _)
  exact mk_of I hm r h (I.hok.gone hm.new)
abbrev veL : List Value := [.type "ValueError", .type "Exception", .type "BaseException", .type "object"]
/-- an exception class of the program's own, under ValueError, without __init__ -/
structure ClD (K : PySem.W.Frag) (mg : Str → Option Value) (G : Gm) (x : String) : Prop where
  ex : ∃ C : Addr, G.cl x = some C ∧ mg x = some (.ref C) ∧ PySem.W.excIn K C veL "ValueError.__new__" = true ∧ PySem.W.keepIn K (.ref C) = true ∧ PySem.W.subIn K (.ref C) (.type "BaseException") = some true ∧ PySem.W.typeIn K (.ref C) = some (.type "type")
def mRaise (x : String) : MS := fun l s => .ex ⟨x, none⟩ l s
theorem Gm.cA_eq {x : String} {C : Addr} (h : G.cl x = some C) : G.cA x = C := by unfold Gm.cA; rw [h]; rfl
theorem js_raise {x : String} {p pos pos' : Pos} (F : ClD X.K X.mg G x) (hc : X.calm = true) (hg : Gl X (x : Str) := by rfl) (hdb : ((x : Str) == ("__debug__" : Str)) = false := by decide) :
    JS X G W (.Raise (some (.Call (.Name x p) [] [] pos)) none pos') (fun _ σ H => W (.ref (G.cA x)) none σ H) (mRaise x) := by
  obtain ⟨C', h1, h2, h3, h4, h5, h6⟩ := F.ex
  rw [Gm.cA_eq h1]
  refine ⟨fun tk _ => ps_raise hc tk (pmk_own0 PySem.F.excBase_ValueError h3 h2 h4 (raises_own h5 h6) hg hdb), fun σ H μ l s hl hs D q => ?_⟩
  exact q _ none σ H μ Grow.refl hl hs h1 rfl

/-! ### try -/
def noExO : Out → Out
  | .ex _ _ _ => .stuck
  | o => o
def mTry (mb : MS) (hs : List (String × MS)) : MS := fun l s => match mb l s with
  | .ex c l1 s1 => match hs.lookup c.cls with
    | some ms => noExO (ms l1 s1)
    | none => .ex c l1 s1
  | o => o
/-- what the classes are among each other -/
def ExM (K : PySem.W.Frag) (G : Gm) : Prop := ∀ (a b : String) (Ca Cb : Addr), G.cl a = some Ca → G.cl b = some Cb → PySem.W.exmOne K (.ref Ca) (.ref Cb) = some (a == b)
inductive HsOk (X : Cx) (G : Gm) : List ExceptHandler → List (Value × (Addr → Value → Option Addr → TS)) → List (String × MS) → Prop
  | nil : HsOk X G [] [] []
  | cons {x : String} {ts : TS} {ms : MS} {b₀ : Stmt} {suite : List Stmt} {np pos' : Pos} {hds : List ExceptHandler} {l : List (Value × (Addr → Value → Option Addr → TS))} {hs : List (String × MS)} (F : ClD X.K X.mg G x) (hg : Gl X (x : Str)) (hdb : ((x : Str) == ("__debug__" : Str)) = false)
      (hsu : ∀ (a : Addr) (oe : Obj) (pn : List (Addr × Obj)), JSs (X.suite a ((a, oe) :: pn)) G W0 (b₀ :: suite) ts ms) (r : HsOk X G hds l hs) :
      HsOk X G (.ExceptHandler (some (.Name x np)) none (b₀ :: suite) pos' :: hds) ((.ref (G.cA x), fun _ _ _ => ts) :: l) ((x, ms) :: hs)
theorem HsOk.pe {hds : List ExceptHandler} {l : List (Value × (Addr → Value → Option Addr → TS))} {hs : List (String × MS)} (h : HsOk X G hds l hs) : HdsOk X hds l := by
  induction h with
  | nil => exact .nil
  | cons F hg hdb hsu r ih =>
    obtain ⟨C', h1, h2, h3, h4, h5, h6⟩ := F.ex
    rw [Gm.cA_eq h1]
    exact .cons ⟨hg, hdb, .inl h2⟩ (fun a oe cls d pn _ _ => (hsu a oe pn).pe takes0 PassesOwn.never) ih
theorem post_noEx {D : Ends} {W W' : WX} {o : Out} (h : Post G K D W H μ (noExO o)) : Post G K D W' H μ o := by
  cases o with
  | ex _ _ _ => exact h.elim
  | nx _ _ => exact h
  | rt _ _ => exact h
  | bk _ _ => exact h
  | ct _ _ => exact h
  | stuck => exact h
theorem HsOk.sim (em : ExM X.K G) {hds : List ExceptHandler} {l : List (Value × (Addr → Value → Option Addr → TS))} {hs : List (String × MS)} (h : HsOk X G hds l hs) {D : Ends} {W : WX} {c : Xn} {C : Addr} {d : Option Addr} {σ : L2.St} {lo : Loc} {s : Sto} (hc : G.cl c.cls = some C) (hl : RL G G.K H μ σ lo) (hr : RS G G.K H μ s) (hf : Fld G G.K H μ c d)
    (q : Post G G.K D W H μ (match hs.lookup c.cls with | some ms => noExO (ms lo s) | none => .ex c lo s)) : wMany X.K W D l (.ref C) d σ H := by
  induction h with
  | nil => exact q C d σ H μ Grow.refl hl hr hc hf
  | @cons x ts ms b₀ suite np pos' hds l hs F hg hdb hsu r ih =>
    obtain ⟨C', h1, h2, h3, h4, h5, h6⟩ := F.ex
    rw [Gm.cA_eq h1]
    refine ⟨_, em c.cls x C C' hc h1, fun hb a ha => ?_, fun hb => ih ?_⟩
    · rw [List.lookup_cons, hb] at q
      exact (hsu X.env.locals default []).sim σ H μ lo s hl hr D (post_noEx q)
    · rw [List.lookup_cons, hb] at q
      exact q
theorem js_try {body : List Stmt} {h₀ : ExceptHandler} {hds : List ExceptHandler} {l : List (Value × (Addr → Value → Option Addr → TS))} {hs : List (String × MS)} {pos : Pos} {tb : WX → TS} {mb : MS} (em : ExM X.K G) (hst : X.stack = X.env :: X.outer) (hfr : X.env.frame = some X.env.locals)
    (hb : ∀ (W : WX) (pn : List (Addr × Obj)) (xe : Value → Shared → Prop), JSs (X.tr pn xe) G W body (tb W) mb) (hh : HsOk X G (h₀ :: hds) l hs) : JS X G W (.Try body (h₀ :: hds) [] [] pos) (fun D σ H => tb (wMany X.K W D l) D σ H) (mTry mb hs) := by
  refine ⟨fun tk _ => ps_try_many hst hfr tk (fun W pn xe tk po => (hb W pn xe).pe tk po) hh.pe, fun σ H μ lo s hl hr D q => ?_⟩
  refine (hb (wMany X.K W D l) [] (fun _ _ => True)).sim σ H μ lo s hl hr D ?_
  unfold mTry at q
  cases e : mb lo s with
  | nx l1 s1 => rw [e] at q; exact q
  | rt d s1 => rw [e] at q; exact q
  | bk l1 s1 => rw [e] at q; exact q
  | ct l1 s1 => rw [e] at q; exact q
  | stuck => rw [e] at q; exact q
  | ex c l1 s1 =>
    rw [e] at q
    exact fun C d σ' H' μ' g rl rs hc hf => hh.sim em hc rl rs hf (Post.up g q)
end

/-! ### what a def hands back -/
def frzA (f : D → Option D) : List D → Option (List D)
  | [] => some []
  | x :: xs => match f x, frzA f xs with
    | some y, some ys => some (y :: ys)
    | _, _ => none
/-- the tracked objects from n on become frozen ones -/
def frz (s : Sto) (n : Nat) : Nat → D → Option D
  | 0, _ => none
  | k + 1, .tup xs => (frzA (frz s n k) xs).map .tup
  | k + 1, .lst xs => (frzA (frz s n k) xs).map .lst
  | _ + 1, .scr _ => none
  | k + 1, .ref m => if m < n then some (.ref m) else match s[m]? with
    | some (.lst xs) => (frzA (frz s n k) xs).map .lst
    | _ => none
  | _ + 1, d => some d
mutual
def clD (n : Nat) : D → Bool
  | .ref m => decide (m < n)
  | .tup xs => clA n xs
  | .lst xs => clA n xs
  | _ => true
def clA (n : Nat) : List D → Bool
  | [] => true
  | x :: xs => clD n x && clA n xs
end
def clO (n : Nat) : O → Bool
  | .lst xs => clA n xs
  | .dK kvs => clA n (kvs.map (·.2))
  | .dT kvs => clA n (kvs.map (·.2))
/-- back to n tracked objects -/
def backF (n : Nat) : R D → R D
  | .ok d s => if s.length = n then .ok d s else match frz s n 12 d with
    | some d' => if (s.take n).all (clO n) = true then .ok d' (s.take n) else .stuck
    | none => .stuck
  | .ex c s => if s.length = n then .ex c s else if (s.take n).all (clO n) = true ∧ c.fld.isNone = true then .ex c (s.take n) else .stuck
  | .stuck => .stuck
/-- the tracked objects stay -/
def backT (_ : Nat) (r : R D) : R D := r
section
variable {G : Gm} {K : PySem.W.Frag} {H H' : Hp} {μ μ' : Mu} {s : Sto}
abbrev Mu.cut (μ : Mu) (n : Nat) : Mu := ⟨μ.tr.take n, μ.rs⟩
theorem cut_sub {n : Nat} {a : Addr} (h : a ∈ μ.cut n) : a ∈ μ := by
  rcases h with h | h
  · exact .inl (List.mem_of_mem_take h)
  · exact .inr h
theorem cut_get {n m : Nat} (h : m < n) : (μ.cut n).tr[m]? = μ.tr[m]? := List.getElem?_take_of_lt h
mutual
theorem Rp.cut {n : Nat} : ∀ {v : V} {d : D}, Rp G K H μ v d → clD n d = true → Rp G K H (μ.cut n) v d
  | _, _, .non, _ => .non
  | _, _, .bl b, _ => .bl b
  | _, _, .int i, _ => .int i
  | _, _, .str x, _ => .str x
  | _, _, .tup h nn r, c => .tup h (fun z => nn (cut_sub z)) (RpA.cutA r (by simpa [clD] using c))
  | _, _, .tupK a b c e f r, cc => .tupK a b c e f (RpA.cutA r (by simpa [clD] using cc))
  | _, _, .lst h nn r, c => .lst h (fun z => nn (cut_sub z)) (RpA.cutA r (by simpa [clD] using c))
  | _, _, .scr h nn, _ => .scr h (fun z => nn (cut_sub z))
  | _, _, .scrK a b c d e f, _ => .scrK a b c d e f
  | _, _, .ref h, c => .ref (by rw [cut_get (by simpa [clD] using c)]; exact h)
  | _, _, .fn h, _ => .fn h
theorem RpA.cutA {n : Nat} : ∀ {vs : List V} {ds : List D}, RpA G K H μ vs ds → clA n ds = true → RpA G K H (μ.cut n) vs ds
  | _, _, .nil, _ => .nil
  | _, _, .cons a r, c => by
    simp only [clA, Bool.and_eq_true] at c
    exact .cons (Rp.cut a c.1) (RpA.cutA r c.2)
end
theorem KVp.cut {κ : Type} {n : Nat} : ∀ {vs : List (κ × V)} {ds : List (κ × D)}, KVp G K H μ vs ds → clA n (ds.map (·.2)) = true → KVp G K H (μ.cut n) vs ds
  | _, _, .nil, _ => .nil
  | _, _, .cons a r, c => by
    simp only [List.map_cons, clA, Bool.and_eq_true] at c
    exact .cons (a.cut c.1) (KVp.cut r c.2)
theorem RS.cut {n : Nat} (r : RS G K H μ s) (h : (s.take n).all (clO n) = true) : RS G K H (μ.cut n) (s.take n) := by
  refine ⟨by show (μ.tr.take n).length = _; rw [List.length_take, List.length_take, r.len], (List.take_sublist n μ.tr).nodup r.nd, fun m p o e1 e2 => ?_, fun a ha => ⟨(r.rk a ha).1, fun z => (r.rk a ha).2 (List.mem_of_mem_take z)⟩⟩
  have hm : m < n := by
    have := (List.getElem?_eq_some_iff.mp e1).1
    rw [List.length_take] at this
    omega
  rw [cut_get hm] at e1
  have hc : clO n o = true := List.all_eq_true.mp h o (List.mem_iff_getElem?.mpr ⟨m, e2⟩)
  rw [List.getElem?_take_of_lt hm] at e2
  have q := r.at_ m p o e1 e2
  cases o with
  | lst ds => obtain ⟨vs, a, b⟩ := q; exact ⟨vs, a, b.cutA hc⟩
  | dK ds => obtain ⟨vs, a, b⟩ := q; exact ⟨vs, a, b.cut hc⟩
  | dT ds => obtain ⟨vs, a, b⟩ := q; exact ⟨vs, a, b.cut hc⟩
theorem frzA_ok {f : D → Option D} {μ2 : Mu} (hf : ∀ {v : V} {d d' : D}, Rp G K H μ v d → f d = some d' → Rp G K H μ2 v d') : ∀ {vs : List V} {ds ds' : List D}, RpA G K H μ vs ds → frzA f ds = some ds' → RpA G K H μ2 vs ds'
  | _, _, _, .nil, h => by simp only [frzA, Option.some.injEq] at h; subst h; exact .nil
  | _, _, _, .cons (d := d) (ds := ds) a r, h => by
    simp only [frzA] at h
    cases e1 : f d with
    | none => rw [e1] at h; cases h
    | some y =>
      cases e2 : frzA f ds with
      | none => rw [e1, e2] at h; cases h
      | some ys =>
        rw [e1, e2] at h
        cases h
        exact .cons (hf a e1) (frzA_ok hf r e2)
theorem frz_ok {n : Nat} (r : RS G K H μ s) : ∀ {k : Nat} {v : V} {d d' : D}, Rp G K H μ v d → frz s n k d = some d' → Rp G K H (μ.cut n) v d'
  | 0, _, _, _, _, h => by cases h
  | k + 1, v, d, d', p, h => by
    cases p with
    | non => simp only [frz, Option.some.injEq] at h; subst h; exact .non
    | bl b => simp only [frz, Option.some.injEq] at h; subst h; exact .bl b
    | int b => simp only [frz, Option.some.injEq] at h; subst h; exact .int b
    | str b => simp only [frz, Option.some.injEq] at h; subst h; exact .str b
    | fn b => simp only [frz, Option.some.injEq] at h; subst h; exact .fn b
    | scr _ _ => simp [frz] at h
    | scrK _ _ _ _ _ _ => simp [frz] at h
    | tup h1 h2 h3 =>
      simp only [frz, Option.map_eq_some_iff] at h
      obtain ⟨ys, h, rfl⟩ := h
      exact .tup h1 (fun z => h2 (cut_sub z)) (frzA_ok (fun a b => frz_ok r a b) h3 h)
    | tupK a b c e f h3 =>
      simp only [frz, Option.map_eq_some_iff] at h
      obtain ⟨ys, h, rfl⟩ := h
      exact .tupK a b c e f (frzA_ok (fun a b => frz_ok r a b) h3 h)
    | lst h1 h2 h3 =>
      simp only [frz, Option.map_eq_some_iff] at h
      obtain ⟨ys, h, rfl⟩ := h
      exact .lst h1 (fun z => h2 (cut_sub z)) (frzA_ok (fun a b => frz_ok r a b) h3 h)
    | @ref m a ha =>
      simp only [frz] at h
      split at h
      · rename_i hm
        cases h
        exact .ref (by rw [cut_get hm]; exact ha)
      · rename_i hm
        cases e : s[m]? with
        | none => simp only [e] at h; cases h
        | some o =>
          cases o with
          | lst xs =>
            simp only [e, Option.map_eq_some_iff] at h
            obtain ⟨ys, h, rfl⟩ := h
            obtain ⟨vs, q1, q2⟩ := r.at_ m a _ ha e
            refine .lst q1 (fun z => ?_) (frzA_ok (fun a b => frz_ok r a b) q2 h)
            have hmem : a ∈ μ.tr := List.mem_iff_getElem?.mpr ⟨m, ha⟩
            rcases z with z | z
            · obtain ⟨j, hj⟩ := List.mem_iff_getElem?.mp z
              have hjn : j < n := by
                have := (List.getElem?_eq_some_iff.mp hj).1
                rw [List.length_take] at this
                omega
              rw [List.getElem?_take_of_lt hjn] at hj
              have := (List.getElem?_inj (List.getElem?_eq_some_iff.mp ha).1 r.nd).mp (ha.trans hj.symm)
              omega
            · exact (r.rk a z).2 hmem
          | dK _ => simp only [e] at h; cases h
          | dT _ => simp only [e] at h; cases h
theorem Grow.cut {n : Nat} (g : Grow H μ H' μ') (hn : μ.tr.length = n) : Grow H μ H' (μ'.cut n) := by
  refine ⟨g.keep, fun a ha => g.news a (List.mem_of_mem_take ha), fun m p e => ?_, g.rs, g.res⟩
  have hm : m < n := by rw [← hn]; exact (List.getElem?_eq_some_iff.mp e).1
  rw [cut_get hm]
  exact g.pre m p e
/-- a way to hand back -/
structure BackOk (back : Nat → R D → R D) : Prop where
  ok : ∀ {G : Gm} {K : PySem.W.Frag} {H H' : Hp} {μ μ' : Mu} {n : Nat} {s' s2 : Sto} {v : V} {d d2 : D}, μ.tr.length = n → back n (.ok d s') = .ok d2 s2 → Grow H μ H' μ' → RS G K H' μ' s' → Rp G K H' μ' v d → ∃ μ2, Grow H μ H' μ2 ∧ RS G K H' μ2 s2 ∧ Rp G K H' μ2 v d2
  ex : ∀ {G : Gm} {K : PySem.W.Frag} {H H' : Hp} {μ μ' : Mu} {n : Nat} {s' s2 : Sto} {c c2 : Xn} {dd : Option Addr}, μ.tr.length = n → back n (.ex c s') = .ex c2 s2 → Grow H μ H' μ' → RS G K H' μ' s' → Fld G K H' μ' c dd → c2 = c ∧ ∃ μ2, Grow H μ H' μ2 ∧ RS G K H' μ2 s2 ∧ Fld G K H' μ2 c dd
  okx : ∀ {n d s' c s2}, back n (.ok d s') ≠ .ex c s2
  exo : ∀ {n d s' c s2}, back n (.ex c s') ≠ .ok d s2
  st : ∀ {n}, back n .stuck = .stuck
theorem backT_ok : BackOk backT := by
  refine ⟨fun hn e g r p => ?_, fun hn e g r f => ?_, fun e => ?_, fun e => ?_, rfl⟩
  · cases e; exact ⟨_, g, r, p⟩
  · cases e; exact ⟨rfl, _, g, r, f⟩
  · cases e
  · cases e
theorem backF_ok : BackOk backF := by
  refine ⟨fun {G K H H' μ μ' n s' s2 v d d2} hn e g r p => ?_, fun {G K H H' μ μ' n s' s2 c c2 dd} hn e g r f => ?_, fun {n d s' c s2} e => ?_, fun {n d s' c s2} e => ?_, rfl⟩
  · simp only [backF] at e
    split at e
    · cases e; exact ⟨_, g, r, p⟩
    · cases e1 : frz s' n 12 d with
      | none => rw [e1] at e; cases e
      | some d' =>
        rw [e1] at e
        dsimp only at e
        split at e
        · rename_i hc
          cases e
          exact ⟨_, g.cut hn, r.cut hc, frz_ok r p e1⟩
        · cases e
  · simp only [backF] at e
    split at e
    · cases e; exact ⟨rfl, _, g, r, f⟩
    · split at e
      · rename_i hc
        cases e
        refine ⟨rfl, _, g.cut hn, r.cut hc.1, ?_⟩
        unfold Fld at f ⊢
        cases e2 : c.fld with
        | none => rw [e2] at f; exact f
        | some z => rw [e2] at hc; exact absurd hc.2 (by simp)
      · cases e
  · simp only [backF] at e
    split at e
    · cases e
    · cases e1 : frz s' n 12 d with
      | none => rw [e1] at e; cases e
      | some d' =>
        rw [e1] at e
        dsimp only at e
        split at e <;> cases e
  · simp only [backF] at e
    split at e
    · cases e
    · split at e <;> cases e
def outR : Out → R D
  | .nx _ s => .ok .non s
  | .rt d s => .ok d s
  | .ex c _ s => .ex c s
  | _ => .stuck
/-- a def as a function of data: np parameters, nn names -/
def mDef (back : Nat → R D → R D) (np nn : Nat) (m : MS) : MF := fun ds s => if ds.length = np then back s.length (outR (m (ds.map some ++ List.replicate (nn - np) none) s)) else .stuck
theorem start_rel {N : List Str} : ∀ {vs : List V} {ds : List D}, RpA G K H μ vs ds → RL G K H μ (L2.start N vs) (ds.map some ++ List.replicate (N.length - ds.length) none) := by
  intro vs ds p
  unfold L2.start
  refine ⟨by simp [p.length], fun i d e => ?_⟩
  by_cases hi : i < ds.length
  · rw [List.getElem?_append_left (by simpa using hi), List.getElem?_map] at e
    cases e1 : ds[i]? with
    | none => rw [e1] at e; cases e
    | some d' =>
      rw [e1] at e
      cases e
      obtain ⟨v, h1, h2⟩ := p.get e1
      refine ⟨v, ?_, h2⟩
      rw [List.getElem?_append_left (by rw [List.length_map, p.length]; exact hi), List.getElem?_map, h1]
      rfl
  · rw [List.getElem?_append_right (by simpa using hi), List.getElem?_replicate] at e
    split at e <;> cases e
/-- THE RULE for a def -/
theorem def_fn (hKG : K = G.K) {P : Program} {w : World} {mg : Str → Option Value} {base : Heap} {back : Nat → R D → R D} (hback : BackOk back) {x : String} {st : Stmt} {f : Addr} {fd : FuncData} {N ps : List Str} {k : Nat} {m : MS}
    (F : Fun K x x st f fd) (S : FnScope N ps (defScope st))
    (body : ∀ (cdv : Value) (A : Around) (outer : List Env) (s : Shared) (H : Hp) (E : XK), Room k (A.deeper (envOfC x (defScope st) s.heap.objs.size f cdv)) → ∀ W : WX, ∃ t, JSs (cxOf (L2.CX P w) P w K mg base N x (defScope st) f cdv A outer s H E) G W (defBody st) t m) :
    FnOk P w K mg base (L2.CX P w) (k + 1) f fd ps (spD G K ps.length (mDef back ps.length N.length m)) := by
  subst hKG
  refine F.okX S (fun vs H Q E h => h.1) (fun cdv A outer s H vs Q E hr h => ?_)
  obtain ⟨hlen, μ, ds, sto, pv, rs, q⟩ := h
  have hd : ds.length = ps.length := by rw [← pv.length]; exact hlen
  let W : WX := fun cls d _ H => E cls d H
  obtain ⟨t, B⟩ := body cdv A outer s H E hr W
  refine ⟨t, B.pe (takes_of rfl rfl rfl rfl) (passes_of rfl), ?_⟩
  have rl := start_rel (N := N) pv
  refine B.sim (L2.start N vs) H μ _ sto rl rs _ ?_
  rw [hd]
  unfold mDef at q
  rw [if_pos hd] at q
  generalize m (ds.map some ++ List.replicate (N.length - ps.length) none) sto = o at q ⊢
  cases o with
  | nx l1 s1 =>
    intro σ' H' μ' g rl' rs'
    show Q .non H'
    simp only [outR] at q
    cases e : back sto.length (.ok .non s1) with
    | ok d2 s2 =>
      rw [e] at q
      obtain ⟨μ2, k1, k2, k3⟩ := hback.ok rs.len e g rs' .non
      exact q _ H' μ2 k1 k2 k3
    | ex c s2 => exact absurd e hback.okx
    | stuck => rw [e] at q; exact q.elim
  | rt d s1 =>
    intro v H' μ' g rs' p
    show Q v H'
    simp only [outR] at q
    cases e : back sto.length (.ok d s1) with
    | ok d2 s2 =>
      rw [e] at q
      obtain ⟨μ2, k1, k2, k3⟩ := hback.ok rs.len e g rs' p
      exact q _ H' μ2 k1 k2 k3
    | ex c s2 => exact absurd e hback.okx
    | stuck => rw [e] at q; exact q.elim
  | bk l1 s1 => simp only [outR, hback.st] at q
  | ct l1 s1 => simp only [outR, hback.st] at q
  | stuck => simp only [outR, hback.st] at q
  | ex c l1 s1 =>
    intro C dd σ' H' μ' g rl' rs' hc hf
    show E (.ref C) dd H'
    simp only [outR] at q
    cases e : back sto.length (.ex c s1) with
    | ok d2 s2 => exact absurd e hback.exo
    | ex c2 s2 =>
      rw [e] at q
      obtain ⟨rfl, μ2, k1, k2, k3⟩ := hback.ex rs.len e g rs' hf
      exact q C dd H' μ2 k1 k2 hc k3
    | stuck => rw [e] at q; exact q.elim
theorem def_ok (hKG : K = G.K) {P : Program} {w : World} {mg : Str → Option Value} {base : Heap} {back : Nat → R D → R D} (hback : BackOk back) {x : String} {st : Stmt} {f : Addr} {fd : FuncData} {N ps : List Str} {k : Nat} {m : MS}
    (F : Fun K x x st f fd) (S : FnScope N ps (defScope st)) (hb : Binds K fd ps []) (hg : mg x = some (.ref f)) (hG : G.fn x = some f)
    (body : ∀ (cdv : Value) (A : Around) (outer : List Env) (s : Shared) (H : Hp) (E : XK), Room k (A.deeper (envOfC x (defScope st) s.heap.objs.size f cdv)) → ∀ W : WX, ∃ t, JSs (cxOf (L2.CX P w) P w K mg base N x (defScope st) f cdv A outer s H E) G W (defBody st) t m) :
    FnD P w K mg base G (k + 1) x ps.length (mDef back ps.length N.length m) := ⟨f, fd, ps, def_fn hKG hback F S body, hg, hG, F.kp, hb⟩
/-- a def of the text -/
structure FnE (K : PySem.W.Frag) (mg : Str → Option Value) (G : Gm) (x : String) (st : Stmt) : Prop where
  ex : ∃ (f : Addr) (fd : FuncData), Fun K x x st f fd ∧ mg x = some (.ref f) ∧ G.fn x = some f
theorem def_e (hKG : K = G.K) {P : Program} {w : World} {mg : Str → Option Value} {base : Heap} {back : Nat → R D → R D} (hback : BackOk back) {x : String} {st : Stmt} {N ps : List Str} {k : Nat} {m : MS}
    (F : FnE K mg G x st) (S : FnScope N ps (defScope st))
    (hbi : ∀ (kV doc pm : Value) (an : Option Addr) (cdv ct : Value) (us : List Value), us.length = ps.length → bindArgs (PySem.W.fnOf x x (defArgs st) (defBody st) (defScope st) .none kV doc pm an cdv ct) ⟨us, []⟩ = pure (ps.zip us))
    (body : ∀ (f : Addr) (cdv : Value) (A : Around) (outer : List Env) (s : Shared) (H : Hp) (E : XK), Room k (A.deeper (envOfC x (defScope st) s.heap.objs.size f cdv)) → ∀ W : WX, ∃ t, JSs (cxOf (L2.CX P w) P w K mg base N x (defScope st) f cdv A outer s H E) G W (defBody st) t m) :
    FnD P w K mg base G (k + 1) x ps.length (mDef back ps.length N.length m) := by
  obtain ⟨f, fd, F1, h1, h2⟩ := F.ex
  exact def_ok hKG hback F1 S (F1.binds hbi) h1 h2 (fun cdv A outer s H E hr W => body f cdv A outer s H E hr W)
/-- the law's def at its script -/
def spAny (K : PySem.W.Frag) : Sp := fun vs H Q _ => ∃ (a : Addr) (ns : List Int), vs = [.ref a] ∧ SqL K H a (ns.map V.int) ∧ Only H ∧ ns.length ≤ 63 ∧ ∀ H', Q (.bl true) H'
theorem law_sp {f : MF} (h : ∀ ns : List Int, ns.length ≤ 63 → f [.scr ns] [] = .ok (.bl true) []) (vs : List V) (H : Hp) (Q : VK) (E : XK) (q : spAny K vs H Q E) : spD G K 1 f vs H Q E := by
  obtain ⟨a, ns, rfl, hS, ho, hl, q⟩ := q
  have p : Rp G K H ⟨[], []⟩ (.ref a) (.scr ns) := by
    rcases hS with (h1 | ⟨o, h1⟩) | ⟨o, its, n, h1, h2, h3, h4, h5, h6⟩
    · rcases ho a with z | ⟨o, xs, z⟩
      · rw [z] at h1; cases h1
      · rw [z] at h1; cases h1
    · exact .scr h1 (fun z => by rcases z with z | z <;> cases z)
    · exact .scrK h1 h2 h3 h4 h5 h6
  refine ⟨rfl, ⟨[], []⟩, [.scr ns], [], .cons p .nil, ⟨rfl, List.nodup_nil, fun n p o e => by simp at e, fun a ha => by cases ha⟩, ?_⟩
  rw [h ns hl]
  intro v H' μ' g r p
  cases p
  exact q _
theorem cx_none {P : Program} {w : World} (H : Hp) (s : Shared) (e : Value) (s' : Shared) (h : L2.CX P w [] H s (fun _ _ _ => False) e s') : False := by
  obtain ⟨_, _, _, _, _, _, _, _, _, _, _, _, z⟩ := h
  exact z
theorem exm_of {K : PySem.W.Frag} {a : Value} {C : Addr} {b : Bool} (hb : PySem.W.subIn K (.ref C) (.type "BaseException") = some true) (hi : PySem.W.isClsIn K C = true) (ht : PySem.W.typeIn K (.ref C) = some (.type "type")) (hs : PySem.W.subIn K a (.ref C) = some b) : PySem.W.exmOne K a (.ref C) = some b := by
  unfold PySem.W.exmOne
  rw [if_pos (by rw [hb]; rfl)]
  unfold PySem.W.kitCls
  have hi2 : (PySem.W.clsIn K C).isSome = true := hi
  dsimp only
  rw [hi2, ht]
  have e : (some (Value.type "type") == some (Value.type "type")) = true := by simp
  rw [e, if_pos (by rfl)]
  exact hs
theorem mem_lk : ∀ {cs : List (String × Addr)} {a : String} {C : Addr}, cs.lookup a = some C → (a, C) ∈ cs
  | [], _, _, h => by simp at h
  | (b, d) :: cs, a, C, h => by
    rw [List.lookup_cons] at h
    split at h
    · rename_i e
      have e := eq_of_beq e
      cases h
      subst e
      exact List.mem_cons_self
    · exact List.mem_cons_of_mem _ (mem_lk h)
theorem exm_mk {K : PySem.W.Frag} {cs : List (String × Addr)} (h : ∀ p ∈ cs, ∀ q ∈ cs, PySem.W.exmOne K (.ref p.2) (.ref q.2) = some (p.1 == q.1)) : ∀ (a b : String) (Ca Cb : Addr), cs.lookup a = some Ca → cs.lookup b = some Cb → PySem.W.exmOne K (.ref Ca) (.ref Cb) = some (a == b) :=
  fun a b Ca Cb ha hb => h (a, Ca) (mem_lk ha) (b, Cb) (mem_lk hb)
end
end DL


namespace DL
open PySem PySem.Spec PyProof.Rows L2

/-! ### in -/
section
variable {X : Cx} {G : Gm} {K : PySem.W.Frag}
theorem room65 {k : Nat} {A : Around} (r : Room k A) : A.units + 65 < cLine := by have := r.un; omega
def rInA (K : PySem.W.Frag) (neg : Bool) : R2 := fun x y H Q => ∃ d ds, Dp K H x d ∧ (Dp K H y (.list ds) ∧ SeqAt.shaped (.list ds) = true ∨ Dp K H y (.tuple ds) ∧ SeqAt.shaped (.tuple ds) = true) ∧ SeqAt.shaped d = true ∧ Q (.bl (if neg then !(ds.any fun z => PyData.eqv z d) else ds.any fun z => PyData.eqv z d)) H
theorem op_inA (hK : X.K = K) (hu : X.A.units + 65 < cLine) : OpR X (compareOp .In) (rInA K false) := by
  subst hK
  intro pins s σ H x y v u Q I rx ry h
  obtain ⟨d, ds, hd, he, sd, q⟩ := h
  obtain ⟨as, r1⟩ := Dp.reads I d x v hd rx
  rcases he with ⟨he, se⟩ | ⟨he, se⟩
  · obtain ⟨bs, r2⟩ := Dp.reads I (.list ds) y u he ry
    exact SeqAt.in_list_reads r2 r1 (SeqAt.canLay_of_shaped se) (SeqAt.canLay_of_shaped sd) (room_in_shaped sd hu) ⟨.bl _, H, I, rfl, q⟩
  · obtain ⟨bs, r2⟩ := Dp.reads I (.tuple ds) y u he ry
    exact SeqAt.in_tuple_reads r2 r1 (SeqAt.canLay_of_shaped se) (SeqAt.canLay_of_shaped sd) (room_in_shaped sd hu) ⟨.bl _, H, I, rfl, q⟩
theorem op_ninA (hK : X.K = K) (hu : X.A.units + 65 < cLine) : OpR X (compareOp .NotIn) (rInA K true) := by
  subst hK
  intro pins s σ H x y v u Q I rx ry h
  obtain ⟨d, ds, hd, he, sd, q⟩ := h
  obtain ⟨as, r1⟩ := Dp.reads I d x v hd rx
  rcases he with ⟨he, se⟩ | ⟨he, se⟩
  · obtain ⟨bs, r2⟩ := Dp.reads I (.list ds) y u he ry
    exact SeqAt.notIn_list_reads r2 r1 (SeqAt.canLay_of_shaped se) (SeqAt.canLay_of_shaped sd) (room_in_shaped sd hu) ⟨.bl _, H, I, rfl, q⟩
  · obtain ⟨bs, r2⟩ := Dp.reads I (.tuple ds) y u he ry
    exact SeqAt.notIn_tuple_reads r2 r1 (SeqAt.canLay_of_shaped se) (SeqAt.canLay_of_shaped sd) (room_in_shaped sd hu) ⟨.bl _, H, I, rfl, q⟩
/-- x in y, y a list or a tuple -/
def memB (s : Sto) (d e : D) : Option Bool := match toPyR s d, toPyR s e with
  | some a, some (.list bs) => if SeqAt.shaped a = true ∧ SeqAt.shaped (.list bs) = true then some (bs.any fun z => PyData.eqv z a) else none
  | some a, some (.tuple bs) => if SeqAt.shaped a = true ∧ SeqAt.shaped (.tuple bs) = true then some (bs.any fun z => PyData.eqv z a) else none
  | _, _ => none
def inD (d e : D) (s : Sto) : R D := match memB s d e with
  | some b => .ok (.bl b) s
  | none => .stuck
def ninD (d e : D) (s : Sto) : R D := match memB s d e with
  | some b => .ok (.bl (!b)) s
  | none => .stuck
theorem s_inG {neg : Bool} : SimR G K (rInA K neg) (fun d e s => match memB s d e with
  | some b => .ok (.bl (if neg then !b else b)) s
  | none => .stuck) := by
  intro H μ s x y d e W r p q
  cases e1 : toPyR s d with
  | none => simp only [memB, e1]; trivial
  | some a =>
    cases e2 : toPyR s e with
    | none => simp only [memB, e1, e2]; trivial
    | some b =>
      cases b with
      | list bs =>
        simp only [memB, e1, e2]
        by_cases h : SeqAt.shaped a = true ∧ SeqAt.shaped (.list bs) = true
        · rw [if_pos h]
          exact now r (.bl _) fun Q z => ⟨a, bs, toPyR_dp r p e1, .inl ⟨toPyR_dp r q e2, h.2⟩, h.1, z⟩
        · rw [if_neg h]; trivial
      | tuple bs =>
        simp only [memB, e1, e2]
        by_cases h : SeqAt.shaped a = true ∧ SeqAt.shaped (.tuple bs) = true
        · rw [if_pos h]
          exact now r (.bl _) fun Q z => ⟨a, bs, toPyR_dp r p e1, .inr ⟨toPyR_dp r q e2, h.2⟩, h.1, z⟩
        · rw [if_neg h]; trivial
      | _ => simp only [memB, e1, e2]; trivial
theorem s_in : SimR G K (rInA K false) inD := s_inG
theorem s_nin : SimR G K (rInA K true) ninD := s_inG
end

/-! ### xs[::-1] -/
section
variable {prog : Program} {w : World} {A : Around} {E : Value → Shared → Prop} {s : Shared}
theorem sliceApplied_rev {sl : Addr} {vl vu vs : Value} {n : Nat} {Q : Int × Int × Nat → Shared → Prop} (hs : s.heap.IsSliceOf sl vl vu vs) (pl : IsPart vl none) (pu : IsPart vu none) (ps : IsPart vs (some (-1)))
    (h : Q ((n : Int) - 1, -1, n) s) : wpAny (model prog w) A (Builtin.Slice.sliceApplied (.ref sl) (pure (n : Int))) Q E s := by
  obtain ⟨os, hos, hcs, hds⟩ := id hs
  unfold Builtin.Slice.sliceApplied Builtin.Slice.sliceFields
  refine wpAny_bind (wpAny_bind (wpAny_field hos hds (x := vl) rfl (wpAny_bind (wpAny_field hos hds (x := vu) rfl (wpAny_bind (wpAny_field hos hds (x := vs) rfl (wpAny_pure ?_)))))))
  refine wpAny_bind (HT.slicePart_ ps ?_)
  show wpAny _ _ (if ((-1 : Int) == 0) = true then _ else _) _ _ s
  rw [if_neg (by decide)]
  refine wpAny_bind (HT.slicePart_ pl (wpAny_bind (HT.slicePart_ pu (wpAny_bind (wpAny_pure ?_)))))
  have hp : Builtin.Slice.slicePlaces ((n : Int) - 1) (-1) (-1) = n := by
    unfold Builtin.Slice.slicePlaces
    have h1 : ¬ ((-1 : Int) > 0) := by omega
    simp only [h1, if_false, Int.neg_neg, Int.ediv_one]
    split <;> omega
  show wpAny _ _ (pure ((n : Int) - 1, (-1 : Int), Builtin.Slice.slicePlaces ((n : Int) - 1) (-1) (-1))) _ _ s
  rw [hp]
  exact wpAny_pure h
theorem fm_self {α : Type} (l : List α) : (List.range l.length).filterMap (fun m => l[m]?) = l := by
  induction l with
  | nil => rfl
  | cons x l ih =>
    rw [List.length_cons, List.range_succ_eq_map, List.filterMap_cons]
    simp only [List.getElem?_cons_zero, List.filterMap_map]
    refine congrArg (x :: ·) ?_
    exact ih
theorem fm_congr {α β : Type} {f g : α → Option β} : ∀ {l : List α}, (∀ a ∈ l, f a = g a) → l.filterMap f = l.filterMap g
  | [], _ => rfl
  | a :: l, h => by
    rw [List.filterMap_cons, List.filterMap_cons, h a (List.mem_cons_self ..), fm_congr fun b hb => h b (List.mem_cons_of_mem _ hb)]
theorem pick_rev (xs : Array Value) : ((List.range xs.size).filterMap fun (m : Nat) => xs[((xs.size : Int) - 1 + (m : Int) * -1).toNat]?).toArray = xs.toList.reverse.toArray := by
  congr 1
  have h := fm_self xs.toList.reverse
  rw [List.length_reverse, Array.length_toList] at h
  rw [← h]
  refine fm_congr fun m hm => ?_
  have hm := List.mem_range.mp hm
  have e : ((xs.size : Int) - 1 + (m : Int) * -1).toNat = xs.size - 1 - m := by omega
  rw [e, List.getElem?_reverse (by rw [Array.length_toList]; exact hm), Array.length_toList, Array.getElem?_toList]
theorem getItem_tuple_rev {t sl : Addr} {items : Array Value} {vl vu vs : Value} {Q : Value → Shared → Prop} (ht : IsTup s.heap t items) (hs : s.heap.IsSliceOf sl vl vu vs) (pl : IsPart vl none) (pu : IsPart vu none) (ps : IsPart vs (some (-1)))
    (h : Q (.ref s.heap.objs.size) { s with heap := s.heap.push { cls := .type "tuple", data := .seq items.toList.reverse.toArray } })
    (hsz : items.size ≤ sizeLine) : wpAny (model prog w) A (getItem (.ref t) (.ref sl)) Q E s := by
  have htake : sizeOk (.seq items.toList.reverse.toArray) := by
    show items.toList.reverse.toArray.size ≤ sizeLine
    rw [List.size_toArray, List.length_reverse, Array.length_toList]
    exact hsz
  obtain ⟨os, hos, hcs, hds⟩ := id hs
  have hTs : s.TypeIs (.ref sl) "slice" := ⟨os, hos, hcs⟩
  unfold getItem
  try with_reducible refine wpAny_holding ?_
  first | refine wpAny_bind (wpAny_pure ?_) | skip
  refine wpAny_bind (wpAny_sequenceKey ht.typeIs (by decide) ?_)
  refine wpAny_bind (wpAny_callSpecial?_slot (name := Str.ofString "__getitem__") ht.typeIs PyProof.Rows.slot_tuple_getitem
    (wpAny_call_entry PyProof.Rows.slot_tuple_getitem ht.typeIs entry_tuple_getitem ?_ (args_tuple_getitem _ _)))
  show wpAny _ _ (Builtin.Tuple.tupleItemsOf (.ref t) >>= _) _ _ s
  refine wpAny_bind (tupleItemsOf_ ht ?_)
  refine wpAny_bind (wpAny_typeOf hTs ?_)
  rw [if_pos (by decide)]
  refine wpAny_bind (sliceApplied_rev hs pl pu ps ?_)
  have hno : ¬ ((((items.size : Int) - 1) == 0 && (-1 : Int) == 1 && items.size == items.size) = true) := by
    intro q
    rw [Bool.and_eq_true, Bool.and_eq_true] at q
    exact absurd q.1.2 (by decide)
  show wpAny _ _ (if (((items.size : Int) - 1) == 0 && (-1 : Int) == 1 && items.size == items.size) = true then _ else _) _ _ s
  rw [if_neg hno, pick_rev]
  first
    | exact wpAny_bind (m := Builtin.Tuple.tupleExact _) (wpAny_newObj_type (wpAny_pure ⟨_, rfl, wpAny_pure h⟩) htake)
    | exact wpAny_bind (m := Builtin.Tuple.tupleExact _) (wpAny_newObj_type (wpAny_bind (wpAny_pure (wpAny_pure ⟨_, rfl, wpAny_pure h⟩))) htake)
    | exact wpAny_bind (wpAny_bind (m := Builtin.Tuple.tupleExact _) (wpAny_newObj_type (wpAny_pure (wpAny_pure ⟨_, rfl, wpAny_pure h⟩)) htake))
    | exact wpAny_bind (wpAny_bind (m := Builtin.Tuple.tupleExact _) (wpAny_newObj_type (wpAny_pure ⟨_, rfl, wpAny_pure h⟩) htake))
end
section
variable {X : Cx} {G : Gm} {W : WX}
def rRevA (K : PySem.W.Frag) : V → Hp → VK → Prop := fun x H1 Q => ∃ a xs, x = .ref a ∧ (SqL K H1 a xs ∧ (∀ p, H1 p = none → Q (.ref p) (L2.upd H1 p (.lst xs.reverse))) ∨ SqT K H1 a xs ∧ (∀ p, H1 p = none → Q (.ref p) (L2.upd H1 p (.tup xs.reverse))))
def tRevA (K : PySem.W.Frag) (te : TE) : TE := fun σ H Q => te σ H fun x H1 => rRevA K x H1 Q
theorem pe_revA {K : PySem.W.Frag} (hK : X.K = K) {e : Expr} {te : TE} {k : Nat} {p1 p2 p3 pos : Pos} (he : PE X e te) : PE X (.Subscript e (.Slice none none (some (.UnaryOp .USub (.Constant (.int 1) k p1) p2)) p3) pos) (tRevA K te) := by
  subst hK
  refine ⟨fun pins s σ H Q I h => ?_⟩
  refine Subscript_ (thn (he.run pins s σ H _ I h) fun v s1 ⟨x, H1, I1, r1, q1⟩ => ?_)
  obtain ⟨a, xs, ex, q1⟩ := q1
  subst ex
  cases r1
  have hst : PO X (some (.UnaryOp .USub (.Constant (.int 1) k p1) p2)) (tPart (tUn (rU fun i => .int (-i)) (tC (.int 1)))) := po_some (pe_un un_neg pe_int)
  refine wpAny_Slice (thn (po_none.run pins s1 σ H1 (fun o H2 => o = none ∧ H2 = H1) I1 ⟨rfl, rfl⟩) fun vl s2 ⟨l, H2, I2, pl, el, e2⟩ => ?_)
  subst el e2
  refine thn (po_none.run pins s2 σ H2 (fun o H3 => o = none ∧ H3 = H2) I2 ⟨rfl, rfl⟩) fun vu s3 ⟨u, H3, I3, pu, eu, e3⟩ => ?_
  subst eu e3
  refine thn (hst.run pins s3 σ H3 (fun o H4 => o = some (-1) ∧ H4 = H3) I3 ⟨1, rfl, -1, rfl, rfl, rfl⟩) fun vs s4 ⟨o, H4, I4, ps, eo, e4⟩ => ?_
  subst eo e4
  have I5 : Inv X pins σ H4 { s4 with heap := s4.heap.push { cls := .type "slice", data := .fields #[vl, vu, vs] } } := I4.kept (t' := s4.toks) fun b ob q => Heap.get?_push_of_some _ q
  show wpAny (model X.prog X.w) X.A (subscriptTail e (.Slice none none (some (.UnaryOp .USub (.Constant (.int 1) k p1) p2)) p3) (.ref a) (.ref s4.heap.objs.size)) (EP X pins σ Q) X.xe { s4 with heap := s4.heap.push { cls := .type "slice", data := .fields #[vl, vu, vs] } }
  rcases q1 with ⟨hx, q⟩ | ⟨hx, q⟩
  · obtain ⟨its, r, ht, hz⟩ := I5.list hx
    have hlen := r.length
    refine tail_any (ops := [.ref a, .ref s4.heap.objs.size]) ht.isList.typeIs (PySem.slot_list_getitem.lookup) ?_ (by with_unfolding_all rfl)
    refine wpAny_getItem_list_slice ht.isList (Heap.IsSliceOf.new _ vl vu vs) pl pu ps (by decide) ?_ (by rw [List.size_toArray]; omega)
    rw [PySem.W.krv_pick]
    refine ⟨.ref _, _, I5.laid (t' := s4.toks) (o := .lst xs.reverse) (fun b ob q => Heap.get?_push_of_some _ q) (Nat.le_refl _) ?_, rfl, q _ (I5.hok.fresh (Nat.le_refl _))⟩
    exact ⟨by rw [List.length_reverse]; exact hz, _, 0, r.reverse, Heap.get?_push_size _ rfl⟩
  · obtain ⟨its, r, ht, hz⟩ := I5.tuple hx
    have hlen := r.length
    refine tail_any (ops := [.ref a, .ref s4.heap.objs.size]) ht.typeIs (PyProof.Rows.slot_tuple_getitem.lookup) ?_ (by with_unfolding_all rfl)
    refine getItem_tuple_rev ht (Heap.IsSliceOf.new _ vl vu vs) pl pu ps ?_ (by rw [List.size_toArray]; omega)
    refine ⟨.ref _, _, I5.laid (t' := s4.toks) (o := .tup xs.reverse) (fun b ob q => Heap.get?_push_of_some _ q) (Nat.le_refl _) ?_, rfl, q _ (I5.hok.fresh (Nat.le_refl _))⟩
    exact ⟨by rw [List.length_reverse]; exact hz, _, r.reverse, IsTup.new _ _⟩
def revD (d : D) (s : Sto) : R D := match d with
  | .tup xs => .ok (.tup xs.reverse) s
  | d => match rdL s d with
    | some xs => .ok (.lst xs.reverse) s
    | none => .stuck
theorem RpA.rev {K : PySem.W.Frag} {H : Hp} {μ : Mu} : ∀ {vs : List V} {ds : List D}, RpA G K H μ vs ds → RpA G K H μ vs.reverse ds.reverse
  | _, _, .nil => .nil
  | _, _, .cons a r => by
    rw [List.reverse_cons, List.reverse_cons]
    exact (RpA.rev r).append (.cons a .nil)
theorem je_rev {e : Expr} {t : TE} {m : ME} {k : Nat} {p1 p2 p3 pos : Pos} (h : JE X G W e t m) (hK : X.K = G.K := by rfl) : JE X G W (.Subscript e (.Slice none none (some (.UnaryOp .USub (.Constant (.int 1) k p1) p2)) p3) pos) (tRevA G.K t) (mUn revD m) := by
  refine ⟨fun tk => pe_revA hK (h.pe tk), fun σ H μ l s hl hs => (h.sim σ H μ l s hl hs).bind fun x H1 μ1 d s1 g1 r1 p1 => ?_⟩
  unfold revD
  split
  · obtain ⟨a, vs, rfl, h1, p2⟩ := SqT_of p1
    exact fun Q q => ⟨a, vs, rfl, .inr ⟨h1, newTG r1 (RpA.rev p2) q⟩⟩
  · split
    · rename_i e
      obtain ⟨a, vs, rfl, h1, p2⟩ := rdL_ok r1 p1 e
      exact fun Q q => ⟨a, vs, rfl, .inl ⟨SqL.of h1, newLG r1 (RpA.rev p2) q⟩⟩
    · trivial
end
end DL


namespace DL
open PySem PySem.Spec PyProof.Rows L2

/-! ### dicts with ints or texts as keys -/
def keyD : D → Option Key
  | .int i => some (.inl i)
  | .str x => some (.inr x)
  | _ => none
def dKey : Key → D
  | .inl i => .int i
  | .inr x => .str x
def dicD (s : Sto) : D → Option (List (Key × D))
  | .ref n => match s[n]? with
    | some (.dK kvs) => some kvs
    | _ => none
  | _ => none
def valD {α : Type} (kvs : List (Key × α)) (k : Key) : Option α := (kvs.find? fun kv => decide (kv.1 = k)).map (·.2)
def putD {α : Type} (kvs : List (Key × α)) (k : Key) (v : α) : List (Key × α) :=
  if (kvs.any fun kv => decide (kv.1 = k)) = true then kvs.map (fun kv => if kv.1 = k then (kv.1, v) else kv) else kvs ++ [(k, v)]
section
variable {X : Cx} {G : Gm} {K : PySem.W.Frag} {H : Hp} {μ : Mu} {s : Sto}
theorem keyD_V {v : V} {d : D} {k : Key} (p : Rp G K H μ v d) (h : keyD d = some k) : v = kV k := by
  cases p <;> simp only [keyD, Option.some.injEq, reduceCtorEq] at h <;> subst h <;> rfl
theorem dKey_Rp (k : Key) : Rp G K H μ (kV k) (dKey k) := by
  cases k with
  | inl i => exact .int i
  | inr x => exact .str x
theorem dicD_ok {v : V} {d : D} {kvs : List (Key × D)} (r : RS G K H μ s) (p : Rp G K H μ v d) (h : dicD s d = some kvs) : ∃ n a vs, d = .ref n ∧ s[n]? = some (.dK kvs) ∧ μ.tr[n]? = some a ∧ v = .ref a ∧ H a = some (.dK vs) ∧ KVp G K H μ vs kvs := by
  cases d <;> first | (cases h; done) | skip
  rename_i n
  cases p
  rename_i a ha
  unfold dicD at h
  dsimp only at h
  cases e : s[n]? with
  | none => rw [e] at h; cases h
  | some u =>
    rw [e] at h
    cases u with
    | dK q =>
      cases h
      obtain ⟨vs, h1, h2⟩ := r.at_ n a _ ha e
      exact ⟨n, a, vs, rfl, e, ha, rfl, h1, h2⟩
    | _ => cases h
theorem KVp.val {vs : List (Key × V)} {kvs : List (Key × D)} (p : KVp G K H μ vs kvs) (k : Key) : match valD kvs k with
    | some d => ∃ v, valV vs k = some v ∧ Rp G K H μ v d
    | none => valV vs k = none := by
  induction p with
  | nil => rfl
  | @cons k' v d vs ds a r ih =>
    by_cases h : k' = k
    · have e1 : valD ((k', d) :: ds) k = some d := by simp [valD, List.find?_cons, h]
      rw [e1]
      exact ⟨v, valV_pos (p := (k', v)) h, a⟩
    · have e1 : valD ((k', d) :: ds) k = valD ds k := by simp [valD, List.find?_cons, h]
      have e2 : valV ((k', v) :: vs) k = valV vs k := valV_neg (p := (k', v)) h
      rw [e1, e2]
      exact ih
theorem KVp.any {vs : List (Key × V)} {kvs : List (Key × D)} (p : KVp G K H μ vs kvs) (k : Key) : (kvs.any fun kv => decide (kv.1 = k)) = (vs.any fun kv => decide (kv.1 = k)) := by
  induction p with
  | nil => rfl
  | cons a r ih => rw [List.any_cons, List.any_cons, ih]
theorem KVp.mapPut {vs : List (Key × V)} {kvs : List (Key × D)} (p : KVp G K H μ vs kvs) {k : Key} {v : V} {d : D} (q : Rp G K H μ v d) : KVp G K H μ (vs.map fun kv => if kv.1 = k then (kv.1, v) else kv) (kvs.map fun kv => if kv.1 = k then (kv.1, d) else kv) := by
  induction p with
  | nil => exact .nil
  | @cons k' v' d' vs ds a r ih =>
    rw [List.map_cons, List.map_cons]
    by_cases h : k' = k
    · simp only [h, if_true]
      exact .cons q ih
    · simp only [h, if_false]
      exact .cons a ih
theorem KVp.snoc {vs : List (Key × V)} {kvs : List (Key × D)} (p : KVp G K H μ vs kvs) {k : Key} {v : V} {d : D} (q : Rp G K H μ v d) : KVp G K H μ (vs ++ [(k, v)]) (kvs ++ [(k, d)]) := by
  induction p with
  | nil => exact .cons q .nil
  | cons a r ih => exact .cons a ih
theorem KVp.put {vs : List (Key × V)} {kvs : List (Key × D)} (p : KVp G K H μ vs kvs) {k : Key} {v : V} {d : D} (q : Rp G K H μ v d) : KVp G K H μ (putK vs k v) (putD kvs k d) := by
  unfold putK putD
  rw [p.any k]
  split
  · exact p.mapPut q
  · exact p.snoc q
theorem KVp.len {vs : List (Key × V)} {kvs : List (Key × D)} (p : KVp G K H μ vs kvs) : vs.length = kvs.length := by
  induction p with
  | nil => rfl
  | cons a r ih => rw [List.length_cons, List.length_cons, ih]

/-! ### d[k] -/
def rDIx : R2 := fun x y H Q => ∃ a v, x = .ref a ∧ DGet H a y (some v) ∧ Q v H
theorem ix_dict (hu : X.A.units + 1 < cLine) : IxR X rDIx := by
  intro value slice pins s σ H x y v u Q I rx ry h hs
  obtain ⟨a, w, rfl, g, q⟩ := h
  cases rx
  refine tail_any (ops := [.ref a, u]) (dict_typeIs I g) PySem.F.slot_dict_getitem.lookup ?_ hs
  exact d_getItem hu I g ry fun w' s3 I3 rw' => ⟨w, H, I3, rw', q⟩
def rIxA (K : PySem.W.Frag) : R2 := fun x y H Q => rIx K x y H Q ∨ rDIx x y H Q
def ixA (d e : D) (s : Sto) : R D := match dicD s d with
  | some kvs => match keyD e with
    | some k => match valD kvs k with
      | some v => .ok v s
      | none => .stuck
    | none => .stuck
  | none => ixD d e s
theorem okP.wk {α β : Type} {t t' : (β → Hp → Prop) → Prop} {W : Value → Option Addr → Hp → Prop} {Rl : Hp → Mu → β → α → Prop} {r : R α} (h : okP G K t W H μ Rl r) (f : ∀ Q, t Q → t' Q) : okP G K t' W H μ Rl r := by
  cases r with
  | ok a s => exact fun Q k => f Q (h Q k)
  | ex c s => exact fun Q k => f Q (h Q k)
  | stuck => trivial
theorem s_ixA : SimR G K (rIxA K) ixA := by
  intro H μ s x y d e W r p q
  cases e1 : dicD s d with
  | none =>
    simp only [ixA, e1]
    exact okP.wk (s_ix H μ s x y d e W r p q) fun Q h => .inl h
  | some kvs =>
    obtain ⟨n, a, vs, rfl, h1, h2, rfl, h3, h4⟩ := dicD_ok r p e1
    cases e2 : keyD e with
    | none => simp only [ixA, e1, e2]; trivial
    | some k =>
      obtain rfl := keyD_V q e2
      have hv := h4.val k
      cases e3 : valD kvs k with
      | none => simp only [ixA, e1, e2, e3]; trivial
      | some d =>
        rw [e3] at hv
        obtain ⟨v, h5, h6⟩ := hv
        simp only [ixA, e1, e2, e3]
        exact now r h6 fun Q z => .inr ⟨a, v, rfl, h5 ▸ DGet.k h3, z⟩
section
variable {W : WX}
theorem je_ixA {a b : Expr} {ta tb : TE} {ma mb : ME} {pos : Pos} (hu : X.A.units + 1 < cLine) (ha : JE X G W a ta ma) (hb : JE X G W b tb mb) (hp : PlainIx b := by exact fun _ _ => rfl) (hK : X.K = G.K := by rfl) : JE X G W (.Subscript a b pos) (tOp (rIxA G.K) ta tb) (mOp ixA ma mb) :=
  ⟨fun tk => pe_ix (IxR.or (hK ▸ ix_seq) (ix_dict hu)) (ha.pe tk) (hb.pe tk) hp, sim_op s_ixA ha hb⟩
theorem room1 {k : Nat} {A : Around} (r : Room k A) : A.units + 1 < cLine := by have := r.un; omega
end

/-! ### d[k] = v -/
def rSetA : TSet := fun o i v H Q => rSetL o i v H Q ∨ rSetD o i v H Q
theorem set_A (hu : X.A.units + 1 < cLine) : PSet X rSetA := by
  intro pins s σ H o i v ov iv u Q I ro ri rv h
  rcases h with h | h
  · exact set_list pins s σ H o i v ov iv u Q I ro ri rv h
  · exact set_dict hu pins s σ H o i v ov iv u Q I ro ri rv h
def setA (o i v : D) (s : Sto) : R Unit := match dicD s o with
  | some kvs => match o, keyD i with
    | .ref n, some k => if kvs.length < 100000 then .ok () (s.set n (.dK (putD kvs k v))) else .stuck
    | _, _ => .stuck
  | none => setD o i v s
theorem s_setA : SimSet G K rSetA setA := by
  intro H μ s x y z o i v W r p q t
  cases e1 : dicD s o with
  | none =>
    simp only [setA, e1]
    exact okP.wk (s_set H μ s x y z o i v W r p q t) fun Q h => .inl h
  | some kvs =>
    obtain ⟨n, a, vs, rfl, h1, h2, rfl, h3, h4⟩ := dicD_ok r p e1
    cases e2 : keyD i with
    | none => simp only [setA, e1, e2]; trivial
    | some k =>
      obtain rfl := keyD_V q e2
      simp only [setA, e1, e2]
      split
      · rename_i hz
        have hm : a ∈ μ.tr := List.mem_iff_getElem?.mpr ⟨n, h2⟩
        have g : Grow H μ (L2.upd H a (.dK (putK vs k z))) μ := r.gwrite hm
        exact fun Q q => .inr ⟨a, _, rfl, DPut.k h3 (lt_line (by rw [h4.len]; exact hz)), q () _ μ g (r.write h2 ⟨_, upd_same, (h4.put t).mon g.mono⟩) trivial⟩
      · trivial

/-! ### k in d -/
def rDIn (neg : Bool) : R2 := fun x y H Q => ∃ a o, y = .ref a ∧ DGet H a x o ∧ Q (.bl (if neg then !o.isSome else o.isSome)) H
theorem op_dIn (hu : X.A.units + 1 < cLine) : OpR X (compareOp .In) (rDIn false) := by
  intro pins s σ H x y v u Q I rx ry h
  obtain ⟨a, o, rfl, g, q⟩ := h
  cases ry
  exact d_in hu I g rx fun s' I' => ⟨.bl _, H, I', rfl, q⟩
theorem op_dNin (hu : X.A.units + 1 < cLine) : OpR X (compareOp .NotIn) (rDIn true) := by
  intro pins s σ H x y v u Q I rx ry h
  obtain ⟨a, o, rfl, g, q⟩ := h
  cases ry
  exact d_notIn hu I g rx fun s' I' => ⟨.bl _, H, I', rfl, q⟩
def rInB (K : PySem.W.Frag) (neg : Bool) : R2 := fun x y H Q => rInA K neg x y H Q ∨ rDIn neg x y H Q
theorem op_inB (hK : X.K = K) (hu : X.A.units + 65 < cLine) : OpR X (compareOp .In) (rInB K false) := DL.OpR.or (op_inA hK hu) (op_dIn (by omega))
theorem op_ninB (hK : X.K = K) (hu : X.A.units + 65 < cLine) : OpR X (compareOp .NotIn) (rInB K true) := DL.OpR.or (op_ninA hK hu) (op_dNin (by omega))
def inE (d e : D) (s : Sto) : R D := match dicD s e with
  | some kvs => match keyD d with
    | some k => .ok (.bl (valD kvs k).isSome) s
    | none => .stuck
  | none => inD d e s
def ninE (d e : D) (s : Sto) : R D := match dicD s e with
  | some kvs => match keyD d with
    | some k => .ok (.bl (!(valD kvs k).isSome)) s
    | none => .stuck
  | none => ninD d e s
theorem KVp.isSome {vs : List (Key × V)} {kvs : List (Key × D)} (p : KVp G K H μ vs kvs) (k : Key) : (valV vs k).isSome = (valD kvs k).isSome := by
  have h := p.val k
  cases e : valD kvs k with
  | none => rw [e] at h; rw [h]; rfl
  | some d => rw [e] at h; obtain ⟨v, h1, _⟩ := h; rw [h1]; rfl
theorem s_inE : SimR G K (rInB K false) inE := by
  intro H μ s x y d e W r p q
  cases e1 : dicD s e with
  | none =>
    simp only [inE, e1]
    exact okP.wk (s_in H μ s x y d e W r p q) fun Q h => .inl h
  | some kvs =>
    obtain ⟨n, a, vs, rfl, h1, h2, rfl, h3, h4⟩ := dicD_ok r q e1
    cases e2 : keyD d with
    | none => simp only [inE, e1, e2]; trivial
    | some k =>
      obtain rfl := keyD_V p e2
      simp only [inE, e1, e2]
      exact now r (.bl _) fun Q z => .inr ⟨a, _, rfl, DGet.k h3, by rw [h4.isSome k]; exact z⟩
theorem s_ninE : SimR G K (rInB K true) ninE := by
  intro H μ s x y d e W r p q
  cases e1 : dicD s e with
  | none =>
    simp only [ninE, e1]
    exact okP.wk (s_nin H μ s x y d e W r p q) fun Q h => .inl h
  | some kvs =>
    obtain ⟨n, a, vs, rfl, h1, h2, rfl, h3, h4⟩ := dicD_ok r q e1
    cases e2 : keyD d with
    | none => simp only [ninE, e1, e2]; trivial
    | some k =>
      obtain rfl := keyD_V p e2
      simp only [ninE, e1, e2]
      exact now r (.bl _) fun Q z => .inr ⟨a, _, rfl, DGet.k h3, by rw [h4.isSome k]; exact z⟩
end

/-! ### displays -/
section
variable {X : Cx} {G : Gm} {K : PySem.W.Frag} {H : Hp} {μ : Mu} {s : Sto} {W : WX}
theorem newDG {H : Hp} {μ : Mu} {s : Sto} (r : RS G K H μ s) {vs : List (Key × V)} {kvs : List (Key × D)} (p : KVp G K H μ vs kvs) {Q : VK} (q : ∀ b H' μ', Grow H μ H' μ' → RS G K H' μ' (s ++ [.dK kvs]) → Rp G K H' μ' b (.ref s.length) → Q b H') : ∀ a, H a = none → Q (.ref a) (L2.upd H a (.dK vs)) :=
  fun a ha => q _ _ (μ.add a) (r.gtrack ha) (r.track ha ⟨vs, upd_same, p.mon (r.gtrack ha).mono⟩) (.ref (by show (μ.tr ++ [a])[s.length]? = some a; rw [← r.len, List.getElem?_append_right (Nat.le_refl _), Nat.sub_self]; rfl))
def mNewK : ME := fun _ s => .ok (.ref s.length) (s ++ [.dK []])
theorem je_newK {pos : Pos} : JE X G W (.Dict [] [] pos) tDNewK mNewK := ⟨fun _ => pe_dnewK, fun σ H μ l s hl hs Q q => newDG hs .nil fun b H' μ' g r p => q b H' μ' g r p⟩
def mPs (l : Loc) : List (ME × ME) → Sto → R (List (Key × D))
  | [], s => .ok [] s
  | (mk, mv) :: r, s => (mk l s).bind fun d s1 => (mv l s1).bind fun e s2 => match keyD d with
    | some k => (mPs l r s2).bind fun kvs s3 => .ok ((k, e) :: kvs) s3
    | none => .stuck
def KVs (G : Gm) (K : PySem.W.Frag) (H : Hp) (μ : Mu) (ps : List (V × V)) (kvs : List (Key × D)) : Prop := ∃ vs : List (Key × V), ps = vs.map (fun kv => (kV kv.1, kv.2)) ∧ KVp G K H μ vs kvs
structure JPs (X : Cx) (G : Gm) (W : WX) (pos : Pos) (keys : List (Option Expr)) (values : List Expr) (trs : List (TE × TE)) (m : List (ME × ME)) : Prop where
  pe : Takes X W → PPs X pos keys values trs
  sim : ∀ (σ : L2.St) (H : Hp) (μ : Mu) (l : Loc) (s : Sto), RL G G.K H μ σ l → RS G G.K H μ s → okP G G.K (tPairs trs σ H) (fun c d H' => W c d σ H') H μ (KVs G G.K) (mPs l m s)
theorem jps_nil {pos : Pos} : JPs X G W pos [] [] [] [] := ⟨fun _ => pps_nil, fun σ H μ l s hl hs Q q => q [] H μ Grow.refl hs ⟨[], rfl, .nil⟩⟩
theorem jps_cons {pos : Pos} {k v : Expr} {ks : List (Option Expr)} {vs : List Expr} {tk tv : TE} {trs : List (TE × TE)} {mk mv : ME} {ms : List (ME × ME)} (hk : JE X G W k tk mk) (hv : JE X G W v tv mv) (hr : JPs X G W pos ks vs trs ms) :
    JPs X G W pos (some k :: ks) (v :: vs) ((tk, tv) :: trs) ((mk, mv) :: ms) := by
  refine ⟨fun tk => pps_cons (hk.pe tk) (hv.pe tk) (hr.pe tk), fun σ H μ l s hl hs => ?_⟩
  refine (hk.sim σ H μ l s hl hs).bind (u := fun x H1 Q => tv σ H1 fun y H2 => tPairs trs σ H2 fun ps H3 => Q ((x, y) :: ps) H3) fun x H1 μ1 d s1 g1 r1 p1 => ?_
  refine (hv.sim σ H1 μ1 l s1 (hl.mono g1) r1).bind (u := fun y H2 Q => tPairs trs σ H2 fun ps H3 => Q ((x, y) :: ps) H3) fun y H2 μ2 e s2 g2 r2 p2 => ?_
  cases ek : keyD d with
  | none => trivial
  | some k =>
    obtain rfl := keyD_V p1 ek
    dsimp only
    refine (hr.sim σ H2 μ2 l s2 ((hl.mono g1).mono g2) r2).bind (u := fun ps H3 Q => Q ((kV k, y) :: ps) H3) fun ps H3 μ3 kvs s3 g3 r3 p3 => ?_
    obtain ⟨vs, rfl, q3⟩ := p3
    exact fun Q q => q _ H3 μ3 Grow.refl r3 ⟨(k, y) :: vs, rfl, .cons (p2.mono g3) q3⟩
def mergeD {α : Type} (kvs more : List (Key × α)) : List (Key × α) := more.foldl (fun acc kv => putD acc kv.1 kv.2) kvs
theorem KVp.merge {more : List (Key × V)} {dm : List (Key × D)} (p : KVp G K H μ more dm) : ∀ {vs : List (Key × V)} {kvs : List (Key × D)}, KVp G K H μ vs kvs → KVp G K H μ (mergeK vs more) (mergeD kvs dm) := by
  induction p with
  | nil => exact fun q => q
  | @cons k v d vs ds a r ih => exact fun q => ih (q.put a)
def mDisp (ms : List (ME × ME)) : ME := fun l s => (mPs l ms (s ++ [.dK []])).bind fun kvs s2 => match s2[s.length]? with
  | some (.dK []) => if kvs.length ≤ 15 then .ok (.ref s.length) (s2.set s.length (.dK (mergeD [] kvs))) else .stuck
  | _ => .stuck
theorem je_disp {pos : Pos} {keys : List (Option Expr)} {values : List Expr} {trs : List (TE × TE)} {ms : List (ME × ME)} (h : JPs X G W pos keys values trs ms) (hall : keys.all (·.isSome) = true := by rfl) (hl : keys.length = values.length := by rfl) (h0 : keys ≠ [] := by exact fun h => nomatch h)
    (h15 : keys.length ≤ 15 := by decide) : JE X G W (.Dict keys values pos) (tDisp trs) (mDisp ms) := by
  refine ⟨fun tk => pe_disp (h.pe tk) hall hl h0 h15, fun σ H μ l s hl hs => ?_⟩
  have key : ∀ p, H p = none → okP G G.K (fun Q : V → Hp → Prop => tPairs trs σ (L2.upd H p (.dK [])) fun ps H2 => H2 p = some (.dK []) ∧ ∃ kvs : List (Key × V), ps = kvs.map (fun kv => (kV kv.1, kv.2)) ∧ kvs.length ≤ 15 ∧ Q (.ref p) (L2.upd H2 p (.dK (mergeK [] kvs)))) (fun c d H' => W c d σ H') H μ (Rp G G.K) (mDisp ms l s) := by
    intro p hp
    have g0 : Grow H μ (L2.upd H p (.dK [])) (μ.add p) := hs.gtrack hp
    have r0 : RS G G.K (L2.upd H p (.dK [])) (μ.add p) (s ++ [.dK []]) := hs.track hp ⟨[], upd_same, .nil⟩
    refine okP.up g0 ?_
    refine (h.sim σ _ _ l _ (hl.mono g0) r0).bind (u := fun ps H2 (Q : V → Hp → Prop) => H2 p = some (.dK []) ∧ ∃ kvs : List (Key × V), ps = kvs.map (fun kv => (kV kv.1, kv.2)) ∧ kvs.length ≤ 15 ∧ Q (V.ref p) (L2.upd H2 p (.dK (mergeK [] kvs)))) fun ps H2 μ2 kvs s2 g2 r2 p2 => ?_
    obtain ⟨vs, rfl, q2⟩ := p2
    have hi : μ2.tr[s.length]? = some p := g2.pre _ _ (by show (μ.tr ++ [p])[s.length]? = some p; rw [← hs.len, List.getElem?_append_right (Nat.le_refl _), Nat.sub_self]; rfl)
    split
    · rename_i e
      split
      · rename_i hz
        obtain ⟨ws, h1, h2⟩ := r2.at_ _ p _ hi e
        cases h2
        have hm : p ∈ μ2.tr := List.mem_iff_getElem?.mpr ⟨_, hi⟩
        have g : Grow H2 μ2 (L2.upd H2 p (.dK (mergeK [] vs))) μ2 := r2.gwrite hm
        exact fun Q q => ⟨h1, vs, rfl, by rw [q2.len]; exact hz, q _ _ μ2 g (r2.write hi ⟨_, upd_same, (KVp.merge q2 .nil).mon g.mono⟩) (.ref hi)⟩
      · trivial
    · trivial
  have hd : ∀ r : R D, r = mDisp ms l s → okP G G.K (tDisp trs σ H) (fun c d H' => W c d σ H') H μ (Rp G G.K) r := by
    intro r hr
    cases r with
    | stuck => trivial
    | ok d s1 =>
      intro Q q p hp
      have := key p hp
      rw [← hr] at this
      exact this Q q
    | ex c s1 =>
      intro Q q p hp
      have := key p hp
      rw [← hr] at this
      exact this Q q
  exact hd _ rfl
end
end DL


namespace DL
open PySem PySem.Spec PyProof.Rows L2
section
variable {X : Cx} {G : Gm} {K : PySem.W.Frag} {W : WX}
/-! ### x.bit_length() -/
def bitsD : D → Sto → R D
  | .int i, s => .ok (.int (Builtin.Int.intBits i : Nat)) s
  | _, _ => .stuck
theorem je_bits {o : Expr} {t : TE} {m : ME} {apos pos : Pos} (h : JE X G W o t m) (hbase : attributeBase o "bit_length" X.env (eval o X.env) = eval o X.env := by rfl) (hline : (apos.endLine == pos.line) = true := by rfl) : JE X G W (.Call (.Attribute o "bit_length" apos) [] [] pos) (tBits t) (mUn bitsD m) := by
  refine ⟨fun tk => pe_bits (h.pe tk) hbase hline, fun σ H μ l s hl hs => (h.sim σ H μ l s hl hs).bind fun x H1 μ1 d s1 g1 r1 p1 => ?_⟩
  cases p1 <;> first | exact trivial | skip
  exact now r1 (.int _) fun Q z => ⟨_, rfl, z⟩
/-! ### x += y, x *= y: ints -/
def iaddD : D → D → Sto → R D
  | .int i, .int j, s => .ok (.int (i + j)) s
  | _, _, _ => .stuck
theorem s_iadd : SimR G K (rI0 fun i j => .int (i + j)) iaddD := by
  intro H μ s x y d e W r p q
  cases p <;> cases q <;> first | exact trivial | skip
  exact now r (.int _) fun Q z => ⟨_, _, rfl, rfl, z⟩
def rIMulA : R2 := fun x y H Q => rI CMul (fun i j => .int (i * j)) x y H Q ∨ rI CMulW (fun i j => .int (i * j)) x y H Q
theorem iop_mulW : OpR X (inplaceOp .Mult) rIMulA := DL.OpR.or iop_mul (opI fun _ _ _ _ _ _ _ hc q => imul_int q hc.ok)
def imulD : D → D → Sto → R D
  | .int i, .int j, s => if mulOk i j = true then .ok (.int (i * j)) s else .stuck
  | _, _, _ => .stuck
theorem s_imul : SimR G K rIMulA imulD := by
  intro H μ s x y d e W r p q
  cases p <;> cases q <;> first | exact trivial | skip
  simp only [imulD]
  split
  · rename_i h
    rcases mulOk_or h with h | h
    · exact now r (.int _) fun Q z => .inl ⟨_, _, rfl, rfl, h, z⟩
    · exact now r (.int _) fun Q z => .inr ⟨_, _, rfl, rfl, h, z⟩
  · trivial
end
end DL


namespace DL
open PySem PySem.Spec PyProof.Rows L2

/-! ### plain laws of the layer's functions -/
theorem shaped_int (i : Int) : SeqAt.shaped (.int i) = true := by simp [SeqAt.shaped, PyData.canLay0, PyData.depth]
theorem neD_int (a b : Int) (s : Sto) : neD (.int a) (.int b) s = .ok (.bl (!(a == b))) s := by
  simp [neD, eqB, toPyR, toPy, shaped_int, PyData.eqv]
theorem eqD_int (a b : Int) (s : Sto) : eqD (.int a) (.int b) s = .ok (.bl (a == b)) s := by
  simp [eqD, eqB, toPyR, toPy, shaped_int, PyData.eqv]
theorem addD_int (a b : Int) (s : Sto) : addD (.int a) (.int b) s = .ok (.int (a + b)) s := rfl
theorem fmod_natAbs (a b : Int) (hb : b ≠ 0) : (a.fmod b).natAbs < b.natAbs := by
  rcases Int.lt_or_lt_of_ne hb with h | h
  · have e : a.fmod b = -((-a).fmod (-b)) := by
      rw [Int.neg_fmod_neg, Int.neg_neg]
    have h1 : (0 : Int) < -b := by omega
    have h2 := Int.fmod_lt_of_pos (-a) h1
    have h3 := Int.fmod_nonneg_of_pos (-a) h1
    omega
  · have h2 := Int.fmod_lt_of_pos a h
    have h3 := Int.fmod_nonneg_of_pos a h
    omega
theorem gcd_fmod (a b : Int) : Int.gcd b (a.fmod b) = Int.gcd a b := by
  have e : a.fmod b = a - b * (a.fdiv b) := by
    have := Int.fmod_add_mul_fdiv a b
    omega
  rw [e, Int.gcd_comm a b]
  have h := @Int.gcd_sub_mul_left_right b a (a.fdiv b)
  rw [Int.mul_comm] at *
  first | exact h | (rw [Int.mul_comm]; exact h) | (rw [Int.mul_comm] at h; exact h)
/-- the while of Euclid, at two places -/
theorem euclid_while {i j : Nat} (hij : i ≠ j) : ∀ (n : Nat) (a b : Int) (l : Loc) (s : Sto), b.natAbs ≤ n → l[i]? = some (some (.int a)) → l[j]? = some (some (.int b)) →
    ∃ g : Int, g.natAbs = Int.gcd a b ∧ (0 ≤ a → 0 ≤ b → 0 ≤ g) ∧ mWhile (mTest (mOp neD (mVar j) (mC (.int 0)))) (mPar i j (mCons (mVar j) (mCons (mOp modD (mVar i) (mVar j)) mNil))) l s = .nx ((l.set i (some (.int g))).set j (some (.int 0))) s := by
  intro n
  induction n with
  | zero =>
    intro a b l s hn hi hj
    have hb : b = 0 := by omega
    subst hb
    refine ⟨a, by simp, fun h _ => h, ?_⟩
    rw [mWhile_eq]
    simp only [mTest, mOp, mVar, hj, mC, R.bind_ok, neD_int]
    have e1 : l.set i (some (.int a)) = l := by
      apply List.ext_getElem?
      intro k
      by_cases h : i = k
      · subst h
        rw [List.getElem?_set_self (List.getElem?_eq_some_iff.mp hi).1, hi]
      · rw [List.getElem?_set_ne h]
    have e2 : l.set j (some (.int 0)) = l := by
      apply List.ext_getElem?
      intro k
      by_cases h : j = k
      · subst h
        rw [List.getElem?_set_self (List.getElem?_eq_some_iff.mp hj).1, hj]
      · rw [List.getElem?_set_ne h]
    rw [e1, e2]
    rfl
  | succ n ih =>
    intro a b l s hn hi hj
    by_cases hb : b = 0
    · obtain ⟨g, h1, h2, h3⟩ := ih a b l s (by omega) hi hj
      exact ⟨g, h1, h2, h3⟩
    · have hlt := fmod_natAbs a b hb
      have hli : i < l.length := (List.getElem?_eq_some_iff.mp hi).1
      have hlj : j < l.length := (List.getElem?_eq_some_iff.mp hj).1
      obtain ⟨g, h1, h2, h3⟩ := ih b (a.fmod b) ((l.set i (some (.int b))).set j (some (.int (a.fmod b)))) s (by omega)
        (by rw [List.getElem?_set_ne (Ne.symm hij), List.getElem?_set_self hli]) (by rw [List.getElem?_set_self (by rw [List.length_set]; exact hlj)])
      refine ⟨g, by rw [h1, gcd_fmod], fun ha hb' => h2 hb' (Int.fmod_nonneg_of_pos a (by omega)), ?_⟩
      rw [mWhile_eq]
      have hne : (!(b == 0)) = true := by simp [hb]
      simp only [mTest, mOp, mVar, hj, mC, R.bind_ok, neD_int, hne]
      simp only [mPar, mCons, mVar, hj, hi, mOp, R.bind_ok, modD, if_neg hb, mNil, toOut]
      rw [h3]
      congr 1
      apply List.ext_getElem?
      intro k
      by_cases hk : j = k
      · subst hk
        rw [List.getElem?_set_self (by simpa using hlj), List.getElem?_set_self (by simpa using hlj)]
      · rw [List.getElem?_set_ne hk, List.getElem?_set_ne hk]
        by_cases hk2 : i = k
        · subst hk2
          rw [List.getElem?_set_self (by simpa using hli), List.getElem?_set_self (by simpa using hli)]
        · rw [List.getElem?_set_ne hk2, List.getElem?_set_ne hk2, List.getElem?_set_ne hk, List.getElem?_set_ne hk2]

/-! ### fractions -/
/-- a fraction as the program has it -/
def fr (x : Rat) : D := .tup [.int x.num, .int (x.den : Int)]
/-- of so many bits at most -/
def Sm (N : Nat) (x : Rat) : Prop := x.num.natAbs < 2 ^ N ∧ x.den < 2 ^ N
theorem log2_lt {n N : Nat} (h : n < 2 ^ N) (hN : 0 < N) : n.log2 < N := by
  rcases Nat.eq_zero_or_pos n with h0 | hp
  · subst h0; simpa using hN
  · exact (Nat.log2_lt (Nat.ne_of_gt hp)).mpr h
theorem mulOk_of {i j : Int} {a b : Nat} (ha : i.natAbs < 2 ^ a) (hb : j.natAbs < 2 ^ b) (h0 : 0 < a) (h1 : 0 < b) (h : a + b ≤ 1000000) : mulOk i j = true := by
  unfold mulOk
  have x := log2_lt ha h0
  have y := log2_lt hb h1
  simp only [Bool.or_eq_true, decide_eq_true_eq]
  right
  omega
theorem mulOk_l {i j : Int} (h : i.natAbs < 2 ^ 64) : mulOk i j = true := by
  unfold mulOk; simp only [Bool.or_eq_true, decide_eq_true_eq]; exact .inl (.inl h)
theorem mulOk_r {i j : Int} (h : j.natAbs < 2 ^ 64) : mulOk i j = true := by
  unfold mulOk; simp only [Bool.or_eq_true, decide_eq_true_eq]; exact .inl (.inr h)
theorem divOk_of {j : Int} {b : Nat} (h0 : j ≠ 0) (hb : j.natAbs < 2 ^ b) (h1 : 0 < b) (h : b ≤ 9000) : divOk j = true := by
  unfold divOk
  have y := log2_lt hb h1
  simp only [Bool.and_eq_true, decide_eq_true_eq]
  exact ⟨h0, by omega⟩
theorem natAbs_mul_lt {i j : Int} {a b : Nat} (ha : i.natAbs < 2 ^ a) (hb : j.natAbs < 2 ^ b) : (i * j).natAbs < 2 ^ (a + b) := by
  rw [Int.natAbs_mul, Nat.pow_add]
  exact Nat.mul_lt_mul'' ha hb
theorem natAbs_add_lt {i j : Int} {a : Nat} (ha : i.natAbs < 2 ^ a) (hb : j.natAbs < 2 ^ a) : (i + j).natAbs < 2 ^ (a + 1) := by
  have : 2 ^ (a + 1) = 2 ^ a + 2 ^ a := by rw [Nat.pow_succ]; omega
  omega
theorem natAbs_sub_lt {i j : Int} {a : Nat} (ha : i.natAbs < 2 ^ a) (hb : j.natAbs < 2 ^ a) : (i - j).natAbs < 2 ^ (a + 1) := by
  have : 2 ^ (a + 1) = 2 ^ a + 2 ^ a := by rw [Nat.pow_succ]; omega
  omega
/-- p divided by q, by the greatest common divisor -/
theorem divInt_num {p q : Int} (hq : 0 < q) : (Rat.divInt p q).num = p.fdiv (Int.gcd p q) := by
  rw [Rat.num_divInt, Int.sign_eq_one_of_pos hq, Int.one_mul, Int.gcd_comm, Int.fdiv_eq_ediv_of_nonneg _ (by omega)]
theorem divInt_den {p q : Int} (hq : 0 < q) : ((Rat.divInt p q).den : Int) = q.fdiv (Int.gcd p q) := by
  rw [Rat.den_divInt, if_neg (by omega), Int.gcd_comm, Int.fdiv_eq_ediv_of_nonneg _ (by omega)]
  have : ((q.natAbs : Nat) : Int) = q := by omega
  rw [Int.natCast_ediv, this]
theorem divInt_sm {p q : Int} {N : Nat} (hp : p.natAbs < 2 ^ N) (hq : q.natAbs < 2 ^ N) (h0 : q ≠ 0) : Sm N (Rat.divInt p q) := by
  have key : ∀ {p q : Int}, p.natAbs < 2 ^ N → q.natAbs < 2 ^ N → 0 < q → Sm N (Rat.divInt p q) := fun {p q} hp hq h0 => by
    have hg : 0 < Int.gcd p q := Int.gcd_pos_of_ne_zero_right _ (by omega)
    refine ⟨?_, ?_⟩
    · rw [divInt_num h0, Int.fdiv_eq_ediv_of_nonneg _ (by omega), Int.natAbs_ediv_of_dvd (Int.gcd_dvd_left ..)]
      exact Nat.lt_of_le_of_lt (Nat.div_le_self _ _) hp
    · have := divInt_den (p := p) h0
      rw [Int.fdiv_eq_ediv_of_nonneg _ (by omega)] at this
      have h2 : q / (Int.gcd p q : Int) ≤ q := Int.ediv_le_self _ (by omega)
      omega
  rcases Int.lt_or_lt_of_ne h0 with h | h
  · rw [← Rat.neg_divInt_neg]
    exact key (by rw [Int.natAbs_neg]; exact hp) (by rw [Int.natAbs_neg]; exact hq) (by omega)
  · exact key hp hq h
theorem Sm.mono {x : Rat} {M N : Nat} (h : Sm M x) (hm : M ≤ N) : Sm N x := ⟨Nat.lt_of_lt_of_le h.1 (Nat.pow_le_pow_right (by decide) hm), Nat.lt_of_lt_of_le h.2 (Nat.pow_le_pow_right (by decide) hm)⟩
theorem add_divInt (x y : Rat) : x + y = Rat.divInt (x.num * y.den + y.num * x.den) (x.den * y.den) := by
  rw [Rat.add_def', ← Rat.divInt_ofNat]; rfl
theorem sub_divInt (x y : Rat) : x - y = Rat.divInt (x.num * y.den - y.num * x.den) (x.den * y.den) := by
  rw [Rat.sub_def', ← Rat.divInt_ofNat]; rfl
theorem mul_divInt (x y : Rat) : x * y = Rat.divInt (x.num * y.num) (x.den * y.den) := by
  rw [Rat.mul_def', ← Rat.divInt_ofNat]; rfl
theorem div_divInt (x y : Rat) : x / y = Rat.divInt (x.num * y.den) (x.den * y.num) := by
  rw [Rat.div_def, Rat.inv_def]
  conv => lhs; lhs; rw [← Rat.num_divInt_den x]
  rw [Rat.divInt_mul_divInt]
theorem num_lt {x : Rat} {N : Nat} (h : Sm N x) : x.num.natAbs < 2 ^ N := h.1
theorem den_lt {x : Rat} {N : Nat} (h : Sm N x) : (x.den : Int).natAbs < 2 ^ N := by have := h.2; omega
end DL


namespace DL
open PySem PySem.Spec PyProof.Rows L2

/-! ### plain values: none, ints, lists and tuples of them -/
def plN : Nat → D → Bool
  | 0, _ => false
  | _ + 1, .non => true
  | _ + 1, .int _ => true
  | _ + 1, .str x => decide (x.length ≤ 100000) && PyData.strOk x
  | k + 1, .tup xs => xs.all (plN k)
  | k + 1, .lst xs => xs.all (plN k)
  | _ + 1, _ => false
mutual
def py : D → PyData
  | .int i => .int i
  | .str x => .str x
  | .tup xs => .tuple (pyA xs)
  | .lst xs => .list (pyA xs)
  | _ => .none
def pyA : List D → List PyData
  | [] => []
  | x :: xs => py x :: pyA xs
end
theorem plN_toPy (s : Sto) : ∀ (k : Nat) (d : D), plN k d = true → toPy s d = some (py d) ∧ toPyR s d = some (py d) ∧ (py d).canLay0 = true ∧ (py d).depth ≤ k := by
  intro k
  induction k with
  | zero => intro d h; cases h
  | succ k ih =>
    have key : ∀ xs : List D, xs.all (plN k) = true → toPyA s xs = some (pyA xs) ∧ PyData.canLayAll0 (pyA xs) = true ∧ PyData.depthAll (pyA xs) ≤ k := by
      intro xs
      induction xs with
      | nil => intro _; exact ⟨by simp [toPyA, pyA], by simp [PyData.canLayAll0, pyA], by simp [PyData.depthAll, pyA]⟩
      | cons x xs ih2 =>
        intro h
        simp only [List.all_cons, Bool.and_eq_true] at h
        obtain ⟨a, _, b, c⟩ := ih x h.1
        obtain ⟨a', b', c'⟩ := ih2 h.2
        refine ⟨by simp [toPyA, pyA, a, a'], by simp [PyData.canLayAll0, pyA, b, b'], ?_⟩
        simp only [PyData.depthAll, pyA]
        omega
    intro d h
    cases d with
    | non => exact ⟨by simp [toPy, py], by simp [toPyR, toPy, py], by simp [py, PyData.canLay0], by simp [py, PyData.depth]⟩
    | int i => exact ⟨by simp [toPy, py], by simp [toPyR, toPy, py], by simp [py, PyData.canLay0], by simp [py, PyData.depth]⟩
    | str x =>
      simp only [plN, Bool.and_eq_true, decide_eq_true_eq] at h
      exact ⟨by simp [toPy, py, h.1], by simp [toPyR, toPy, py, h.1], by simp [py, PyData.canLay0, h.2], by simp [py, PyData.depth]⟩
    | tup xs =>
      obtain ⟨a, b, c⟩ := key xs h
      exact ⟨by simp [toPy, py, a], by simp [toPyR, toPy, py, a], by simp [py, PyData.canLay0, b], by simp only [py, PyData.depth]; omega⟩
    | lst xs =>
      obtain ⟨a, b, c⟩ := key xs h
      exact ⟨by simp [toPy, py, a], by simp [toPyR, toPy, py, a], by simp [py, PyData.canLay0, b], by simp only [py, PyData.depth]; omega⟩
    | _ => cases h
theorem py_eqv : ∀ (k : Nat) (d e : D), plN k d = true → plN k e = true → (PyData.eqv (py d) (py e) = true ↔ d = e) := by
  intro k
  induction k with
  | zero => intro d e h; cases h
  | succ k ih =>
    have key : ∀ xs ys : List D, xs.all (plN k) = true → ys.all (plN k) = true → (PyData.eqvAll (pyA xs) (pyA ys) = true ↔ xs = ys) := by
      intro xs
      induction xs with
      | nil =>
        intro ys _ _
        cases ys <;> simp [pyA, PyData.eqvAll]
      | cons x xs ih2 =>
        intro ys h g
        cases ys with
        | nil => simp [pyA, PyData.eqvAll]
        | cons y ys =>
          simp only [List.all_cons, Bool.and_eq_true] at h g
          simp only [pyA, PyData.eqvAll, Bool.and_eq_true, ih x y h.1 g.1, ih2 ys h.2 g.2, List.cons.injEq]
    intro d e h g
    cases d <;> first | cases h | skip
    all_goals cases e <;> first | cases g | skip
    all_goals simp only [py, PyData.eqv, beq_iff_eq, D.int.injEq, D.str.injEq, D.tup.injEq, D.lst.injEq, reduceCtorEq, Bool.false_eq_true]
    all_goals first | exact key _ _ h g | simp
open Classical in
theorem eqB_pl (s : Sto) {k : Nat} {d e : D} (hd : plN k d = true) (he : plN k e = true) (hk : k ≤ 64) : eqB s d e = some (decide (d = e)) := by
  obtain ⟨_, a1, b1, c1⟩ := plN_toPy s k d hd
  obtain ⟨_, a2, b2, c2⟩ := plN_toPy s k e he
  have s1 : SeqAt.shaped (py d) = true := by simp only [SeqAt.shaped, b1, Bool.true_and, decide_eq_true_eq]; omega
  have s2 : SeqAt.shaped (py e) = true := by simp only [SeqAt.shaped, b2, Bool.true_and, decide_eq_true_eq]; omega
  simp only [eqB, a1, a2, s1, s2, and_self, if_true]
  congr 1
  have := py_eqv k d e hd he
  by_cases h : d = e
  · rw [decide_eq_true h]; exact this.mpr h
  · rw [decide_eq_false h]
    cases h2 : PyData.eqv (py d) (py e) with
    | true => exact absurd (this.mp h2) h
    | false => rfl
open Classical in
theorem eqD_pl {s : Sto} (k : Nat) {d e : D} (hd : plN k d = true) (he : plN k e = true) (hk : k ≤ 64) : eqD d e s = .ok (.bl (decide (d = e))) s := by
  simp only [eqD, eqB_pl s hd he hk]
open Classical in
theorem neD_pl {s : Sto} (k : Nat) {d e : D} (hd : plN k d = true) (he : plN k e = true) (hk : k ≤ 64) : neD d e s = .ok (.bl (!decide (d = e))) s := by
  simp only [neD, eqB_pl s hd he hk]
theorem eqD_yes {s : Sto} (k : Nat) {d e : D} (h : d = e) (hd : plN k d = true) (hk : k ≤ 64) : eqD d e s = .ok (.bl true) s := by
  subst h; rw [eqD_pl k hd hd hk]; simp
theorem eqD_no {s : Sto} (k : Nat) {d e : D} (h : d ≠ e) (hd : plN k d = true) (he : plN k e = true) (hk : k ≤ 64) : eqD d e s = .ok (.bl false) s := by
  rw [eqD_pl k hd he hk]; simp [h]
theorem neD_no {s : Sto} (k : Nat) {d e : D} (h : d = e) (hd : plN k d = true) (hk : k ≤ 64) : neD d e s = .ok (.bl false) s := by
  subst h; rw [neD_pl k hd hd hk]; simp
theorem neD_yes {s : Sto} (k : Nat) {d e : D} (h : d ≠ e) (hd : plN k d = true) (he : plN k e = true) (hk : k ≤ 64) : neD d e s = .ok (.bl true) s := by
  rw [neD_pl k hd he hk]; simp [h]
theorem plN_mono : ∀ {k : Nat} {d : D}, plN k d = true → ∀ {j : Nat}, k ≤ j → plN j d = true
  | 0, _, h, _, _ => by cases h
  | k + 1, d, h, j, hj => by
    obtain ⟨j, rfl⟩ : ∃ j', j = j' + 1 := ⟨j - 1, by omega⟩
    cases d with
    | non => rfl
    | int i => rfl
    | str x => exact h
    | tup xs =>
      simp only [plN, List.all_eq_true] at h ⊢
      exact fun x hx => plN_mono (h x hx) (by omega)
    | lst xs =>
      simp only [plN, List.all_eq_true] at h ⊢
      exact fun x hx => plN_mono (h x hx) (by omega)
    | _ => cases h
theorem frz_pl (s : Sto) (n : Nat) : ∀ (k : Nat) (d : D), plN k d = true → ∀ j, k ≤ j → frz s n j d = some d := by
  intro k
  induction k with
  | zero => intro d h; cases h
  | succ k ih =>
    intro d h j hj
    obtain ⟨j, rfl⟩ : ∃ j', j = j' + 1 := ⟨j - 1, by omega⟩
    have key : ∀ xs : List D, xs.all (plN k) = true → frzA (frz s n j) xs = some xs := by
      intro xs
      induction xs with
      | nil => intro _; rfl
      | cons x xs ih2 =>
        intro h
        simp only [List.all_cons, Bool.and_eq_true] at h
        simp only [frzA, ih x h.1 j (by omega), ih2 h.2]
    cases d with
    | non => rfl
    | int i => rfl
    | str x => rfl
    | tup xs => simp only [frz, key xs h, Option.map_some]
    | lst xs => simp only [frz, key xs h, Option.map_some]
    | _ => cases h
theorem clD_pl (n : Nat) : ∀ (k : Nat) (d : D), plN k d = true → clD n d = true := by
  intro k
  induction k with
  | zero => intro d h; cases h
  | succ k ih =>
    have key : ∀ xs : List D, xs.all (plN k) = true → clA n xs = true := by
      intro xs
      induction xs with
      | nil => intro _; simp [clA]
      | cons x xs ih2 =>
        intro h
        simp only [List.all_cons, Bool.and_eq_true] at h
        simp only [clA, ih x h.1, ih2 h.2, Bool.and_self]
    intro d h
    cases d with
    | non => simp [clD]
    | int i => simp [clD]
    | str x => simp [clD]
    | tup xs => simp only [clD]; exact key xs h
    | lst xs => simp only [clD]; exact key xs h
    | _ => cases h
theorem clA_pl (n k : Nat) : ∀ xs : List D, xs.all (plN k) = true → clA n xs = true := by
  intro xs
  induction xs with
  | nil => intro _; simp [clA]
  | cons x xs ih2 =>
    intro h
    simp only [List.all_cons, Bool.and_eq_true] at h
    simp only [clA, clD_pl n k x h.1, ih2 h.2, Bool.and_self]
/-- a store of plain values -/
def plO : O → Bool
  | .lst xs => xs.all (plN 20)
  | .dK kvs => (kvs.map (·.2)).all (plN 20)
  | .dT kvs => (kvs.map (·.2)).all (plN 20)
def plS (s : Sto) : Prop := ∀ o ∈ s, plO o = true
theorem plS_cl {s : Sto} (h : plS s) (n : Nat) : s.all (clO n) = true := by
  rw [List.all_eq_true]
  intro o ho
  have hx := h o ho
  cases o with
  | lst xs => exact clA_pl n _ _ hx
  | dK xs => exact clA_pl n _ _ hx
  | dT xs => exact clA_pl n _ _ hx
theorem plS_app {s t : Sto} (h : plS s) (g : plS t) : plS (s ++ t) := fun o ho => by
  rcases List.mem_append.mp ho with ho | ho
  · exact h o ho
  · exact g o ho
theorem plS_nil : plS [] := fun o ho => by cases ho
theorem plS_one {o : O} (h : plO o = true) : plS [o] := fun q hq => by rw [List.mem_singleton] at hq; rw [hq]; exact h
theorem backF_pl {base t : Sto} {d : D} (hb : plS base) (hd : plN 12 d = true) : backF base.length (.ok d (base ++ t)) = .ok d base := by
  by_cases h : t = []
  · subst h; simp only [List.append_nil, backF, if_true]
  · have : (base ++ t).length ≠ base.length := by
      rw [List.length_append]
      have := List.length_pos_iff.mpr h
      omega
    simp only [backF, if_neg this, frz_pl _ _ _ _ hd 12 (Nat.le_refl _), List.take_left, plS_cl hb, if_true]
theorem backF_pl' {n : Nat} {base t : Sto} {d : D} (hn : n = base.length) (hb : plS base) (hd : plN 12 d = true) : backF n (.ok d (base ++ t)) = .ok d base := by
  subst hn; exact backF_pl hb hd
theorem backF_eq {n : Nat} {s : Sto} {d : D} (hn : s.length = n) : backF n (.ok d s) = .ok d s := by
  simp only [backF, hn, if_true]

/-! ### loops -/
theorem forL_inv {mg : MG} {mb : MS} {ds : List D} (P : Nat → Loc → Sto → Prop)
    (step : ∀ k d l s, ds[k]? = some d → P k l s → ∃ l1 s1, mg d l s = .ok l1 s1 ∧ ∃ l2 s2, mb l1 s1 = .nx l2 s2 ∧ P (k + 1) l2 s2)
    {l : Loc} {s : Sto} (h : P 0 l s) : ∃ l' s', forL mg mb ds l s = .nx l' s' ∧ P ds.length l' s' := by
  induction ds generalizing P l s with
  | nil => exact ⟨l, s, rfl, h⟩
  | cons d ds ih =>
    obtain ⟨l1, s1, e1, l2, s2, e2, h2⟩ := step 0 d l s rfl h
    obtain ⟨l3, s3, e3, h3⟩ := ih (fun k => P (k + 1)) (fun k d' l s hk hp => step (k + 1) d' l s (by simpa using hk) hp) h2
    exact ⟨l3, s3, by simp only [forL, e1, e2, e3], h3⟩
/-- a loop that looks for the first -/
theorem forL_find {mg : MG} {mb : MS} {ds : List D} (P : Loc → Prop) (s : Sto) (f : D → Option D)
    (step : ∀ d l, d ∈ ds → P l → ∃ l1, mg d l s = .ok l1 s ∧ match f d with
      | some r => mb l1 s = .rt r s
      | none => ∃ l2, (mb l1 s = .nx l2 s ∨ mb l1 s = .ct l2 s) ∧ P l2)
    {l : Loc} (h : P l) : match ds.findSome? f with
      | some r => forL mg mb ds l s = .rt r s
      | none => ∃ l', forL mg mb ds l s = .nx l' s ∧ P l' := by
  induction ds generalizing l with
  | nil => exact ⟨l, rfl, h⟩
  | cons d ds ih =>
    obtain ⟨l1, e1, h1⟩ := step d l (List.mem_cons_self ..) h
    rw [List.findSome?_cons]
    cases hf : f d with
    | some r =>
      rw [hf] at h1
      simp only [forL, e1, h1]
    | none =>
      rw [hf] at h1
      obtain ⟨l2, e2, h2⟩ := h1
      have := ih (fun d l hd hp => step d l (List.mem_cons_of_mem _ hd) hp) h2
      have e3 : forL mg mb (d :: ds) l s = forL mg mb ds l2 s := by
        rcases e2 with e2 | e2 <;> simp only [forL, e1, e2]
      dsimp only
      rw [e3]
      exact this
/-- a comprehension that changes nothing -/
theorem lcL_pure {tg : MG} {tt : MT} {me : ME} {l : Loc} {s : Sto} (f : D → D) : ∀ {ds : List D}, (∀ d ∈ ds, ∃ l1, tg d l s = .ok l1 s ∧ tt l1 s = .ok true s ∧ me l1 s = .ok (f d) s) → lcL tg tt me ds l s = .ok (ds.map f) s
  | [], _ => rfl
  | d :: ds, h => by
    obtain ⟨l1, e1, e2, e3⟩ := h d (List.mem_cons_self ..)
    have := lcL_pure f (ds := ds) fun d hd => h d (List.mem_cons_of_mem _ hd)
    simp only [lcL, e1, e2, e3, R.bind_ok, this, List.map_cons]
/-- .. with a test -/
theorem lcL_filter {tg : MG} {tt : MT} {me : ME} {l : Loc} {s : Sto} (p : D → Bool) (f : D → D) : ∀ {ds : List D}, (∀ d ∈ ds, ∃ l1, tg d l s = .ok l1 s ∧ tt l1 s = .ok (p d) s ∧ (p d = true → me l1 s = .ok (f d) s)) → lcL tg tt me ds l s = .ok ((ds.filter p).map f) s
  | [], _ => rfl
  | d :: ds, h => by
    obtain ⟨l1, e1, e2, e3⟩ := h d (List.mem_cons_self ..)
    have := lcL_filter p f (ds := ds) fun d hd => h d (List.mem_cons_of_mem _ hd)
    cases hp : p d with
    | true =>
      simp only [lcL, e1, e2, hp, e3 hp, R.bind_ok, this, List.filter_cons, if_true, List.map_cons]
    | false =>
      simp only [lcL, e1, e2, hp, R.bind_ok, this, List.filter_cons, Bool.false_eq_true, if_false]
/-- .. that makes one object after another -/
theorem lcL_new {tg : MG} {tt : MT} {me : ME} {l : Loc} (f : D → O) : ∀ {ds : List D} (s : Sto), (∀ d ∈ ds, ∀ t, ∃ l1, tg d l (s ++ t) = .ok l1 (s ++ t) ∧ tt l1 (s ++ t) = .ok true (s ++ t) ∧ me l1 (s ++ t) = .ok (.ref (s ++ t).length) (s ++ t ++ [f d])) →
    lcL tg tt me ds l s = .ok ((List.range ds.length).map fun i => .ref (s.length + i)) (s ++ ds.map f)
  | [], s, _ => by simp [lcL]
  | d :: ds, s, h => by
    obtain ⟨l1, e1, e2, e3⟩ := h d (List.mem_cons_self ..) []
    rw [List.append_nil] at e1 e2 e3
    have := lcL_new f (ds := ds) (s ++ [f d]) fun d' hd t => by
      have := h d' (List.mem_cons_of_mem _ hd) ([f d] ++ t)
      rwa [← List.append_assoc] at this
    simp only [lcL, e1, e2, e3, R.bind_ok, this, List.length_append, List.length_cons, List.length_nil, Nat.zero_add, List.range_succ_eq_map, List.map_cons, List.map_map, Nat.add_zero, List.append_assoc, List.singleton_append]
    congr 2
    apply List.map_congr_left
    intro i _
    simp only [Function.comp, List.length_nil, Nat.zero_add]
    congr 1
    omega
theorem rangeD_mem {lo : Int} {n : Nat} {d : D} (h : d ∈ rangeD lo n) : ∃ i : Nat, i < n ∧ d = .int (lo + i) := by
  unfold rangeD at h
  obtain ⟨i, hi, rfl⟩ := List.mem_map.mp h
  exact ⟨i, List.mem_range.mp hi, rfl⟩
theorem rangeD_get {lo : Int} {n k : Nat} {d : D} (h : (rangeD lo n)[k]? = some d) : k < n ∧ d = .int (lo + k) := by
  unfold rangeD at h
  rw [List.getElem?_map] at h
  cases e : (List.range n)[k]? with
  | none => rw [e] at h; cases h
  | some i =>
    rw [e] at h
    obtain ⟨h1, h2⟩ := List.getElem?_eq_some_iff.mp e
    rw [List.getElem_range] at h2
    subst h2
    rw [List.length_range] at h1
    simp only [Option.map_some, Option.some.injEq] at h
    exact ⟨h1, h.symm⟩
theorem rangeD_len {lo : Int} {n : Nat} : (rangeD lo n).length = n := by simp [rangeD]
theorem findRange {lo : Int} {n : Nat} (f : Nat → Option D) : (rangeD lo n).findSome? (fun d => match d with | .int i => f (i - lo).toNat | _ => none) = (List.range n).findSome? f := by
  have : ∀ ds : List Nat, (ds.map fun (i : Nat) => D.int (lo + (i : Int))).findSome? (fun d => match d with | .int i => f (i - lo).toNat | _ => none) = ds.findSome? f := by
    intro ds
    induction ds with
    | nil => rfl
    | cons d ds ih =>
      have : (lo + (d : Int) - lo).toNat = d := by omega
      simp only [List.map_cons, List.findSome?_cons, this, ih]
  exact this _
/-- a loop over numbers that looks for the first -/
theorem forL_look {mg : MG} {mb : MS} {lo : Int} {n : Nat} (P : Loc → Prop) (s : Sto) (f : Nat → Option D)
    (step : ∀ (i : Nat) l, i < n → P l → ∃ l1, mg (.int (lo + i)) l s = .ok l1 s ∧ (∀ r, f i = some r → mb l1 s = .rt r s) ∧ (f i = none → ∃ l2, mb l1 s = .nx l2 s ∧ P l2))
    {l : Loc} (h : P l) : (∀ r, (List.range n).findSome? f = some r → forL mg mb (rangeD lo n) l s = .rt r s) ∧ ((List.range n).findSome? f = none → ∃ l', forL mg mb (rangeD lo n) l s = .nx l' s ∧ P l') := by
  have key := forL_find (mg := mg) (mb := mb) (ds := rangeD lo n) P s (fun d => match d with | .int i => f (i - lo).toNat | _ => none) (fun d l hd hp => by
    obtain ⟨i, hi, rfl⟩ := rangeD_mem hd
    obtain ⟨l1, e1, a, b⟩ := step i l hi hp
    refine ⟨l1, e1, ?_⟩
    have : (lo + (i : Int) - lo).toNat = i := by omega
    dsimp only
    rw [this]
    cases hf : f i with
    | some r => exact a r hf
    | none =>
      obtain ⟨l2, e2, h2⟩ := b hf
      exact ⟨l2, .inl e2, h2⟩) h
  rw [findRange] at key
  cases hf : (List.range n).findSome? f with
  | some r =>
    rw [hf] at key
    exact ⟨fun _ e => (by cases e; exact key), fun e => (by cases e)⟩
  | none =>
    rw [hf] at key
    exact ⟨fun _ e => (by cases e), fun _ => key⟩
theorem intB_small {i : Int} (h1 : -1000000 ≤ i) (h2 : i ≤ 1000000) : intB i = true := by
  have a : -(2 ^ 62) ≤ i := by
    have : (-(2 ^ 62) : Int) ≤ -1000000 := by decide
    exact Int.le_trans this h1
  have b : i < 2 ^ 62 := by
    have : (1000000 : Int) < 2 ^ 62 := by decide
    exact Int.lt_of_le_of_lt h2 this
  simp only [intB, a, b, and_self, decide_true]

/-! ### rows of numbers -/
def rowD (n : Nat) (f : Nat → Rat) : List D := (List.range n).map fun j => fr (f j)
def matS (n m : Nat) (M : Nat → Nat → Rat) : Sto := (List.range n).map fun i => .lst (rowD m (M i))
def updM (M : Nat → Nat → Rat) (i j : Nat) (v : Rat) : Nat → Nat → Rat := fun a b => if a = i ∧ b = j then v else M a b
theorem rowD_len {n : Nat} {f : Nat → Rat} : (rowD n f).length = n := by simp [rowD]
theorem rowD_get {n j : Nat} {f : Nat → Rat} (h : j < n) : (rowD n f)[j]? = some (fr (f j)) := by simp [rowD, h]
theorem matS_len {n m : Nat} {M : Nat → Nat → Rat} : (matS n m M).length = n := by simp [matS]
theorem matS_get {n m i : Nat} {M : Nat → Nat → Rat} (h : i < n) : (matS n m M)[i]? = some (.lst (rowD m (M i))) := by simp [matS, h]
theorem ixN_of {n j : Nat} (h : j < n) : ixN n (j : Int) = some j := by
  unfold ixN
  simp [h]
theorem atI_of {α : Type} {xs : List α} {j : Nat} {v : α} (h : xs[j]? = some v) : atI xs (j : Int) = some v := by
  unfold atI
  have := (List.getElem?_eq_some_iff.mp h).1
  rw [ixN_of this]
  exact h
theorem rowD_congr {n : Nat} {f g : Nat → Rat} (h : ∀ j, j < n → f j = g j) : rowD n f = rowD n g := by
  unfold rowD
  apply List.map_congr_left
  intro j hj
  rw [h j (List.mem_range.mp hj)]
theorem matS_congr {n m : Nat} {M N : Nat → Nat → Rat} (h : ∀ i j, i < n → j < m → M i j = N i j) : matS n m M = matS n m N := by
  unfold matS
  apply List.map_congr_left
  intro i hi
  rw [rowD_congr fun j hj => h i j (List.mem_range.mp hi) hj]
theorem rowD_set {n j : Nat} {f : Nat → Rat} {v : Rat} : (rowD n f).set j (fr v) = rowD n (fun b => if b = j then v else f b) := by
  apply List.ext_getElem?
  intro k
  by_cases hk : k < n
  · rw [rowD_get hk]
    by_cases h : j = k
    · subst h
      rw [List.getElem?_set_self (by rw [rowD_len]; exact hk), if_pos rfl]
    · rw [List.getElem?_set_ne h, rowD_get hk, if_neg (Ne.symm h)]
  · rw [List.getElem?_eq_none (by rw [List.length_set, rowD_len]; omega), List.getElem?_eq_none (by rw [rowD_len]; omega)]
theorem matS_set {n m i j : Nat} {M : Nat → Nat → Rat} {v : Rat} (hi : i < n) : (matS n m M).set i (.lst ((rowD m (M i)).set j (fr v))) = matS n m (updM M i j v) := by
  apply List.ext_getElem?
  intro k
  by_cases hk : k < n
  · rw [matS_get hk]
    by_cases h : i = k
    · subst h
      rw [List.getElem?_set_self (by rw [matS_len]; exact hk), rowD_set]
      congr 2
      apply rowD_congr
      intro b _
      simp only [updM, true_and]
    · rw [List.getElem?_set_ne h, matS_get hk]
      congr 2
      apply rowD_congr
      intro b _
      simp only [updM, Ne.symm h, false_and, if_false]
  · rw [List.getElem?_eq_none (by rw [List.length_set, matS_len]; omega), List.getElem?_eq_none (by rw [matS_len]; omega)]
theorem ix_mat {base : Sto} {n m i j : Nat} {M : Nat → Nat → Rat} (hi : i < n) (hj : j < m) : ixD (.ref (base.length + i)) (.int j) (base ++ matS n m M) = .ok (fr (M i j)) (base ++ matS n m M) := by
  have e : (base ++ matS n m M)[base.length + i]? = some (.lst (rowD m (M i))) := by
    rw [List.getElem?_append_right (by omega), Nat.add_sub_cancel_left, matS_get hi]
  simp only [ixD, rdS, e, atI_of (rowD_get hj)]
theorem set_mat {base : Sto} {n m i j : Nat} {M : Nat → Nat → Rat} {v : Rat} (hi : i < n) (hj : j < m) : setD (.ref (base.length + i)) (.int j) (fr v) (base ++ matS n m M) = .ok () (base ++ matS n m (updM M i j v)) := by
  have e : (base ++ matS n m M)[base.length + i]? = some (.lst (rowD m (M i))) := by
    rw [List.getElem?_append_right (by omega), Nat.add_sub_cancel_left, matS_get hi]
  simp only [setD, e, rowD_len, ixN_of hj]
  rw [List.set_append_right _ _ (by omega), Nat.add_sub_cancel_left, matS_set hi]
/-- the references to the rows -/
def refsD (b n : Nat) : D := .lst ((List.range n).map fun i => .ref (b + i))
theorem ix_refs {b n i : Nat} (s : Sto) (hi : i < n) : ixD (refsD b n) (.int i) s = .ok (.ref (b + i)) s := by
  have e : ((List.range n).map fun i => D.ref (b + i))[i]? = some (.ref (b + i)) := by simp [hi]
  simp only [refsD, ixD, rdS, atI_of e]
/-- a table as the program has it -/
def tabD (n m : Nat) (M : Nat → Nat → Rat) : D := .tup ((List.range n).map fun i => .tup (rowD m (M i)))
theorem ix_tab {n m i : Nat} {M : Nat → Nat → Rat} (s : Sto) (hi : i < n) : ixD (tabD n m M) (.int i) s = .ok (.tup (rowD m (M i))) s := by
  have e : ((List.range n).map fun i => D.tup (rowD m (M i)))[i]? = some (.tup (rowD m (M i))) := by simp [hi]
  simp only [tabD, ixD, rdS, atI_of e]
theorem ix_row {m j : Nat} {f : Nat → Rat} (s : Sto) (hj : j < m) : ixD (.tup (rowD m f)) (.int j) s = .ok (fr (f j)) s := by
  simp only [ixD, rdS, atI_of (rowD_get hj)]
theorem plN_fr (x : Rat) : plN 2 (fr x) = true := rfl
theorem plN_row {m : Nat} {f : Nat → Rat} : (rowD m f).all (plN 2) = true := by
  simp [rowD, plN_fr]
theorem plN_tab {n m : Nat} {M : Nat → Nat → Rat} : plN 4 (tabD n m M) = true := by
  simp only [tabD, plN, List.all_map, List.all_eq_true, Function.comp]
  intro i _ x hx
  exact List.all_eq_true.mp plN_row x hx
theorem fr_inj {x y : Rat} : fr x = fr y ↔ x = y := by
  constructor
  · intro h
    simp only [fr, D.tup.injEq, List.cons.injEq, D.int.injEq, and_true] at h
    exact Rat.ext h.1 (by omega)
  · rintro rfl; rfl
theorem eqD_fr (x y : Rat) (s : Sto) : eqD (fr x) (fr y) s = .ok (.bl (decide (x = y))) s := by
  rw [eqD_pl 2 (plN_fr x) (plN_fr y) (by decide)]
  congr 2
  exact decide_eq_decide.mpr fr_inj
theorem neD_fr (x y : Rat) (s : Sto) : neD (fr x) (fr y) s = .ok (.bl (!decide (x = y))) s := by
  rw [neD_pl 2 (plN_fr x) (plN_fr y) (by decide)]
  congr 3
  exact decide_eq_decide.mpr fr_inj
theorem fr_zero : (.tup [.int 0, .int 1] : D) = fr 0 := rfl
theorem fr_one : (.tup [.int 1, .int 1] : D) = fr 1 := rfl

/-! ### draws -/
/-- a bag at n -/
def BagAt (s : Sto) (n : Nat) : Prop := ∃ a b c : Int, s[n]? = some (.lst [.int a, .int b, .int c]) ∧ c.natAbs < 2 ^ 64
/-- nothing but n has changed, and there stands a bag -/
def Drew (s s' : Sto) (n : Nat) : Prop := ∃ a b c : Int, s' = s.set n (.lst [.int a, .int b, .int c]) ∧ c.natAbs < 2 ^ 64
theorem Drew.bag {s s' : Sto} {n : Nat} (h : Drew s s' n) (hn : n < s.length) : BagAt s' n := by
  obtain ⟨a, b, c, rfl, hc⟩ := h
  exact ⟨a, b, c, by rw [List.getElem?_set_self hn], hc⟩
theorem Drew.trans {s s1 s2 : Sto} {n : Nat} (h : Drew s s1 n) (h2 : Drew s1 s2 n) : Drew s s2 n := by
  obtain ⟨a, b, c, rfl, hc⟩ := h
  obtain ⟨a', b', c', rfl, hc'⟩ := h2
  exact ⟨a', b', c', by rw [List.set_set], hc'⟩
theorem BagAt.lt {s : Sto} {n : Nat} (h : BagAt s n) : n < s.length := by
  obtain ⟨a, b, c, h, _⟩ := h
  exact (List.getElem?_eq_some_iff.mp h).1
theorem Drew.refl {s : Sto} {n : Nat} (h : BagAt s n) : Drew s s n := by
  obtain ⟨a, b, c, h, hc⟩ := h
  refine ⟨a, b, c, ?_, hc⟩
  apply List.ext_getElem?
  intro k
  by_cases hk : n = k
  · subst hk
    rw [List.getElem?_set_self (List.getElem?_eq_some_iff.mp h).1, h]
  · rw [List.getElem?_set_ne hk]
theorem Drew.len {s s' : Sto} {n : Nat} (h : Drew s s' n) : s'.length = s.length := by
  obtain ⟨a, b, c, rfl, _⟩ := h
  exact List.length_set
theorem Drew.other {s s' : Sto} {n m : Nat} (h : Drew s s' n) (hm : n ≠ m) : s'[m]? = s[m]? := by
  obtain ⟨a, b, c, rfl, _⟩ := h
  exact List.getElem?_set_ne hm
theorem ixAt {s : Sto} {n : Nat} {xs : List D} {k : Int} {v : D} (h1 : s[n]? = some (.lst xs)) (h2 : atI xs k = some v) : ixD (.ref n) (.int k) s = .ok v s := by
  simp only [ixD, rdS, h1, h2]
theorem Drew.plS {s s' : Sto} {n : Nat} (h : Drew s s' n) (hs : plS s) : plS s' := by
  obtain ⟨a, b, c, rfl, _⟩ := h
  intro o ho
  rcases List.mem_or_eq_of_mem_set ho with h | rfl
  · exact hs o h
  · rfl
theorem BagAt.app {s : Sto} {n : Nat} (h : BagAt s n) (t : Sto) : BagAt (s ++ t) n := by
  have := h.lt
  obtain ⟨a, b, c, h, hc⟩ := h
  exact ⟨a, b, c, by rw [List.getElem?_append_left this, h], hc⟩
theorem Drew.app {s t s' : Sto} {n : Nat} (h : Drew (s ++ t) s' n) (hn : n < s.length) : ∃ s1, s' = s1 ++ t ∧ Drew s s1 n := by
  obtain ⟨a, b, c, rfl, hc⟩ := h
  exact ⟨_, by rw [List.set_append_left _ _ hn], a, b, c, rfl, hc⟩
theorem divInt_pos {p q : Int} (hp : 0 < p) (hq : 0 < q) : 0 < Rat.divInt p q := by
  rw [Rat.divInt_eq_div, Rat.div_def]
  exact Rat.mul_pos (Rat.intCast_pos.mpr hp) (Rat.inv_pos.mpr (Rat.intCast_pos.mpr hq))

/-! ### while, by a measure -/
theorem while_inv {mc : MT} {mb : MS} (P : Nat → Loc → Sto → Prop)
    (step : ∀ n l s, P n l s → mc l s = .ok false s ∨ mc l s = .ok true s ∧ ∃ n' l' s', n' < n ∧ (mb l s = .nx l' s' ∨ mb l s = .ct l' s') ∧ P n' l' s') :
    ∀ (n : Nat) (l : Loc) (s : Sto), P n l s → ∃ n' l' s', mWhile mc mb l s = .nx l' s' ∧ P n' l' s' ∧ mc l' s' = .ok false s' := by
  intro n
  induction n using Nat.strongRecOn with
  | _ n ih =>
    intro l s h
    rcases step n l s h with e | ⟨e, n', l', s', hn, e2, h2⟩
    · exact ⟨n, l, s, by rw [mWhile_eq, e], h, e⟩
    · obtain ⟨n2, l2, s2, a, b, c⟩ := ih n' hn l' s' h2
      refine ⟨n2, l2, s2, ?_, b, c⟩
      rw [mWhile_eq, e]
      rcases e2 with e2 | e2
      · simp only [e2, a]
      · simp only [e2, a]
/-! ### heads of loops -/
section
variable {m m2 : ME} {mi : MI} {tg : MG} {tt : MT} {me : ME} {body : MS} {l : Loc} {s s1 s2 : Sto} {ds ys : List D} {own : List Nat}
theorem for_ok (h : mi l s = .ok ds s1) : mFor mi tg body l s = forL tg body ds l s1 := by
  unfold mFor; rw [h]
theorem rng1_ok {n : Nat} (h : m l s = .ok (.int (n : Int)) s1) (hn : n ≤ 1000000) : mRng1 (mCons m mNil) l s = .ok (rangeD 0 n) s1 := by
  have hb : intB (n : Int) = true := intB_small (by omega) (by omega)
  simp only [mRng1, mCons, h, R.bind_ok, mNil]
  rw [if_pos hb, Int.toNat_natCast]
theorem rng2_ok {lo : Int} {hi : Int} {n : Nat} (h : m l s = .ok (.int lo) s1) (h2 : m2 l s1 = .ok (.int hi) s2) (h3 : (hi - lo).toNat = n) (a : -1000000 ≤ lo) (b : lo ≤ 1000000) (c : -1000000 ≤ hi) (d : hi ≤ 1000000) : mRng2 (mCons m (mCons m2 mNil)) l s = .ok (rangeD lo n) s2 := by
  have hb : intB lo = true := intB_small (by omega) (by omega)
  have hc : intB hi = true := intB_small (by omega) (by omega)
  simp only [mRng2, mCons, h, h2, R.bind_ok, mNil]
  rw [if_pos ⟨hb, hc⟩, h3]
theorem iter_ok {d : D} (h : m l s = .ok d s1) (h2 : stands d = some ds) : mIter m l s = .ok ds s1 := by
  simp only [mIter, h, R.bind_ok, h2]
theorem lc_ok (h : mi l s = .ok ds s1) (h2 : lcL tg tt me ds (wipeD l own) s1 = .ok ys s2) (h3 : ys.length ≤ 100000) : mLc own mi tg tt me l s = .ok (.lst ys) s2 := by
  simp only [mLc, h, R.bind_ok, h2, noEx, if_pos h3]
theorem lcN_ok (h : mi l s = .ok ds s1) (h2 : lcL tg tt me ds (wipeD l own) s1 = .ok ys s2) (h3 : ys.length ≤ 100000) : mLcN own mi tg tt me l s = .ok (.ref s2.length) (s2 ++ [.lst ys]) := by
  simp only [mLcN, h, R.bind_ok, h2, noEx, if_pos h3]
end
/-- the other Euclid -/
theorem euclid2_while {i j : Nat} (hij : i ≠ j) : ∀ (n : Nat) (p q : Int) (l : Loc) (s : Sto), p.natAbs ≤ n → 0 ≤ q → l[i]? = some (some (.int p)) → l[j]? = some (some (.int q)) →
    mWhile (mTest (mOp neD (mVar i) (mC (.int 0)))) (mPar i j (mCons (mOp modD (mVar j) (mCB absF (mCons (mVar i) mNil))) (mCons (mCB absF (mCons (mVar i) mNil)) mNil))) l s = .nx ((l.set i (some (.int 0))).set j (some (.int (Int.gcd p q : Nat)))) s := by
  intro n
  induction n with
  | zero =>
    intro p q l s hn hq hi hj
    have hb : p = 0 := by omega
    subst hb
    rw [mWhile_eq]
    simp only [mTest, mOp, mVar, hi, mC, R.bind_ok, neD_int]
    have e1 : l.set i (some (.int 0)) = l := by
      apply List.ext_getElem?
      intro k
      by_cases h : i = k
      · subst h
        rw [List.getElem?_set_self (List.getElem?_eq_some_iff.mp hi).1, hi]
      · rw [List.getElem?_set_ne h]
    have e2 : l.set j (some (.int (Int.gcd 0 q : Nat))) = l := by
      apply List.ext_getElem?
      intro k
      by_cases h : j = k
      · subst h
        rw [List.getElem?_set_self (List.getElem?_eq_some_iff.mp hj).1, hj, Int.gcd_zero_left]
        congr 3
        omega
      · rw [List.getElem?_set_ne h]
    rw [e1, e2]
    rfl
  | succ n ih =>
    intro p q l s hn hq hi hj
    by_cases hb : p = 0
    · exact ih p q l s (by omega) hq hi hj
    · have hp : ((if p < 0 then -p else p) : Int) ≠ 0 := by split <;> omega
      have hlt := fmod_natAbs q (if p < 0 then -p else p) hp
      have hnn : 0 ≤ q.fmod (if p < 0 then -p else p) := Int.fmod_nonneg_of_pos _ (by split <;> omega)
      have hli : i < l.length := (List.getElem?_eq_some_iff.mp hi).1
      have hlj : j < l.length := (List.getElem?_eq_some_iff.mp hj).1
      have h3 := ih (q.fmod (if p < 0 then -p else p)) (if p < 0 then -p else p) ((l.set i (some (.int (q.fmod (if p < 0 then -p else p))))).set j (some (.int (if p < 0 then -p else p)))) s (by
          have : (if p < 0 then -p else p : Int).natAbs = p.natAbs := by split <;> omega
          omega) (by split <;> omega)
        (by rw [List.getElem?_set_ne (Ne.symm hij), List.getElem?_set_self hli]) (by rw [List.getElem?_set_self (by rw [List.length_set]; exact hlj)])
      rw [mWhile_eq]
      have hne : (!(p == 0)) = true := by simp [hb]
      simp only [mTest, mOp, mVar, hi, mC, R.bind_ok, neD_int, hne]
      simp only [mPar, mCons, mVar, hj, hi, mOp, mCB, absF, R.bind_ok, modD, if_neg hp, mNil, toOut]
      rw [h3]
      have eg : Int.gcd (q.fmod (if p < 0 then -p else p)) (if p < 0 then -p else p) = Int.gcd p q := by
        rw [Int.gcd_comm, gcd_fmod, Int.gcd_comm]
        split
        · rw [Int.neg_gcd]
        · rfl
      rw [eg]
      congr 1
      apply List.ext_getElem?
      intro k
      by_cases hk : j = k
      · subst hk
        rw [List.getElem?_set_self (by simpa using hlj), List.getElem?_set_self (by simpa using hlj)]
      · rw [List.getElem?_set_ne hk, List.getElem?_set_ne hk]
        by_cases hk2 : i = k
        · subst hk2
          rw [List.getElem?_set_self (by simpa using hli), List.getElem?_set_self (by simpa using hli)]
        · rw [List.getElem?_set_ne hk2, List.getElem?_set_ne hk2, List.getElem?_set_ne hk, List.getElem?_set_ne hk2]
theorem boolsD_map {α : Type} (xs : List α) (p : α → Bool) : boolsD (xs.map fun x => .bl (p x)) = some (xs.map p) := by
  induction xs with
  | nil => rfl
  | cons x xs ih => simp only [List.map_cons, boolsD, ih]; rfl
theorem allF_map {α : Type} (xs : List α) (p : α → Bool) (s : Sto) : allF [.lst (xs.map fun x => .bl (p x))] s = .ok (.bl (xs.all p)) s := by
  simp only [allF, rdL, Option.bind_some, boolsD_map, List.all_map]; rfl
theorem anyF_map {α : Type} (xs : List α) (p : α → Bool) (s : Sto) : anyF [.lst (xs.map fun x => .bl (p x))] s = .ok (.bl (xs.any p)) s := by
  simp only [anyF, rdL, Option.bind_some, boolsD_map, List.any_map]; rfl
theorem lenF_tup (xs : List D) (s : Sto) : lenF [.tup xs] s = .ok (.int xs.length) s := rfl
theorem lenF_lst (xs : List D) (s : Sto) : lenF [.lst xs] s = .ok (.int xs.length) s := rfl
theorem isi_tup (xs : List D) (s : Sto) : isiF "tuple" (.tup xs) s = .ok (.bl true) s := rfl
theorem isi_lst (xs : List D) (s : Sto) : isiF "tuple" (.lst xs) s = .ok (.bl false) s := rfl
theorem isi_non (s : Sto) : isiF "tuple" .non s = .ok (.bl false) s := rfl
theorem num_pos {x : Rat} : 0 < x.num ↔ 0 < x := by
  rw [Rat.lt_iff]
  simp
/-! ### looking in loops in loops -/
def Look (m : MS) (s : Sto) (P : Loc → Prop) (r : Option D) : Prop := ∀ l, P l → (∀ v, r = some v → m l s = .rt v s) ∧ (r = none → ∃ l', m l s = .nx l' s ∧ P l')
theorem look_for {mi : MI} {tg : MG} {body : MS} {s : Sto} {P : Loc → Prop} {Q : Nat → Loc → Prop} {lo : Int} {n : Nat} {f : Nat → Option D}
    (hmi : ∀ l, P l → mi l s = .ok (rangeD lo n) s) (htg : ∀ i l, i < n → P l → ∃ l1, tg (.int (lo + (i : Nat))) l s = .ok l1 s ∧ Q i l1)
    (hb : ∀ i, i < n → Look body s (Q i) (f i)) (hQ : ∀ i l, Q i l → P l) : Look (mFor mi tg body) s P ((List.range n).findSome? f) := fun l hP => by
  rw [for_ok (hmi l hP)]
  exact forL_look P s f (fun i l hi hp => by
    obtain ⟨l1, e1, q1⟩ := htg i l hi hp
    refine ⟨l1, e1, (hb i hi l1 q1).1, fun hf => ?_⟩
    obtain ⟨l2, e2, q2⟩ := (hb i hi l1 q1).2 hf
    exact ⟨l2, e2, hQ i l2 q2⟩) hP
theorem look_seq {m m' : MS} {s : Sto} {P : Loc → Prop} {r r' : Option D} (h : Look m s P r) (h' : Look m' s P r') : Look (mSeq m m') s P (r.or r') := fun l hl => by
  have a := h l hl
  cases r with
  | some v =>
    refine ⟨fun w hw => ?_, fun hw => by cases hw⟩
    rw [mSeq, a.1 v rfl]
    cases hw; rfl
  | none =>
    obtain ⟨l', e, hl'⟩ := a.2 rfl
    have b := h' l' hl'
    refine ⟨fun w hw => ?_, fun hw => ?_⟩
    · rw [mSeq, e]; exact b.1 w hw
    · rw [mSeq, e]; exact b.2 hw
/-! ### in -/
open Classical in
theorem eqvA_any {k : Nat} {d : D} (hd : plN k d = true) : ∀ xs : List D, (∀ x ∈ xs, plN k x = true) → ((pyA xs).any fun z => PyData.eqv z (py d)) = decide (d ∈ xs)
  | [], _ => by simp [pyA]
  | x :: xs, h => by
    have e := py_eqv k x d (h x (List.mem_cons_self ..)) hd
    have ih := eqvA_any hd xs fun y hy => h y (List.mem_cons_of_mem _ hy)
    simp only [pyA, List.any_cons, ih, List.mem_cons]
    by_cases hx : d = x
    · rw [e.mpr hx.symm]; simp [hx]
    · have : PyData.eqv (py x) (py d) = false := by
        cases h2 : PyData.eqv (py x) (py d) with
        | false => rfl
        | true => exact absurd (e.mp h2).symm hx
      rw [this]; simp [hx]
open Classical in
theorem memB_pl {s : Sto} {k : Nat} {d : D} {xs : List D} (hd : plN k d = true) (h : ∀ x ∈ xs, plN k x = true) (hk : k + 1 ≤ 64) : memB s d (.lst xs) = some (decide (d ∈ xs)) ∧ memB s d (.tup xs) = some (decide (d ∈ xs)) := by
  obtain ⟨_, a1, b1, c1⟩ := plN_toPy s k d hd
  have hl : plN (k + 1) (.lst xs) = true := by simp only [plN, List.all_eq_true]; exact h
  have ht : plN (k + 1) (.tup xs) = true := by simp only [plN, List.all_eq_true]; exact h
  obtain ⟨_, a2, b2, c2⟩ := plN_toPy s (k + 1) _ hl
  obtain ⟨_, a3, b3, c3⟩ := plN_toPy s (k + 1) _ ht
  have s1 : SeqAt.shaped (py d) = true := by simp only [SeqAt.shaped, b1, Bool.true_and, decide_eq_true_eq]; omega
  have s2 : SeqAt.shaped (py (.lst xs)) = true := by simp only [SeqAt.shaped, b2, Bool.true_and, decide_eq_true_eq]; omega
  have s3 : SeqAt.shaped (py (.tup xs)) = true := by simp only [SeqAt.shaped, b3, Bool.true_and, decide_eq_true_eq]; omega
  simp only [py] at a2 a3 s2 s3
  have e := eqvA_any hd xs h
  constructor
  · simp only [memB, a1, a2, s1, s2, and_self, if_true, e]
  · simp only [memB, a1, a3, s1, s3, and_self, if_true, e]
open Classical in
theorem inD_lst {s : Sto} (k : Nat) {d : D} {xs : List D} (hd : plN k d = true) (h : ∀ x ∈ xs, plN k x = true) (hk : k + 1 ≤ 64) : inD d (.lst xs) s = .ok (.bl (decide (d ∈ xs))) s := by
  simp only [inD, (memB_pl hd h hk).1]
open Classical in
theorem inD_tup {s : Sto} (k : Nat) {d : D} {xs : List D} (hd : plN k d = true) (h : ∀ x ∈ xs, plN k x = true) (hk : k + 1 ≤ 64) : inD d (.tup xs) s = .ok (.bl (decide (d ∈ xs))) s := by
  simp only [inD, (memB_pl hd h hk).2]
open Classical in
theorem ninD_lst {s : Sto} (k : Nat) {d : D} {xs : List D} (hd : plN k d = true) (h : ∀ x ∈ xs, plN k x = true) (hk : k + 1 ≤ 64) : ninD d (.lst xs) s = .ok (.bl (!decide (d ∈ xs))) s := by
  simp only [ninD, (memB_pl hd h hk).1]
open Classical in
theorem ninD_tup {s : Sto} (k : Nat) {d : D} {xs : List D} (hd : plN k d = true) (h : ∀ x ∈ xs, plN k x = true) (hk : k + 1 ≤ 64) : ninD d (.tup xs) s = .ok (.bl (!decide (d ∈ xs))) s := by
  simp only [ninD, (memB_pl hd h hk).2]
/-- [.. for .. in ..], nothing changed -/
theorem lc_map {mi : MI} {tg : MG} {me : ME} {l : Loc} {s : Sto} {ds : List D} {own : List Nat} (f : D → D) (h : mi l s = .ok ds s) (h3 : ds.length ≤ 100000) (h2 : ∀ d ∈ ds, ∃ l1, tg d (wipeD l own) s = .ok l1 s ∧ me l1 s = .ok (f d) s) : mLc own mi tg mYes me l s = .ok (.lst (ds.map f)) s :=
  lc_ok h (lcL_pure f fun d hd => by
    obtain ⟨l1, a, b⟩ := h2 d hd
    exact ⟨l1, a, rfl, b⟩) (by rw [List.length_map]; exact h3)
theorem mSeq_assoc (a b c : MS) : mSeq a (mSeq b c) = mSeq (mSeq a b) c := by
  funext l s
  simp only [mSeq]
  cases a l s <;> rfl
end DL


namespace K70
open PySem PySem.Spec PyProof.Rows L2 DL
noncomputable section
def topS (i : Nat) : Stmt := PySem.Challenge.pw_currentwebs_k70_whole_roots.main.body.getD i (.Pass ⟨0, 0, 0, 0⟩)
abbrev s_greatest_divisor : Stmt := topS 14
abbrev s_is_root : Stmt := topS 15
abbrev s_look_at_root : Stmt := topS 16
abbrev s_is_integer : Stmt := topS 9
abbrev s_compare_by : Stmt := topS 17
abbrev s_common : Stmt := topS 5
abbrev s_fraction : Stmt := topS 6
abbrev s_floor_of : Stmt := topS 23
abbrev s_square_root : Stmt := topS 19
abbrev s_fraction_by : Stmt := topS 20
abbrev s_fraction_of : Stmt := topS 21
abbrev s_sign : Stmt := topS 7
abbrev s_order : Stmt := topS 22
abbrev s__law_draw : Stmt := topS 26
abbrev s__law_fr : Stmt := topS 27
abbrev s__law_common : Stmt := topS 34
abbrev s__law_root : Stmt := topS 35
abbrev s__law_floor : Stmt := topS 36
abbrev s__law_sign : Stmt := topS 38
abbrev s_is_number : Stmt := topS 11
abbrev s_compare : Stmt := topS 18
abbrev s__law_told : Stmt := topS 37
abbrev s__law_case : Stmt := topS 39
abbrev s__law_bag : Stmt := topS 25
abbrev s_law : Stmt := topS 40
abbrev n_greatest_divisor : List Str := ["numbers", "found", "number", "a", "b"]
abbrev p_greatest_divisor : List Str := ["numbers"]
theorem sc_greatest_divisor : FnScope n_greatest_divisor p_greatest_divisor (defScope s_greatest_divisor) := ⟨rfl, rfl, rfl, by decide +kernel, rfl, by decide +kernel, by decide +kernel⟩
abbrev n_is_root : List Str := ["value", "one"]
abbrev p_is_root : List Str := ["value"]
theorem sc_is_root : FnScope n_is_root p_is_root (defScope s_is_root) := ⟨rfl, rfl, rfl, by decide +kernel, rfl, by decide +kernel, by decide +kernel⟩
abbrev n_look_at_root : List Str := ["root"]
abbrev p_look_at_root : List Str := ["root"]
theorem sc_look_at_root : FnScope n_look_at_root p_look_at_root (defScope s_look_at_root) := ⟨rfl, rfl, rfl, by decide +kernel, rfl, by decide +kernel, by decide +kernel⟩
abbrev n_is_integer : List Str := ["value", "low", "high"]
abbrev p_is_integer : List Str := ["value", "low", "high"]
theorem sc_is_integer : FnScope n_is_integer p_is_integer (defScope s_is_integer) := ⟨rfl, rfl, rfl, by decide +kernel, rfl, by decide +kernel, by decide +kernel⟩
abbrev n_compare_by : List Str := ["root", "x", "_", "a", "b", "c", "p", "q", "value"]
abbrev p_compare_by : List Str := ["root", "x"]
theorem sc_compare_by : FnScope n_compare_by p_compare_by (defScope s_compare_by) := ⟨rfl, rfl, rfl, by decide +kernel, rfl, by decide +kernel, by decide +kernel⟩
abbrev n_common : List Str := ["p", "q"]
abbrev p_common : List Str := ["p", "q"]
theorem sc_common : FnScope n_common p_common (defScope s_common) := ⟨rfl, rfl, rfl, by decide +kernel, rfl, by decide +kernel, by decide +kernel⟩
abbrev n_fraction : List Str := ["p", "q", "divisor"]
abbrev p_fraction : List Str := ["p", "q"]
theorem sc_fraction : FnScope n_fraction p_fraction (defScope s_fraction) := ⟨rfl, rfl, rfl, by decide +kernel, rfl, by decide +kernel, by decide +kernel⟩
abbrev n_floor_of : List Str := ["root", "k", "scale", "_", "low", "high", "middle"]
abbrev p_floor_of : List Str := ["root", "k"]
theorem sc_floor_of : FnScope n_floor_of p_floor_of (defScope s_floor_of) := ⟨rfl, rfl, rfl, by decide +kernel, rfl, by decide +kernel, by decide +kernel⟩
abbrev n_square_root : List Str := ["n", "low", "high", "middle"]
abbrev p_square_root : List Str := ["n"]
theorem sc_square_root : FnScope n_square_root p_square_root (defScope s_square_root) := ⟨rfl, rfl, rfl, by decide +kernel, rfl, by decide +kernel, by decide +kernel⟩
abbrev n_fraction_by : List Str := ["root", "_", "a", "b", "c", "under", "found"]
abbrev p_fraction_by : List Str := ["root"]
theorem sc_fraction_by : FnScope n_fraction_by p_fraction_by (defScope s_fraction_by) := ⟨rfl, rfl, rfl, by decide +kernel, rfl, by decide +kernel, by decide +kernel⟩
abbrev n_fraction_of : List Str := ["root"]
abbrev p_fraction_of : List Str := ["root"]
theorem sc_fraction_of : FnScope n_fraction_of p_fraction_of (defScope s_fraction_of) := ⟨rfl, rfl, rfl, by decide +kernel, rfl, by decide +kernel, by decide +kernel⟩
abbrev n_sign : List Str := ["x"]
abbrev p_sign : List Str := ["x"]
theorem sc_sign : FnScope n_sign p_sign (defScope s_sign) := ⟨rfl, rfl, rfl, by decide +kernel, rfl, by decide +kernel, by decide +kernel⟩
abbrev n_order : List Str := ["root", "other", "known", "_", "a", "b", "c", "d", "e", "f", "by_one", "fixed", "value"]
abbrev p_order : List Str := ["root", "other"]
theorem sc_order : FnScope n_order p_order (defScope s_order) := ⟨rfl, rfl, rfl, by decide +kernel, rfl, by decide +kernel, by decide +kernel⟩
abbrev n__law_draw : List Str := ["bag", "many", "seed", "rest"]
abbrev p__law_draw : List Str := ["bag", "many"]
theorem sc__law_draw : FnScope n__law_draw p__law_draw (defScope s__law_draw) := ⟨rfl, rfl, rfl, by decide +kernel, rfl, by decide +kernel, by decide +kernel⟩
abbrev n__law_fr : List Str := ["p", "q", "a", "b"]
abbrev p__law_fr : List Str := ["p", "q"]
theorem sc__law_fr : FnScope n__law_fr p__law_fr (defScope s__law_fr) := ⟨rfl, rfl, rfl, by decide +kernel, rfl, by decide +kernel, by decide +kernel⟩
abbrev n__law_common : List Str := ["row", "found", "one", "a", "b"]
abbrev p__law_common : List Str := ["row"]
theorem sc__law_common : FnScope n__law_common p__law_common (defScope s__law_common) := ⟨rfl, rfl, rfl, by decide +kernel, rfl, by decide +kernel, by decide +kernel⟩
abbrev n__law_root : List Str := ["bag", "p", "q", "d", "row", "one"]
abbrev p__law_root : List Str := ["bag"]
theorem sc__law_root : FnScope n__law_root p__law_root (defScope s__law_root) := ⟨rfl, rfl, rfl, by decide +kernel, rfl, by decide +kernel, by decide +kernel⟩
abbrev n__law_floor : List Str := ["root", "scale", "word", "a", "b", "c", "under", "low", "step", "t"]
abbrev p__law_floor : List Str := ["root", "scale"]
theorem sc__law_floor : FnScope n__law_floor p__law_floor (defScope s__law_floor) := ⟨rfl, rfl, rfl, by decide +kernel, rfl, by decide +kernel, by decide +kernel⟩
abbrev n__law_sign : List Str := ["n"]
abbrev p__law_sign : List Str := ["n"]
theorem sc__law_sign : FnScope n__law_sign p__law_sign (defScope s__law_sign) := ⟨rfl, rfl, rfl, by decide +kernel, rfl, by decide +kernel, by decide +kernel⟩
abbrev n_is_number : List Str := ["value", "p", "q"]
abbrev p_is_number : List Str := ["value"]
theorem sc_is_number : FnScope n_is_number p_is_number (defScope s_is_number) := ⟨rfl, rfl, rfl, by decide +kernel, rfl, by decide +kernel, by decide +kernel⟩
abbrev n_compare : List Str := ["root", "x"]
abbrev p_compare : List Str := ["root", "x"]
theorem sc_compare : FnScope n_compare p_compare (defScope s_compare) := ⟨rfl, rfl, rfl, by decide +kernel, rfl, by decide +kernel, by decide +kernel⟩
abbrev n__law_told : List Str := ["call", "values"]
abbrev p__law_told : List Str := ["call", "values"]
theorem sc__law_told : FnScope n__law_told p__law_told (defScope s__law_told) := ⟨rfl, rfl, rfl, by decide +kernel, rfl, by decide +kernel, by decide +kernel⟩
abbrev n__law_case : List Str := ["bag", "root", "other", "word", "a", "b", "c", "k", "scale", "turn", "t", "x", "due", "great", "under", "whole", "fraction_v", "odd", "one"]
abbrev p__law_case : List Str := ["bag"]
theorem sc__law_case : FnScope n__law_case p__law_case (defScope s__law_case) := ⟨rfl, rfl, rfl, by decide +kernel, rfl, by decide +kernel, by decide +kernel⟩
abbrev n__law_bag : List Str := ["script", "k", "cell"]
abbrev p__law_bag : List Str := ["script", "k"]
theorem sc__law_bag : FnScope n__law_bag p__law_bag (defScope s__law_bag) := ⟨rfl, rfl, rfl, by decide +kernel, rfl, by decide +kernel, by decide +kernel⟩
abbrev n_law : List Str := ["script", "golden", "k"]
abbrev p_law : List Str := ["script"]
theorem sc_law : FnScope n_law p_law (defScope s_law) := ⟨rfl, rfl, rfl, by decide +kernel, rfl, by decide +kernel, by decide +kernel⟩
/-- what the top has written -/
structure Top (K : PySem.W.Frag) (mg : Str → Option Value) (G : Gm) : Prop where
  f_greatest_divisor : FnE K mg G "greatest_divisor" s_greatest_divisor
  f_is_root : FnE K mg G "is_root" s_is_root
  f_look_at_root : FnE K mg G "look_at_root" s_look_at_root
  f_is_integer : FnE K mg G "is_integer" s_is_integer
  f_compare_by : FnE K mg G "compare_by" s_compare_by
  f_common : FnE K mg G "common" s_common
  f_fraction : FnE K mg G "fraction" s_fraction
  f_floor_of : FnE K mg G "floor_of" s_floor_of
  f_square_root : FnE K mg G "square_root" s_square_root
  f_fraction_by : FnE K mg G "fraction_by" s_fraction_by
  f_fraction_of : FnE K mg G "fraction_of" s_fraction_of
  f_sign : FnE K mg G "sign" s_sign
  f_order : FnE K mg G "order" s_order
  f__law_draw : FnE K mg G "_law_draw" s__law_draw
  f__law_fr : FnE K mg G "_law_fr" s__law_fr
  f__law_common : FnE K mg G "_law_common" s__law_common
  f__law_root : FnE K mg G "_law_root" s__law_root
  f__law_floor : FnE K mg G "_law_floor" s__law_floor
  f__law_sign : FnE K mg G "_law_sign" s__law_sign
  f_is_number : FnE K mg G "is_number" s_is_number
  f_compare : FnE K mg G "compare" s_compare
  f__law_told : FnE K mg G "_law_told" s__law_told
  f__law_case : FnE K mg G "_law_case" s__law_case
  f__law_bag : FnE K mg G "_law_bag" s__law_bag
  f_law : FnE K mg G "law" s_law
  b_abs : mg "abs" = none
  b_all : mg "all" = none
  b_bool : mg "bool" = none
  b_int : mg "int" = none
  b_isinstance : mg "isinstance" = none
  b_len : mg "len" = none
  b_max : mg "max" = none
  b_min : mg "min" = none
  b_range : mg "range" = none
  b_str : mg "str" = none
  b_tuple : mg "tuple" = none
  c_BadValue : ClD K mg G "BadValue"
  c_TooFar : ClD K mg G "TooFar"
  g_MOST_PLACES : GlD K mg G "MOST_PLACES" (.int 60)
  em : ExM K G
section
variable {P : Program} {w : World} {K : PySem.W.Frag} {mg : Str → Option Value} {base : Heap} {G : Gm}
/-- greatest_divisor(numbers) -/
def b_greatest_divisor_4 : MS := (mPar 3 4 (mCons (mVar 4) (mCons (mOp modD (mVar 3) (mVar 4)) mNil)))
def l_greatest_divisor_4 : MS := (mWhile (mTest (mOp gtD (mVar 4) (mC (.int 0)))) b_greatest_divisor_4)
def t_greatest_divisor_6 : MS := (mAsg (mVar 3) (mgName 1))
def t_greatest_divisor_4 : MS := (mSeq l_greatest_divisor_4 t_greatest_divisor_6)
def b_greatest_divisor_2 : MS := (mSeq (mPar 3 4 (mCons (mVar 1) (mCons (mCB absF (mCons (mVar 2) mNil)) mNil))) t_greatest_divisor_4)
def l_greatest_divisor_2 : MS := (mFor (mIter (mVar 0)) (mgName 2) b_greatest_divisor_2)
def t_greatest_divisor_7 : MS := (mRet (mVar 1))
def t_greatest_divisor_2 : MS := (mSeq l_greatest_divisor_2 t_greatest_divisor_7)
def r_greatest_divisor : MF := mDef backF 1 5 ((mSeq (mAsg (mC (.int 0)) (mgName 1)) t_greatest_divisor_2))
theorem ok_greatest_divisor (T : Top G.K mg G) : FnD P w G.K mg base G 1 "greatest_divisor" 1 r_greatest_divisor := by
  exact def_e rfl (back := backF) (N := n_greatest_divisor) (ps := p_greatest_divisor) backF_ok T.f_greatest_divisor sc_greatest_divisor (fun _ _ _ _ _ _ us hl => match us, hl with | [_], _ => rfl) (fun f cdv A outer s H E hr W => ⟨_, (jss_cons (js_set (i := 1) sc_greatest_divisor.nd je_int) (jss_cons (js_for rfl (ji_any (je_var 0)) (jg_name (i := 2) sc_greatest_divisor.nd) (jss_cons (js_par (i := 3) (j := 4) rfl sc_greatest_divisor.nd (ja_cons (je_var 1) (ja_cons (je_cb call_abs sc_abs T.b_abs (ja_cons (je_var 2) ja_nil)) ja_nil))) (jss_cons (js_while (jt_cmp op_gt s_cmp (je_var 4) je_int) (jss_one (js_par (i := 3) (j := 4) rfl sc_greatest_divisor.nd (ja_cons (je_var 4) (ja_cons (je_op op_modN s_mod (je_var 3) (je_var 4)) ja_nil))))) (jss_one (js_set (i := 1) sc_greatest_divisor.nd (je_var 3)))))) (jss_one (js_ret (je_var 1)))))⟩)
/-- is_root(value) -/
def r_is_root : MF := mDef backF 1 2 ((mSeq (mIfS (mOr (mNot (mTest (mIsi "tuple" (mVar 0)))) (mOr (mTest (mOp neD (mCB lenF (mCons (mVar 0) mNil)) (mC (.int 4)))) (mOr (mNot (mTest (mIsi "str" (mOp ixD (mVar 0) (mC (.int 0)))))) (mTest (mOp neD (mOp ixD (mVar 0) (mC (.int 0))) (mC (.str "root"))))))) (mRet (mC (.bl false))) mNext) (mSeq (mIfS (mNot (mTest (mCB allF (mCons (mLc [1] (mIter (mSl slD (mVar 0) (mPart (mC (.int 1))) mNoPart)) (mgName 1) mYes (mAndV (mIsi "int" (mVar 1)) (mNotV (mIsi "bool" (mVar 1))))) mNil)))) (mRet (mC (.bl false))) mNext) (mRet (mAndV (mOp gtD (mOp ixD (mVar 0) (mC (.int 1))) (mC (.int 0))) (mAndV (mOp ltD (mOp ixD (mVar 0) (mC (.int 3))) (mC (.int 0))) (mOp eqD (mCall 1 r_greatest_divisor (mCons (mSl slD (mVar 0) (mPart (mC (.int 1))) mNoPart) mNil)) (mC (.int 1)))))))))
theorem ok_is_root (T : Top G.K mg G) : FnD P w G.K mg base G 2 "is_root" 1 r_is_root := by
  exact def_e rfl (back := backF) (N := n_is_root) (ps := p_is_root) backF_ok T.f_is_root sc_is_root (fun _ _ _ _ _ _ us hl => match us, hl with | [_], _ => rfl) (fun f cdv A outer s H E hr W => ⟨_, (jss_cons (js_if ((jw_or (jt_not (jt_val (je_isi (T := "tuple") (by decide) T.b_isinstance T.b_tuple (je_var 0)))) (jw_or (jt_cmp (op_neK (by rfl) hr.units) s_ne (je_cb (call_lenA (by rfl)) sc_len T.b_len (ja_cons (je_var 0) ja_nil)) je_int) (jw_or (jt_not (jt_val (je_isi (T := "str") (by decide) T.b_isinstance T.b_str (je_ix (je_var 0) je_int)))) (jw_or1 (jt_cmp (op_neK (by rfl) hr.units) s_ne (je_ix (je_var 0) je_int) je_str)))))).jt (jss_one (js_ret je_bl)) jss_nil) (jss_cons (js_if (jt_not (jt_val (je_cb (cr_allK (by rfl) rfl) sc_all T.b_all (ja_cons (je_lc rfl (own := [("one", 1)]) sc_is_root.nd (ji_any (je_sl (je_var 0) (jo_some je_int) jo_none)) (blkOk_by (N := n_is_root) (sc := defScope s_is_root) (by decide +kernel)) (keeps_name (by decide)) (fun _ _ _ _ _ => (jg_name (i := 1) sc_is_root.nd)) (fun _ _ _ _ _ => jts_nil) (fun _ _ _ _ _ => (je_and (je_isi (T := "int") (by decide) T.b_isinstance T.b_int (je_var 1)) (je_one (je_not (je_isi (T := "bool") (by decide) T.b_isinstance T.b_bool (je_var 1))))))) ja_nil)))) (jss_one (js_ret je_bl)) jss_nil) (jss_one (js_ret (je_and (je_cmp op_gt s_cmp (je_ix (je_var 0) je_int) je_int) (je_and (je_cmp op_lt s_cmp (je_ix (je_var 0) je_int) je_int) (je_one (je_cmp (op_eqK (by rfl) hr.units) s_eq (je_call ((ok_greatest_divisor T).mono (by decide)) hr (ja_cons (je_sl (je_var 0) (jo_some je_int) jo_none) ja_nil)) je_int))))))))⟩)
/-- look_at_root(root) -/
def r_look_at_root : MF := mDef backF 1 1 ((mIfS (mNot (mTest (mCall 1 r_is_root (mCons (mVar 0) mNil)))) (mRaise "BadValue") mNext))
theorem ok_look_at_root (T : Top G.K mg G) : FnD P w G.K mg base G 3 "look_at_root" 1 r_look_at_root := by
  exact def_e rfl (back := backF) (N := n_look_at_root) (ps := p_look_at_root) backF_ok T.f_look_at_root sc_look_at_root (fun _ _ _ _ _ _ us hl => match us, hl with | [_], _ => rfl) (fun f cdv A outer s H E hr W => ⟨_, (jss_one (js_if (jt_not (jt_val (je_call ((ok_is_root T).mono (by decide)) hr (ja_cons (je_var 0) ja_nil)))) (jss_one (js_raise T.c_BadValue rfl)) jss_nil))⟩)
/-- is_integer(value, low, high) -/
def r_is_integer : MF := mDef backF 3 3 ((mRet (mAndV (mIsi "int" (mVar 0)) (mAndV (mNotV (mIsi "bool" (mVar 0))) (mChain leD leD (mVar 1) (mVar 0) (mVar 2))))))
theorem ok_is_integer (T : Top G.K mg G) : FnD P w G.K mg base G 1 "is_integer" 3 r_is_integer := by
  exact def_e rfl (back := backF) (N := n_is_integer) (ps := p_is_integer) backF_ok T.f_is_integer sc_is_integer (fun _ _ _ _ _ _ us hl => match us, hl with | [_, _, _], _ => rfl) (fun f cdv A outer s H E hr W => ⟨_, (jss_one (js_ret (je_and (je_isi (T := "int") (by decide) T.b_isinstance T.b_int (je_var 0)) (je_and (je_not (je_isi (T := "bool") (by decide) T.b_isinstance T.b_bool (je_var 0))) (je_one (je_chain op_le s_cmp op_le s_cmp (je_var 1) (je_var 0) (je_var 2)))))))⟩)
/-- compare_by(root, x) -/
def r_compare_by : MF := mDef backF 2 9 ((mSeq (mAsg (mVar 0) (mgTup 4 (mgCons (mgName 2) (mgCons (mgName 3) (mgCons (mgName 4) (mgCons (mgName 5) mgNil)))))) (mSeq (mAsg (mVar 1) (mgTup 2 (mgCons (mgName 6) (mgCons (mgName 7) mgNil)))) (mSeq (mIfS (mTest (mOp leD (mVar 6) (mC (.int 0)))) (mRet (mC (.int 1))) mNext) (mSeq (mAsg (mOp addD (mOp addD (mOp mulD (mOp mulD (mVar 3) (mVar 6)) (mVar 6)) (mOp mulD (mOp mulD (mVar 4) (mVar 6)) (mVar 7))) (mOp mulD (mOp mulD (mVar 5) (mVar 7)) (mVar 7))) (mgName 8)) (mRet (mOp subD (mCB intF (mCons (mOp ltD (mVar 8) (mC (.int 0))) mNil)) (mCB intF (mCons (mOp gtD (mVar 8) (mC (.int 0))) mNil)))))))))
theorem ok_compare_by (T : Top G.K mg G) : FnD P w G.K mg base G 1 "compare_by" 2 r_compare_by := by
  exact def_e rfl (back := backF) (N := n_compare_by) (ps := p_compare_by) backF_ok T.f_compare_by sc_compare_by (fun _ _ _ _ _ _ us hl => match us, hl with | [_, _], _ => rfl) (fun f cdv A outer s H E hr W => ⟨_, (jss_cons (js_asg (je_var 0) (jg_tup (n := 4) rfl (jgs_cons (jg_name (i := 2) sc_compare_by.nd) (jgs_cons (jg_name (i := 3) sc_compare_by.nd) (jgs_cons (jg_name (i := 4) sc_compare_by.nd) (jgs_cons (jg_name (i := 5) sc_compare_by.nd) jgs_nil)))))) (jss_cons (js_asg (je_var 1) (jg_tup (n := 2) rfl (jgs_cons (jg_name (i := 6) sc_compare_by.nd) (jgs_cons (jg_name (i := 7) sc_compare_by.nd) jgs_nil)))) (jss_cons (js_if (jt_cmp op_le s_cmp (je_var 6) je_int) (jss_one (js_ret je_int)) jss_nil) (jss_cons (js_set (i := 8) sc_compare_by.nd (je_op (op_addA (by rfl)) s_add (je_op (op_addA (by rfl)) s_add (je_op (op_mulA (by rfl)) s_mul (je_op (op_mulA (by rfl)) s_mul (je_var 3) (je_var 6)) (je_var 6)) (je_op (op_mulA (by rfl)) s_mul (je_op (op_mulA (by rfl)) s_mul (je_var 4) (je_var 6)) (je_var 7))) (je_op (op_mulA (by rfl)) s_mul (je_op (op_mulA (by rfl)) s_mul (je_var 5) (je_var 7)) (je_var 7)))) (jss_one (js_ret (je_op op_sub s_sub (je_ct call_int1 sc_int T.b_int (ja_cons (je_cmp op_lt s_cmp (je_var 8) je_int) ja_nil)) (je_ct call_int1 sc_int T.b_int (ja_cons (je_cmp op_gt s_cmp (je_var 8) je_int) ja_nil)))))))))⟩)
/-- common(p, q) -/
def r_common : MF := mDef backF 2 2 ((mSeq (mWhile (mTest (mOp neD (mVar 1) (mC (.int 0)))) (mPar 0 1 (mCons (mVar 1) (mCons (mOp modD (mVar 0) (mVar 1)) mNil)))) (mRet (mCB absF (mCons (mVar 0) mNil)))))
theorem ok_common (T : Top G.K mg G) : FnD P w G.K mg base G 1 "common" 2 r_common := by
  exact def_e rfl (back := backF) (N := n_common) (ps := p_common) backF_ok T.f_common sc_common (fun _ _ _ _ _ _ us hl => match us, hl with | [_, _], _ => rfl) (fun f cdv A outer s H E hr W => ⟨_, (jss_cons (js_while (jt_cmp (op_neK (by rfl) hr.units) s_ne (je_var 1) je_int) (jss_one (js_par (i := 0) (j := 1) rfl sc_common.nd (ja_cons (je_var 1) (ja_cons (je_op op_modN s_mod (je_var 0) (je_var 1)) ja_nil))))) (jss_one (js_ret (je_cb call_abs sc_abs T.b_abs (ja_cons (je_var 0) ja_nil)))))⟩)
/-- fraction(p, q) -/
def r_fraction : MF := mDef backF 2 3 ((mSeq (mIfS (mTest (mOp eqD (mVar 1) (mC (.int 0)))) (mRaise "BadValue") mNext) (mSeq (mIfS (mTest (mOp ltD (mVar 1) (mC (.int 0)))) (mPar 0 1 (mCons (mUn negD (mVar 0)) (mCons (mUn negD (mVar 1)) mNil))) mNext) (mSeq (mAsg (mCall 2 r_common (mCons (mVar 0) (mCons (mVar 1) mNil))) (mgName 2)) (mRet (mTup (mCons (mOp fdivD (mVar 0) (mVar 2)) (mCons (mOp fdivD (mVar 1) (mVar 2)) mNil))))))))
theorem ok_fraction (T : Top G.K mg G) : FnD P w G.K mg base G 2 "fraction" 2 r_fraction := by
  exact def_e rfl (back := backF) (N := n_fraction) (ps := p_fraction) backF_ok T.f_fraction sc_fraction (fun _ _ _ _ _ _ us hl => match us, hl with | [_, _], _ => rfl) (fun f cdv A outer s H E hr W => ⟨_, (jss_cons (js_if (jt_cmp (op_eqK (by rfl) hr.units) s_eq (je_var 1) je_int) (jss_one (js_raise T.c_BadValue rfl)) jss_nil) (jss_cons (js_if (jt_cmp op_lt s_cmp (je_var 1) je_int) (jss_one (js_par (i := 0) (j := 1) rfl sc_fraction.nd (ja_cons (je_neg (je_var 0)) (ja_cons (je_neg (je_var 1)) ja_nil)))) jss_nil) (jss_cons (js_set (i := 2) sc_fraction.nd (je_call ((ok_common T).mono (by decide)) hr (ja_cons (je_var 0) (ja_cons (je_var 1) ja_nil)))) (jss_one (js_ret (je_tup (ja_cons (je_op op_fdivA s_fdiv (je_var 0) (je_var 2)) (ja_cons (je_op op_fdivA s_fdiv (je_var 1) (je_var 2)) ja_nil))))))))⟩)
/-- floor_of(root, k) -/
def b_floor_of_5 : MS := (mAug 2 imulD (mC (.int 10)))
def l_floor_of_5 : MS := (mFor (mRng1 (mCons (mVar 1) mNil)) (mgName 3) b_floor_of_5)
def t_floor_of_11 : MS := (mIfS (mTest (mOp geD (mCall 2 r_compare_by (mCons (mVar 0) (mCons (mCall 2 r_fraction (mCons (mVar 6) (mCons (mVar 2) mNil))) mNil))) (mC (.int 0)))) (mAsg (mVar 6) (mgName 4)) (mAsg (mVar 6) (mgName 5)))
def b_floor_of_9 : MS := (mSeq (mAsg (mOp fdivD (mOp addD (mVar 4) (mVar 5)) (mC (.int 2))) (mgName 6)) t_floor_of_11)
def l_floor_of_9 : MS := (mWhile (mTest (mOp gtD (mOp subD (mVar 5) (mVar 4)) (mC (.int 1)))) b_floor_of_9)
def t_floor_of_15 : MS := (mRet (mVar 4))
def t_floor_of_9 : MS := (mSeq l_floor_of_9 t_floor_of_15)
def t_floor_of_8 : MS := (mSeq (mAsg (mOp mulD (mOp addD (mCB max2F (mCons (mCB absF (mCons (mOp ixD (mVar 0) (mC (.int 2))) mNil)) (mCons (mUn negD (mOp ixD (mVar 0) (mC (.int 3)))) mNil))) (mC (.int 2))) (mVar 2)) (mgName 5)) t_floor_of_9)
def t_floor_of_7 : MS := (mSeq (mAsg (mC (.int 0)) (mgName 4)) t_floor_of_8)
def t_floor_of_5 : MS := (mSeq l_floor_of_5 t_floor_of_7)
def t_floor_of_4 : MS := (mSeq (mAsg (mC (.int 1)) (mgName 2)) t_floor_of_5)
def t_floor_of_2 : MS := (mSeq (mIfS (mNot (mTest (mCall 3 r_is_integer (mCons (mVar 1) (mCons (mC (.int 0)) (mCons (mC (.int 60)) mNil)))))) (mRaise "TooFar") mNext) t_floor_of_4)
def r_floor_of : MF := mDef backF 2 7 ((mSeq (mExpr (mCall 1 r_look_at_root (mCons (mVar 0) mNil))) t_floor_of_2))
theorem ok_floor_of (T : Top G.K mg G) : FnD P w G.K mg base G 4 "floor_of" 2 r_floor_of := by
  exact def_e rfl (back := backF) (N := n_floor_of) (ps := p_floor_of) backF_ok T.f_floor_of sc_floor_of (fun _ _ _ _ _ _ us hl => match us, hl with | [_, _], _ => rfl) (fun f cdv A outer s H E hr W => ⟨_, (jss_cons (js_expr (je_call ((ok_look_at_root T).mono (by decide)) hr (ja_cons (je_var 0) ja_nil))) (jss_cons (js_if (jt_not (jt_val (je_call ((ok_is_integer T).mono (by decide)) hr (ja_cons (je_var 1) (ja_cons je_int (ja_cons (je_glb T.g_MOST_PLACES) ja_nil)))))) (jss_one (js_raise T.c_TooFar rfl)) jss_nil) (jss_cons (js_set (i := 2) sc_floor_of.nd je_int) (jss_cons (js_for rfl (ji_rng1 T.b_range (ja_cons (je_var 1) ja_nil)) (jg_name (i := 3) sc_floor_of.nd) (jss_one (js_aug (i := 2) sc_floor_of.nd iop_mulW s_imul je_int))) (jss_cons (js_set (i := 4) sc_floor_of.nd je_int) (jss_cons (js_set (i := 5) sc_floor_of.nd (je_op (op_mulA (by rfl)) s_mul (je_op (op_addA (by rfl)) s_add (je_cb (call_max2 rfl) sc_max2 T.b_max (ja_cons (je_cb call_abs sc_abs T.b_abs (ja_cons (je_ix (je_var 0) je_int) ja_nil)) (ja_cons (je_neg (je_ix (je_var 0) je_int)) ja_nil))) je_int) (je_var 2))) (jss_cons (js_while (jt_cmp op_gt s_cmp (je_op op_sub s_sub (je_var 5) (je_var 4)) je_int) (jss_cons (js_set (i := 6) sc_floor_of.nd (je_op op_fdivA s_fdiv (je_op (op_addA (by rfl)) s_add (je_var 4) (je_var 5)) je_int)) (jss_one (js_if (jt_cmp op_ge s_cmp (je_call ((ok_compare_by T).mono (by decide)) hr (ja_cons (je_var 0) (ja_cons (je_call ((ok_fraction T).mono (by decide)) hr (ja_cons (je_var 6) (ja_cons (je_var 2) ja_nil))) ja_nil))) je_int) (jss_one (js_set (i := 4) sc_floor_of.nd (je_var 6))) (jss_one (js_set (i := 5) sc_floor_of.nd (je_var 6))))))) (jss_one (js_ret (je_var 4))))))))))⟩)
/-- square_root(n) -/
def t_square_root_6 : MS := (mIfS (mTest (mOp leD (mOp mulD (mVar 3) (mVar 3)) (mVar 0))) (mAsg (mVar 3) (mgName 1)) (mAsg (mVar 3) (mgName 2)))
def b_square_root_4 : MS := (mSeq (mAsg (mOp fdivD (mOp addD (mVar 1) (mVar 2)) (mC (.int 2))) (mgName 3)) t_square_root_6)
def l_square_root_4 : MS := (mWhile (mTest (mOp gtD (mOp subD (mVar 2) (mVar 1)) (mC (.int 1)))) b_square_root_4)
def t_square_root_10 : MS := (mRet (mVar 1))
def t_square_root_4 : MS := (mSeq l_square_root_4 t_square_root_10)
def t_square_root_3 : MS := (mSeq (mPar 1 2 (mCons (mC (.int 1)) (mCons (mOp shlD (mC (.int 1)) (mOp addD (mOp fdivD (mOp addD (mUn bitsD (mVar 0)) (mC (.int 1))) (mC (.int 2))) (mC (.int 1)))) mNil))) t_square_root_4)
def r_square_root : MF := mDef backF 1 4 ((mSeq (mIfS (mTest (mOp ltD (mVar 0) (mC (.int 2)))) (mRet (mVar 0)) mNext) t_square_root_3))
theorem ok_square_root (T : Top G.K mg G) : FnD P w G.K mg base G 1 "square_root" 1 r_square_root := by
  exact def_e rfl (back := backF) (N := n_square_root) (ps := p_square_root) backF_ok T.f_square_root sc_square_root (fun _ _ _ _ _ _ us hl => match us, hl with | [_], _ => rfl) (fun f cdv A outer s H E hr W => ⟨_, (jss_cons (js_if (jt_cmp op_lt s_cmp (je_var 0) je_int) (jss_one (js_ret (je_var 0))) jss_nil) (jss_cons (js_par (i := 1) (j := 2) rfl sc_square_root.nd (ja_cons je_int (ja_cons (je_op op_shl s_shl je_int (je_op (op_addA (by rfl)) s_add (je_op op_fdivA s_fdiv (je_op (op_addA (by rfl)) s_add (je_bits (je_var 0)) je_int) je_int) je_int)) ja_nil))) (jss_cons (js_while (jt_cmp op_gt s_cmp (je_op op_sub s_sub (je_var 2) (je_var 1)) je_int) (jss_cons (js_set (i := 3) sc_square_root.nd (je_op op_fdivA s_fdiv (je_op (op_addA (by rfl)) s_add (je_var 1) (je_var 2)) je_int)) (jss_one (js_if (jt_cmp op_le s_cmp (je_op (op_mulA (by rfl)) s_mul (je_var 3) (je_var 3)) (je_var 0)) (jss_one (js_set (i := 1) sc_square_root.nd (je_var 3))) (jss_one (js_set (i := 2) sc_square_root.nd (je_var 3))))))) (jss_one (js_ret (je_var 1))))))⟩)
/-- fraction_by(root) -/
def r_fraction_by : MF := mDef backF 1 7 ((mSeq (mAsg (mVar 0) (mgTup 4 (mgCons (mgName 1) (mgCons (mgName 2) (mgCons (mgName 3) (mgCons (mgName 4) mgNil)))))) (mSeq (mAsg (mOp subD (mOp mulD (mVar 3) (mVar 3)) (mOp mulD (mOp mulD (mC (.int 4)) (mVar 2)) (mVar 4))) (mgName 5)) (mSeq (mAsg (mCall 1 r_square_root (mCons (mVar 5) mNil)) (mgName 6)) (mSeq (mIfS (mTest (mOp neD (mOp mulD (mVar 6) (mVar 6)) (mVar 5))) (mRet (mC .non)) mNext) (mRet (mCall 2 r_fraction (mCons (mOp subD (mVar 6) (mVar 3)) (mCons (mOp mulD (mC (.int 2)) (mVar 2)) mNil)))))))))
theorem ok_fraction_by (T : Top G.K mg G) : FnD P w G.K mg base G 3 "fraction_by" 1 r_fraction_by := by
  exact def_e rfl (back := backF) (N := n_fraction_by) (ps := p_fraction_by) backF_ok T.f_fraction_by sc_fraction_by (fun _ _ _ _ _ _ us hl => match us, hl with | [_], _ => rfl) (fun f cdv A outer s H E hr W => ⟨_, (jss_cons (js_asg (je_var 0) (jg_tup (n := 4) rfl (jgs_cons (jg_name (i := 1) sc_fraction_by.nd) (jgs_cons (jg_name (i := 2) sc_fraction_by.nd) (jgs_cons (jg_name (i := 3) sc_fraction_by.nd) (jgs_cons (jg_name (i := 4) sc_fraction_by.nd) jgs_nil)))))) (jss_cons (js_set (i := 5) sc_fraction_by.nd (je_op op_sub s_sub (je_op (op_mulA (by rfl)) s_mul (je_var 3) (je_var 3)) (je_op (op_mulA (by rfl)) s_mul (je_op (op_mulA (by rfl)) s_mul je_int (je_var 2)) (je_var 4)))) (jss_cons (js_set (i := 6) sc_fraction_by.nd (je_call ((ok_square_root T).mono (by decide)) hr (ja_cons (je_var 5) ja_nil))) (jss_cons (js_if (jt_cmp (op_neK (by rfl) hr.units) s_ne (je_op (op_mulA (by rfl)) s_mul (je_var 6) (je_var 6)) (je_var 5)) (jss_one (js_ret je_non)) jss_nil) (jss_one (js_ret (je_call ((ok_fraction T).mono (by decide)) hr (ja_cons (je_op op_sub s_sub (je_var 6) (je_var 3)) (ja_cons (je_op (op_mulA (by rfl)) s_mul je_int (je_var 2)) ja_nil)))))))))⟩)
/-- fraction_of(root) -/
def r_fraction_of : MF := mDef backF 1 1 ((mSeq (mExpr (mCall 1 r_look_at_root (mCons (mVar 0) mNil))) (mRet (mCall 1 r_fraction_by (mCons (mVar 0) mNil)))))
theorem ok_fraction_of (T : Top G.K mg G) : FnD P w G.K mg base G 4 "fraction_of" 1 r_fraction_of := by
  exact def_e rfl (back := backF) (N := n_fraction_of) (ps := p_fraction_of) backF_ok T.f_fraction_of sc_fraction_of (fun _ _ _ _ _ _ us hl => match us, hl with | [_], _ => rfl) (fun f cdv A outer s H E hr W => ⟨_, (jss_cons (js_expr (je_call ((ok_look_at_root T).mono (by decide)) hr (ja_cons (je_var 0) ja_nil))) (jss_one (js_ret (je_call ((ok_fraction_by T).mono (by decide)) hr (ja_cons (je_var 0) ja_nil)))))⟩)
/-- sign(x) -/
def r_sign : MF := mDef backF 1 1 ((mRet (mOp subD (mCB intF (mCons (mOp gtD (mOp ixD (mVar 0) (mC (.int 0))) (mC (.int 0))) mNil)) (mCB intF (mCons (mOp ltD (mOp ixD (mVar 0) (mC (.int 0))) (mC (.int 0))) mNil)))))
theorem ok_sign (T : Top G.K mg G) : FnD P w G.K mg base G 1 "sign" 1 r_sign := by
  exact def_e rfl (back := backF) (N := n_sign) (ps := p_sign) backF_ok T.f_sign sc_sign (fun _ _ _ _ _ _ us hl => match us, hl with | [_], _ => rfl) (fun f cdv A outer s H E hr W => ⟨_, (jss_one (js_ret (je_op op_sub s_sub (je_ct call_int1 sc_int T.b_int (ja_cons (je_cmp op_gt s_cmp (je_ix (je_var 0) je_int) je_int) ja_nil)) (je_ct call_int1 sc_int T.b_int (ja_cons (je_cmp op_lt s_cmp (je_ix (je_var 0) je_int) je_int) ja_nil)))))⟩)
/-- order(root, other) -/
def t_order_17 : MS := (mRet (mUn negD (mVar 12)))
def t_order_13 : MS := (mSeq (mIfS (mTest (mOp eqD (mVar 10) (mC (.int 0)))) (mAsg (mCall 1 r_sign (mCons (mTup (mCons (mVar 11) (mCons (mC (.int 1)) mNil))) mNil)) (mgName 12)) (mAsg (mOp mulD (mCall 1 r_sign (mCons (mTup (mCons (mVar 10) (mCons (mC (.int 1)) mNil))) mNil)) (mCall 2 r_compare_by (mCons (mVar 1) (mCons (mCall 2 r_fraction (mCons (mUn negD (mVar 11)) (mCons (mVar 10) mNil))) mNil)))) (mgName 12))) t_order_17)
def t_order_12 : MS := (mSeq (mAsg (mOp subD (mOp mulD (mVar 6) (mVar 7)) (mOp mulD (mVar 4) (mVar 9))) (mgName 11)) t_order_13)
def t_order_11 : MS := (mSeq (mAsg (mOp subD (mOp mulD (mVar 5) (mVar 7)) (mOp mulD (mVar 4) (mVar 8))) (mgName 10)) t_order_12)
def t_order_10 : MS := (mSeq (mAsg (mVar 1) (mgTup 4 (mgCons (mgName 3) (mgCons (mgName 7) (mgCons (mgName 8) (mgCons (mgName 9) mgNil)))))) t_order_11)
def t_order_9 : MS := (mSeq (mAsg (mVar 0) (mgTup 4 (mgCons (mgName 3) (mgCons (mgName 4) (mgCons (mgName 5) (mgCons (mgName 6) mgNil)))))) t_order_10)
def t_order_7 : MS := (mSeq (mIfS (mTest (mOp notND (mVar 2) (mC .non))) (mRet (mUn negD (mCall 2 r_compare_by (mCons (mVar 1) (mCons (mVar 2) mNil))))) mNext) t_order_9)
def t_order_6 : MS := (mSeq (mAsg (mCall 1 r_fraction_by (mCons (mVar 0) mNil)) (mgName 2)) t_order_7)
def t_order_4 : MS := (mSeq (mIfS (mTest (mOp notND (mVar 2) (mC .non))) (mRet (mCall 2 r_compare_by (mCons (mVar 0) (mCons (mVar 2) mNil)))) mNext) t_order_6)
def t_order_3 : MS := (mSeq (mAsg (mCall 1 r_fraction_by (mCons (mVar 1) mNil)) (mgName 2)) t_order_4)
def t_order_2 : MS := (mSeq (mExpr (mCall 1 r_look_at_root (mCons (mVar 1) mNil))) t_order_3)
def r_order : MF := mDef backF 2 13 ((mSeq (mExpr (mCall 1 r_look_at_root (mCons (mVar 0) mNil))) t_order_2))
theorem ok_order (T : Top G.K mg G) : FnD P w G.K mg base G 4 "order" 2 r_order := by
  exact def_e rfl (back := backF) (N := n_order) (ps := p_order) backF_ok T.f_order sc_order (fun _ _ _ _ _ _ us hl => match us, hl with | [_, _], _ => rfl) (fun f cdv A outer s H E hr W => ⟨_, (jss_cons (js_expr (je_call ((ok_look_at_root T).mono (by decide)) hr (ja_cons (je_var 0) ja_nil))) (jss_cons (js_expr (je_call ((ok_look_at_root T).mono (by decide)) hr (ja_cons (je_var 1) ja_nil))) (jss_cons (js_set (i := 2) sc_order.nd (je_call ((ok_fraction_by T).mono (by decide)) hr (ja_cons (je_var 1) ja_nil))) (jss_cons (js_if (jt_cmp op_notN s_notN (je_var 2) je_non) (jss_one (js_ret (je_call ((ok_compare_by T).mono (by decide)) hr (ja_cons (je_var 0) (ja_cons (je_var 2) ja_nil))))) jss_nil) (jss_cons (js_set (i := 2) sc_order.nd (je_call ((ok_fraction_by T).mono (by decide)) hr (ja_cons (je_var 0) ja_nil))) (jss_cons (js_if (jt_cmp op_notN s_notN (je_var 2) je_non) (jss_one (js_ret (je_neg (je_call ((ok_compare_by T).mono (by decide)) hr (ja_cons (je_var 1) (ja_cons (je_var 2) ja_nil)))))) jss_nil) (jss_cons (js_asg (je_var 0) (jg_tup (n := 4) rfl (jgs_cons (jg_name (i := 3) sc_order.nd) (jgs_cons (jg_name (i := 4) sc_order.nd) (jgs_cons (jg_name (i := 5) sc_order.nd) (jgs_cons (jg_name (i := 6) sc_order.nd) jgs_nil)))))) (jss_cons (js_asg (je_var 1) (jg_tup (n := 4) rfl (jgs_cons (jg_name (i := 3) sc_order.nd) (jgs_cons (jg_name (i := 7) sc_order.nd) (jgs_cons (jg_name (i := 8) sc_order.nd) (jgs_cons (jg_name (i := 9) sc_order.nd) jgs_nil)))))) (jss_cons (js_set (i := 10) sc_order.nd (je_op op_sub s_sub (je_op (op_mulA (by rfl)) s_mul (je_var 5) (je_var 7)) (je_op (op_mulA (by rfl)) s_mul (je_var 4) (je_var 8)))) (jss_cons (js_set (i := 11) sc_order.nd (je_op op_sub s_sub (je_op (op_mulA (by rfl)) s_mul (je_var 6) (je_var 7)) (je_op (op_mulA (by rfl)) s_mul (je_var 4) (je_var 9)))) (jss_cons (js_if (jt_cmp (op_eqK (by rfl) hr.units) s_eq (je_var 10) je_int) (jss_one (js_set (i := 12) sc_order.nd (je_call ((ok_sign T).mono (by decide)) hr (ja_cons (je_tup (ja_cons (je_var 11) (ja_cons je_int ja_nil))) ja_nil)))) (jss_one (js_set (i := 12) sc_order.nd (je_op (op_mulA (by rfl)) s_mul (je_call ((ok_sign T).mono (by decide)) hr (ja_cons (je_tup (ja_cons (je_var 10) (ja_cons je_int ja_nil))) ja_nil)) (je_call ((ok_compare_by T).mono (by decide)) hr (ja_cons (je_var 1) (ja_cons (je_call ((ok_fraction T).mono (by decide)) hr (ja_cons (je_neg (je_var 11)) (ja_cons (je_var 10) ja_nil))) ja_nil))))))) (jss_one (js_ret (je_neg (je_var 12)))))))))))))))⟩)
/-- _law_draw(bag, many) -/
def r__law_draw : MF := mDef backF 2 4 ((mSeq (mIfS (mTest (mOp eqD (mOp ixD (mVar 0) (mC (.int 0))) (mC (.int 0)))) (mSeq (mAsg (mOp modD (mCB intF (mCons (mOp addD (mOp addD (mOp mulD (mOp ixD (mVar 0) (mC (.int 1))) (mC (.int 48271))) (mOp mulD (mOp ixD (mVar 0) (mC (.int 2))) (mC (.int 69621)))) (mC (.int 11))) mNil)) (mC (.int 2147483647))) (mgName 2)) (mSeq (mAsg (mOp addD (mOp mulD (mVar 2) (mC (.int 2147483629))) (mOp modD (mCB intF (mCons (mOp addD (mOp mulD (mVar 2) (mVar 2)) (mOp mulD (mOp ixD (mVar 0) (mC (.int 2))) (mC (.int 16807)))) mNil)) (mC (.int 2147483629)))) (mgSub setD (mVar 0) (mC (.int 0)))) (mAsg (mVar 2) (mgSub setD (mVar 0) (mC (.int 1)))))) mNext) (mSeq (mAsg (mOp ixD (mVar 0) (mC (.int 0))) (mgName 3)) (mSeq (mAsg (mOp fdivD (mVar 3) (mVar 1)) (mgSub setD (mVar 0) (mC (.int 0)))) (mRet (mOp modD (mCB intF (mCons (mVar 3) mNil)) (mVar 1)))))))
theorem ok__law_draw (T : Top G.K mg G) : FnD P w G.K mg base G 1 "_law_draw" 2 r__law_draw := by
  exact def_e rfl (back := backF) (N := n__law_draw) (ps := p__law_draw) backF_ok T.f__law_draw sc__law_draw (fun _ _ _ _ _ _ us hl => match us, hl with | [_, _], _ => rfl) (fun f cdv A outer s H E hr W => ⟨_, (jss_cons (js_if (jt_cmp (op_eqK (by rfl) hr.units) s_eq (je_ix (je_var 0) je_int) je_int) (jss_cons (js_set (i := 2) sc__law_draw.nd (je_op op_modN s_mod (je_ct call_int1 sc_int T.b_int (ja_cons (je_op (op_addA (by rfl)) s_add (je_op (op_addA (by rfl)) s_add (je_op (op_mulA (by rfl)) s_mul (je_ix (je_var 0) je_int) je_int) (je_op (op_mulA (by rfl)) s_mul (je_ix (je_var 0) je_int) je_int)) je_int) ja_nil)) je_int)) (jss_cons (js_asg (je_op (op_addA (by rfl)) s_add (je_op (op_mulA (by rfl)) s_mul (je_var 2) je_int) (je_op op_modN s_mod (je_ct call_int1 sc_int T.b_int (ja_cons (je_op (op_addA (by rfl)) s_add (je_op (op_mulA (by rfl)) s_mul (je_var 2) (je_var 2)) (je_op (op_mulA (by rfl)) s_mul (je_ix (je_var 0) je_int) je_int)) ja_nil)) je_int)) (jg_sub set_list s_set (je_var 0) je_int)) (jss_one (js_asg (je_var 2) (jg_sub set_list s_set (je_var 0) je_int))))) jss_nil) (jss_cons (js_set (i := 3) sc__law_draw.nd (je_ix (je_var 0) je_int)) (jss_cons (js_asg (je_op op_fdivA s_fdiv (je_var 3) (je_var 1)) (jg_sub set_list s_set (je_var 0) je_int)) (jss_one (js_ret (je_op op_modN s_mod (je_ct call_int1 sc_int T.b_int (ja_cons (je_var 3) ja_nil)) (je_var 1)))))))⟩)
/-- _law_fr(p, q) -/
def r__law_fr : MF := mDef backF 2 4 ((mSeq (mPar 2 3 (mCons (mCB absF (mCons (mVar 0) mNil)) (mCons (mCB absF (mCons (mVar 1) mNil)) mNil))) (mSeq (mWhile (mTest (mOp neD (mVar 3) (mC (.int 0)))) (mPar 2 3 (mCons (mVar 3) (mCons (mOp modD (mVar 2) (mVar 3)) mNil)))) (mSeq (mIfS (mTest (mOp ltD (mVar 1) (mC (.int 0)))) (mAsg (mOp subD (mC (.int 0)) (mVar 2)) (mgName 2)) mNext) (mRet (mTup (mCons (mOp fdivD (mVar 0) (mVar 2)) (mCons (mOp fdivD (mVar 1) (mVar 2)) mNil))))))))
theorem ok__law_fr (T : Top G.K mg G) : FnD P w G.K mg base G 1 "_law_fr" 2 r__law_fr := by
  exact def_e rfl (back := backF) (N := n__law_fr) (ps := p__law_fr) backF_ok T.f__law_fr sc__law_fr (fun _ _ _ _ _ _ us hl => match us, hl with | [_, _], _ => rfl) (fun f cdv A outer s H E hr W => ⟨_, (jss_cons (js_par (i := 2) (j := 3) rfl sc__law_fr.nd (ja_cons (je_cb call_abs sc_abs T.b_abs (ja_cons (je_var 0) ja_nil)) (ja_cons (je_cb call_abs sc_abs T.b_abs (ja_cons (je_var 1) ja_nil)) ja_nil))) (jss_cons (js_while (jt_cmp (op_neK (by rfl) hr.units) s_ne (je_var 3) je_int) (jss_one (js_par (i := 2) (j := 3) rfl sc__law_fr.nd (ja_cons (je_var 3) (ja_cons (je_op op_modN s_mod (je_var 2) (je_var 3)) ja_nil))))) (jss_cons (js_if (jt_cmp op_lt s_cmp (je_var 1) je_int) (jss_one (js_set (i := 2) sc__law_fr.nd (je_op op_sub s_sub je_int (je_var 2)))) jss_nil) (jss_one (js_ret (je_tup (ja_cons (je_op op_fdivA s_fdiv (je_var 0) (je_var 2)) (ja_cons (je_op op_fdivA s_fdiv (je_var 1) (je_var 2)) ja_nil))))))))⟩)
/-- _law_common(row) -/
def b__law_common_4 : MS := (mPar 3 4 (mCons (mVar 4) (mCons (mOp modD (mVar 3) (mVar 4)) mNil)))
def l__law_common_4 : MS := (mWhile (mTest (mOp gtD (mVar 4) (mC (.int 0)))) b__law_common_4)
def t__law_common_6 : MS := (mAsg (mVar 3) (mgName 1))
def t__law_common_4 : MS := (mSeq l__law_common_4 t__law_common_6)
def b__law_common_2 : MS := (mSeq (mPar 3 4 (mCons (mVar 1) (mCons (mCB absF (mCons (mVar 2) mNil)) mNil))) t__law_common_4)
def l__law_common_2 : MS := (mFor (mIter (mVar 0)) (mgName 2) b__law_common_2)
def t__law_common_7 : MS := (mRet (mVar 1))
def t__law_common_2 : MS := (mSeq l__law_common_2 t__law_common_7)
def r__law_common : MF := mDef backF 1 5 ((mSeq (mAsg (mC (.int 0)) (mgName 1)) t__law_common_2))
theorem ok__law_common (T : Top G.K mg G) : FnD P w G.K mg base G 1 "_law_common" 1 r__law_common := by
  exact def_e rfl (back := backF) (N := n__law_common) (ps := p__law_common) backF_ok T.f__law_common sc__law_common (fun _ _ _ _ _ _ us hl => match us, hl with | [_], _ => rfl) (fun f cdv A outer s H E hr W => ⟨_, (jss_cons (js_set (i := 1) sc__law_common.nd je_int) (jss_cons (js_for rfl (ji_any (je_var 0)) (jg_name (i := 2) sc__law_common.nd) (jss_cons (js_par (i := 3) (j := 4) rfl sc__law_common.nd (ja_cons (je_var 1) (ja_cons (je_cb call_abs sc_abs T.b_abs (ja_cons (je_var 2) ja_nil)) ja_nil))) (jss_cons (js_while (jt_cmp op_gt s_cmp (je_var 4) je_int) (jss_one (js_par (i := 3) (j := 4) rfl sc__law_common.nd (ja_cons (je_var 4) (ja_cons (je_op op_modN s_mod (je_var 3) (je_var 4)) ja_nil))))) (jss_one (js_set (i := 1) sc__law_common.nd (je_var 3)))))) (jss_one (js_ret (je_var 1)))))⟩)
/-- _law_root(bag) -/
def r__law_root : MF := mDef backF 1 6 ((mSeq (mIfS (mTest (mOp eqD (mCall 2 r__law_draw (mCons (mVar 0) (mCons (mC (.int 3)) mNil))) (mC (.int 0)))) (mSeq (mAsg (mCall 2 r__law_fr (mCons (mOp addD (mC (.int 1)) (mCall 2 r__law_draw (mCons (mVar 0) (mCons (mC (.int 9)) mNil)))) (mCons (mOp addD (mC (.int 1)) (mCall 2 r__law_draw (mCons (mVar 0) (mCons (mC (.int 5)) mNil)))) mNil))) (mgTup 2 (mgCons (mgName 1) (mgCons (mgName 2) mgNil)))) (mSeq (mAsg (mOp addD (mC (.int 1)) (mCall 2 r__law_draw (mCons (mVar 0) (mCons (mC (.int 6)) mNil)))) (mgName 3)) (mAsg (mLst (mCons (mVar 2) (mCons (mOp subD (mOp mulD (mVar 2) (mVar 3)) (mVar 1)) (mCons (mOp subD (mC (.int 0)) (mOp mulD (mVar 1) (mVar 3))) mNil)))) (mgName 4)))) (mAsg (mLst (mCons (mOp addD (mC (.int 1)) (mCall 2 r__law_draw (mCons (mVar 0) (mCons (mC (.int 9)) mNil)))) (mCons (mOp subD (mCall 2 r__law_draw (mCons (mVar 0) (mCons (mC (.int 41)) mNil))) (mC (.int 20))) (mCons (mOp subD (mUn negD (mC (.int 1))) (mCall 2 r__law_draw (mCons (mVar 0) (mCons (mC (.int 30)) mNil)))) mNil)))) (mgName 4))) (mRet (mOp addD (mTup (mCons (mC (.str "root")) mNil)) (mCB tupleF (mCons (mLc [5] (mIter (mVar 4)) (mgName 5) mYes (mOp fdivD (mVar 5) (mCall 1 r__law_common (mCons (mVar 4) mNil)))) mNil))))))
theorem ok__law_root (T : Top G.K mg G) : FnD P w G.K mg base G 2 "_law_root" 1 r__law_root := by
  exact def_e rfl (back := backF) (N := n__law_root) (ps := p__law_root) backF_ok T.f__law_root sc__law_root (fun _ _ _ _ _ _ us hl => match us, hl with | [_], _ => rfl) (fun f cdv A outer s H E hr W => ⟨_, (jss_cons (js_if (jt_cmp (op_eqK (by rfl) hr.units) s_eq (je_call ((ok__law_draw T).mono (by decide)) hr (ja_cons (je_var 0) (ja_cons je_int ja_nil))) je_int) (jss_cons (js_asg (je_call ((ok__law_fr T).mono (by decide)) hr (ja_cons (je_op (op_addA (by rfl)) s_add je_int (je_call ((ok__law_draw T).mono (by decide)) hr (ja_cons (je_var 0) (ja_cons je_int ja_nil)))) (ja_cons (je_op (op_addA (by rfl)) s_add je_int (je_call ((ok__law_draw T).mono (by decide)) hr (ja_cons (je_var 0) (ja_cons je_int ja_nil)))) ja_nil))) (jg_tup (n := 2) rfl (jgs_cons (jg_name (i := 1) sc__law_root.nd) (jgs_cons (jg_name (i := 2) sc__law_root.nd) jgs_nil)))) (jss_cons (js_set (i := 3) sc__law_root.nd (je_op (op_addA (by rfl)) s_add je_int (je_call ((ok__law_draw T).mono (by decide)) hr (ja_cons (je_var 0) (ja_cons je_int ja_nil))))) (jss_one (js_set (i := 4) sc__law_root.nd (je_lst (ja_cons (je_var 2) (ja_cons (je_op op_sub s_sub (je_op (op_mulA (by rfl)) s_mul (je_var 2) (je_var 3)) (je_var 1)) (ja_cons (je_op op_sub s_sub je_int (je_op (op_mulA (by rfl)) s_mul (je_var 1) (je_var 3))) ja_nil)))))))) (jss_one (js_set (i := 4) sc__law_root.nd (je_lst (ja_cons (je_op (op_addA (by rfl)) s_add je_int (je_call ((ok__law_draw T).mono (by decide)) hr (ja_cons (je_var 0) (ja_cons je_int ja_nil)))) (ja_cons (je_op op_sub s_sub (je_call ((ok__law_draw T).mono (by decide)) hr (ja_cons (je_var 0) (ja_cons je_int ja_nil))) je_int) (ja_cons (je_op op_sub s_sub (je_neg je_int) (je_call ((ok__law_draw T).mono (by decide)) hr (ja_cons (je_var 0) (ja_cons je_int ja_nil)))) ja_nil))))))) (jss_one (js_ret (je_op (op_addA (by rfl)) s_add (je_tup (ja_cons je_str ja_nil)) (je_ct (call_tupleK (by rfl)) sc_tuple T.b_tuple (ja_cons (je_lc rfl (own := [("one", 5)]) sc__law_root.nd (ji_any (je_var 4)) (blkOk_by (N := n__law_root) (sc := defScope s__law_root) (by decide +kernel)) (keeps_name (by decide)) (fun _ _ _ _ _ => (jg_name (i := 5) sc__law_root.nd)) (fun _ _ _ _ _ => jts_nil) (fun _ _ _ _ _ => (je_op op_fdivA s_fdiv (je_var 5) (je_call ((ok__law_common T).mono (by decide)) hr (ja_cons (je_var 4) ja_nil))))) ja_nil))))))⟩)
/-- _law_floor(root, scale) -/
def b__law_floor_5 : MS := (mAsg (mOp mulD (mC (.int 2)) (mVar 8)) (mgName 8))
def l__law_floor_5 : MS := (mWhile (mTest (mOp leD (mOp mulD (mVar 8) (mVar 8)) (mVar 6))) b__law_floor_5)
def t__law_floor_10 : MS := (mAsg (mOp fdivD (mVar 8) (mC (.int 2))) (mgName 8))
def b__law_floor_7 : MS := (mSeq (mIfS (mTest (mOp leD (mOp mulD (mOp addD (mVar 7) (mVar 8)) (mOp addD (mVar 7) (mVar 8))) (mVar 6))) (mAsg (mOp addD (mVar 7) (mVar 8)) (mgName 7)) mNext) t__law_floor_10)
def l__law_floor_7 : MS := (mWhile (mTest (mOp gtD (mVar 8) (mC (.int 0)))) b__law_floor_7)
def b__law_floor_12 : MS := (mAsg (mOp addD (mVar 9) (mC (.int 1))) (mgName 9))
def l__law_floor_12 : MS := (mWhile (mTest (mOp leD (mOp addD (mOp addD (mOp mulD (mOp mulD (mVar 3) (mOp addD (mVar 9) (mC (.int 1)))) (mOp addD (mVar 9) (mC (.int 1)))) (mOp mulD (mOp mulD (mVar 4) (mOp addD (mVar 9) (mC (.int 1)))) (mVar 1))) (mOp mulD (mOp mulD (mVar 5) (mVar 1)) (mVar 1))) (mC (.int 0)))) b__law_floor_12)
def t__law_floor_14 : MS := (mRet (mVar 9))
def t__law_floor_12 : MS := (mSeq l__law_floor_12 t__law_floor_14)
def t__law_floor_11 : MS := (mSeq (mAsg (mOp fdivD (mOp subD (mVar 7) (mOp mulD (mVar 4) (mVar 1))) (mOp mulD (mC (.int 2)) (mVar 3))) (mgName 9)) t__law_floor_12)
def t__law_floor_7 : MS := (mSeq l__law_floor_7 t__law_floor_11)
def t__law_floor_5 : MS := (mSeq l__law_floor_5 t__law_floor_7)
def t__law_floor_4 : MS := (mSeq (mAsg (mC (.int 1)) (mgName 8)) t__law_floor_5)
def t__law_floor_3 : MS := (mSeq (mAsg (mC (.int 0)) (mgName 7)) t__law_floor_4)
def t__law_floor_2 : MS := (mSeq (mAsg (mOp mulD (mOp mulD (mOp subD (mOp mulD (mVar 4) (mVar 4)) (mOp mulD (mOp mulD (mC (.int 4)) (mVar 3)) (mVar 5))) (mVar 1)) (mVar 1)) (mgName 6)) t__law_floor_3)
def r__law_floor : MF := mDef backF 2 10 ((mSeq (mAsg (mVar 0) (mgTup 4 (mgCons (mgName 2) (mgCons (mgName 3) (mgCons (mgName 4) (mgCons (mgName 5) mgNil)))))) t__law_floor_2))
theorem ok__law_floor (T : Top G.K mg G) : FnD P w G.K mg base G 1 "_law_floor" 2 r__law_floor := by
  exact def_e rfl (back := backF) (N := n__law_floor) (ps := p__law_floor) backF_ok T.f__law_floor sc__law_floor (fun _ _ _ _ _ _ us hl => match us, hl with | [_, _], _ => rfl) (fun f cdv A outer s H E hr W => ⟨_, (jss_cons (js_asg (je_var 0) (jg_tup (n := 4) rfl (jgs_cons (jg_name (i := 2) sc__law_floor.nd) (jgs_cons (jg_name (i := 3) sc__law_floor.nd) (jgs_cons (jg_name (i := 4) sc__law_floor.nd) (jgs_cons (jg_name (i := 5) sc__law_floor.nd) jgs_nil)))))) (jss_cons (js_set (i := 6) sc__law_floor.nd (je_op (op_mulA (by rfl)) s_mul (je_op (op_mulA (by rfl)) s_mul (je_op op_sub s_sub (je_op (op_mulA (by rfl)) s_mul (je_var 4) (je_var 4)) (je_op (op_mulA (by rfl)) s_mul (je_op (op_mulA (by rfl)) s_mul je_int (je_var 3)) (je_var 5))) (je_var 1)) (je_var 1))) (jss_cons (js_set (i := 7) sc__law_floor.nd je_int) (jss_cons (js_set (i := 8) sc__law_floor.nd je_int) (jss_cons (js_while (jt_cmp op_le s_cmp (je_op (op_mulA (by rfl)) s_mul (je_var 8) (je_var 8)) (je_var 6)) (jss_one (js_set (i := 8) sc__law_floor.nd (je_op (op_mulA (by rfl)) s_mul je_int (je_var 8))))) (jss_cons (js_while (jt_cmp op_gt s_cmp (je_var 8) je_int) (jss_cons (js_if (jt_cmp op_le s_cmp (je_op (op_mulA (by rfl)) s_mul (je_op (op_addA (by rfl)) s_add (je_var 7) (je_var 8)) (je_op (op_addA (by rfl)) s_add (je_var 7) (je_var 8))) (je_var 6)) (jss_one (js_set (i := 7) sc__law_floor.nd (je_op (op_addA (by rfl)) s_add (je_var 7) (je_var 8)))) jss_nil) (jss_one (js_set (i := 8) sc__law_floor.nd (je_op op_fdivA s_fdiv (je_var 8) je_int))))) (jss_cons (js_set (i := 9) sc__law_floor.nd (je_op op_fdivA s_fdiv (je_op op_sub s_sub (je_var 7) (je_op (op_mulA (by rfl)) s_mul (je_var 4) (je_var 1))) (je_op (op_mulA (by rfl)) s_mul je_int (je_var 3)))) (jss_cons (js_while (jt_cmp op_le s_cmp (je_op (op_addA (by rfl)) s_add (je_op (op_addA (by rfl)) s_add (je_op (op_mulA (by rfl)) s_mul (je_op (op_mulA (by rfl)) s_mul (je_var 3) (je_op (op_addA (by rfl)) s_add (je_var 9) je_int)) (je_op (op_addA (by rfl)) s_add (je_var 9) je_int)) (je_op (op_mulA (by rfl)) s_mul (je_op (op_mulA (by rfl)) s_mul (je_var 4) (je_op (op_addA (by rfl)) s_add (je_var 9) je_int)) (je_var 1))) (je_op (op_mulA (by rfl)) s_mul (je_op (op_mulA (by rfl)) s_mul (je_var 5) (je_var 1)) (je_var 1))) je_int) (jss_one (js_set (i := 9) sc__law_floor.nd (je_op (op_addA (by rfl)) s_add (je_var 9) je_int)))) (jss_one (js_ret (je_var 9)))))))))))⟩)
/-- _law_sign(n) -/
def r__law_sign : MF := mDef backF 1 1 ((mRet (mOp subD (mCB intF (mCons (mOp gtD (mVar 0) (mC (.int 0))) mNil)) (mCB intF (mCons (mOp ltD (mVar 0) (mC (.int 0))) mNil)))))
theorem ok__law_sign (T : Top G.K mg G) : FnD P w G.K mg base G 1 "_law_sign" 1 r__law_sign := by
  exact def_e rfl (back := backF) (N := n__law_sign) (ps := p__law_sign) backF_ok T.f__law_sign sc__law_sign (fun _ _ _ _ _ _ us hl => match us, hl with | [_], _ => rfl) (fun f cdv A outer s H E hr W => ⟨_, (jss_one (js_ret (je_op op_sub s_sub (je_ct call_int1 sc_int T.b_int (ja_cons (je_cmp op_gt s_cmp (je_var 0) je_int) ja_nil)) (je_ct call_int1 sc_int T.b_int (ja_cons (je_cmp op_lt s_cmp (je_var 0) je_int) ja_nil)))))⟩)
/-- is_number(value) -/
def r_is_number : MF := mDef backF 1 3 ((mSeq (mIfS (mOr (mNot (mTest (mIsi "tuple" (mVar 0)))) (mTest (mOp neD (mCB lenF (mCons (mVar 0) mNil)) (mC (.int 2))))) (mRet (mC (.bl false))) mNext) (mSeq (mAsg (mVar 0) (mgTup 2 (mgCons (mgName 1) (mgCons (mgName 2) mgNil)))) (mSeq (mIfS (mOr (mNot (mTest (mIsi "int" (mVar 1)))) (mOr (mTest (mIsi "bool" (mVar 1))) (mOr (mNot (mTest (mIsi "int" (mVar 2)))) (mOr (mTest (mIsi "bool" (mVar 2))) (mTest (mOp ltD (mVar 2) (mC (.int 1)))))))) (mRet (mC (.bl false))) mNext) (mSeq (mWhile (mTest (mOp neD (mVar 1) (mC (.int 0)))) (mPar 1 2 (mCons (mOp modD (mVar 2) (mCB absF (mCons (mVar 1) mNil))) (mCons (mCB absF (mCons (mVar 1) mNil)) mNil)))) (mRet (mOp eqD (mVar 2) (mC (.int 1)))))))))
theorem ok_is_number (T : Top G.K mg G) : FnD P w G.K mg base G 1 "is_number" 1 r_is_number := by
  exact def_e rfl (back := backF) (N := n_is_number) (ps := p_is_number) backF_ok T.f_is_number sc_is_number (fun _ _ _ _ _ _ us hl => match us, hl with | [_], _ => rfl) (fun f cdv A outer s H E hr W => ⟨_, (jss_cons (js_if ((jw_or (jt_not (jt_val (je_isi (T := "tuple") (by decide) T.b_isinstance T.b_tuple (je_var 0)))) (jw_or1 (jt_cmp (op_neK (by rfl) hr.units) s_ne (je_cb (call_lenA (by rfl)) sc_len T.b_len (ja_cons (je_var 0) ja_nil)) je_int)))).jt (jss_one (js_ret je_bl)) jss_nil) (jss_cons (js_asg (je_var 0) (jg_tup (n := 2) rfl (jgs_cons (jg_name (i := 1) sc_is_number.nd) (jgs_cons (jg_name (i := 2) sc_is_number.nd) jgs_nil)))) (jss_cons (js_if ((jw_or (jt_not (jt_val (je_isi (T := "int") (by decide) T.b_isinstance T.b_int (je_var 1)))) (jw_or (jt_val (je_isi (T := "bool") (by decide) T.b_isinstance T.b_bool (je_var 1))) (jw_or (jt_not (jt_val (je_isi (T := "int") (by decide) T.b_isinstance T.b_int (je_var 2)))) (jw_or (jt_val (je_isi (T := "bool") (by decide) T.b_isinstance T.b_bool (je_var 2))) (jw_or1 (jt_cmp op_lt s_cmp (je_var 2) je_int))))))).jt (jss_one (js_ret je_bl)) jss_nil) (jss_cons (js_while (jt_cmp (op_neK (by rfl) hr.units) s_ne (je_var 1) je_int) (jss_one (js_par (i := 1) (j := 2) rfl sc_is_number.nd (ja_cons (je_op op_modN s_mod (je_var 2) (je_cb call_abs sc_abs T.b_abs (ja_cons (je_var 1) ja_nil))) (ja_cons (je_cb call_abs sc_abs T.b_abs (ja_cons (je_var 1) ja_nil)) ja_nil))))) (jss_one (js_ret (je_cmp (op_eqK (by rfl) hr.units) s_eq (je_var 2) je_int)))))))⟩)
/-- compare(root, x) -/
def r_compare : MF := mDef backF 2 2 ((mSeq (mExpr (mCall 1 r_look_at_root (mCons (mVar 0) mNil))) (mSeq (mIfS (mNot (mTest (mCall 1 r_is_number (mCons (mVar 1) mNil)))) (mRaise "BadValue") mNext) (mRet (mCall 2 r_compare_by (mCons (mVar 0) (mCons (mVar 1) mNil)))))))
theorem ok_compare (T : Top G.K mg G) : FnD P w G.K mg base G 4 "compare" 2 r_compare := by
  exact def_e rfl (back := backF) (N := n_compare) (ps := p_compare) backF_ok T.f_compare sc_compare (fun _ _ _ _ _ _ us hl => match us, hl with | [_, _], _ => rfl) (fun f cdv A outer s H E hr W => ⟨_, (jss_cons (js_expr (je_call ((ok_look_at_root T).mono (by decide)) hr (ja_cons (je_var 0) ja_nil))) (jss_cons (js_if (jt_not (jt_val (je_call ((ok_is_number T).mono (by decide)) hr (ja_cons (je_var 1) ja_nil)))) (jss_one (js_raise T.c_BadValue rfl)) jss_nil) (jss_one (js_ret (je_call ((ok_compare_by T).mono (by decide)) hr (ja_cons (je_var 0) (ja_cons (je_var 1) ja_nil)))))))⟩)
/-- _law_told(call, values) -/
def r__law_told : MF := mDef backF 2 2 ((mTry (mSeq (mIfS (mTest (mOp eqD (mCB lenF (mCons (mVar 1) mNil)) (mC (.int 1)))) (mRet (mCallV 0 [("compare", 2, r_compare), ("floor_of", 2, r_floor_of), ("order", 2, r_order), ("fraction_of", 1, r_fraction_of)] (mCons (mOp ixD (mVar 1) (mC (.int 0))) mNil))) mNext) (mRet (mCallV 0 [("compare", 2, r_compare), ("floor_of", 2, r_floor_of), ("order", 2, r_order), ("fraction_of", 1, r_fraction_of)] (mCons (mOp ixD (mVar 1) (mC (.int 0))) (mCons (mOp ixD (mVar 1) (mC (.int 1))) mNil))))) [("BadValue", (mRet (mC (.str "value")))), ("TooFar", (mRet (mC (.str "far"))))]))
theorem ok__law_told (T : Top G.K mg G) : FnD P w G.K mg base G 5 "_law_told" 2 r__law_told := by
  exact def_e rfl (back := backF) (N := n__law_told) (ps := p__law_told) backF_ok T.f__law_told sc__law_told (fun _ _ _ _ _ _ us hl => match us, hl with | [_, _], _ => rfl) (fun f cdv A outer s H E hr W => ⟨_, (jss_one (js_try T.em rfl rfl (fun W _ _ => (jss_cons (js_if (jt_cmp (op_eqK (by rfl) hr.units) s_eq (je_cb (call_lenA (by rfl)) sc_len T.b_len (ja_cons (je_var 1) ja_nil)) je_int) (jss_one (js_ret (je_callV (i := 0) (FsOk.cons ((ok_compare T).mono (by decide)) (FsOk.cons ((ok_floor_of T).mono (by decide)) (FsOk.cons ((ok_order T).mono (by decide)) (FsOk.cons ((ok_fraction_of T).mono (by decide)) FsOk.nil)))) hr (ja_cons (je_ix (je_var 1) je_int) ja_nil)))) jss_nil) (jss_one (js_ret (je_callV (i := 0) (FsOk.cons ((ok_compare T).mono (by decide)) (FsOk.cons ((ok_floor_of T).mono (by decide)) (FsOk.cons ((ok_order T).mono (by decide)) (FsOk.cons ((ok_fraction_of T).mono (by decide)) FsOk.nil)))) hr (ja_cons (je_ix (je_var 1) je_int) (ja_cons (je_ix (je_var 1) je_int) ja_nil))))))) (HsOk.cons T.c_BadValue rfl (by decide) (fun _ _ _ => (jss_one (js_ret je_str))) (HsOk.cons T.c_TooFar rfl (by decide) (fun _ _ _ => (jss_one (js_ret je_str))) HsOk.nil))))⟩)
/-- _law_case(bag) -/
def b__law_case_6 : MS := (mAsg (mOp mulD (mC (.int 10)) (mVar 8)) (mgName 8))
def l__law_case_6 : MS := (mFor (mRng1 (mCons (mVar 7) mNil)) (mgName 9) b__law_case_6)
def t__law_case_13 : MS := (mIfS (mTest (mOp neD (mCall 2 r_compare (mCons (mVar 1) (mCons (mVar 11) mNil))) (mVar 12))) (mRet (mC (.bl false))) mNext)
def b__law_case_11 : MS := (mSeq (mAsg (mIf (mTest (mOp leD (mOp ixD (mVar 11) (mC (.int 0))) (mC (.int 0)))) (mC (.int 1)) (mOp subD (mC (.int 0)) (mCall 1 r__law_sign (mCons (mOp addD (mOp addD (mOp mulD (mOp mulD (mVar 4) (mOp ixD (mVar 11) (mC (.int 0)))) (mOp ixD (mVar 11) (mC (.int 0)))) (mOp mulD (mOp mulD (mVar 5) (mOp ixD (mVar 11) (mC (.int 0)))) (mOp ixD (mVar 11) (mC (.int 1))))) (mOp mulD (mOp mulD (mVar 6) (mOp ixD (mVar 11) (mC (.int 1)))) (mOp ixD (mVar 11) (mC (.int 1))))) mNil)))) (mgName 12)) t__law_case_13)
def l__law_case_11 : MS := (mFor (mIter (mLst (mCons (mCall 2 r__law_fr (mCons (mVar 10) (mCons (mVar 8) mNil))) (mCons (mCall 2 r__law_fr (mCons (mOp addD (mVar 10) (mC (.int 1))) (mCons (mVar 8) mNil))) (mCons (mCall 2 r__law_fr (mCons (mOp addD (mOp mulD (mC (.int 2)) (mVar 10)) (mC (.int 1))) (mCons (mOp mulD (mC (.int 2)) (mVar 8)) mNil))) (mCons (mTup (mCons (mC (.int 0)) (mCons (mC (.int 1)) mNil))) (mCons (mTup (mCons (mUn negD (mC (.int 3))) (mCons (mC (.int 2)) mNil))) (mCons (mTup (mCons (mOp powD (mC (.int 10)) (mC (.int 9))) (mCons (mC (.int 1)) mNil))) mNil)))))))) (mgName 11) b__law_case_11)
def b__law_case_25 : MS := (mIfS (mTest (mOp neD (mLst (mCons (mCall 2 r__law_told (mCons (mC (.fn "compare")) (mCons (mTup (mCons (mVar 18) (mCons (mTup (mCons (mC (.int 1)) (mCons (mC (.int 1)) mNil))) mNil))) mNil))) (mCons (mCall 2 r__law_told (mCons (mC (.fn "order")) (mCons (mTup (mCons (mVar 1) (mCons (mVar 18) mNil))) mNil))) (mCons (mCall 2 r__law_told (mCons (mC (.fn "order")) (mCons (mTup (mCons (mVar 18) (mCons (mVar 1) mNil))) mNil))) (mCons (mCall 2 r__law_told (mCons (mC (.fn "floor_of")) (mCons (mTup (mCons (mVar 18) (mCons (mC (.int 1)) mNil))) mNil))) (mCons (mCall 2 r__law_told (mCons (mC (.fn "fraction_of")) (mCons (mTup (mCons (mVar 18) mNil)) mNil))) mNil)))))) (mOp mulD (mLst (mCons (mC (.str "value")) mNil)) (mC (.int 5))))) (mRet (mC (.bl false))) mNext)
def l__law_case_25 : MS := (mFor (mIter (mVar 17)) (mgName 18) b__law_case_25)
def t__law_case_30 : MS := (mRet (mOp eqD (mLc [17] (mIter (mLst (mCons (mUn negD (mC (.int 1))) (mCons (mC (.int 61)) (mCons (mC .non) (mCons (mC (.bl true)) mNil)))))) (mgName 17) mYes (mCall 2 r__law_told (mCons (mC (.fn "floor_of")) (mCons (mTup (mCons (mVar 1) (mCons (mVar 17) mNil))) mNil)))) (mOp mulD (mLst (mCons (mC (.str "far")) mNil)) (mC (.int 4)))))
def t__law_case_28 : MS := (mSeq (mIfS (mTest (mOp neD (mLc [17] (mIter (mLst (mCons (mC .non) (mCons (mTup (mCons (mC (.int 2)) (mCons (mC (.int 4)) mNil))) (mCons (mC (.int 3)) (mCons (mTup (mCons (mC (.int 1)) (mCons (mC (.int 0)) mNil))) mNil)))))) (mgName 17) mYes (mCall 2 r__law_told (mCons (mC (.fn "compare")) (mCons (mTup (mCons (mVar 1) (mCons (mVar 17) mNil))) mNil)))) (mOp mulD (mLst (mCons (mC (.str "value")) mNil)) (mC (.int 4))))) (mRet (mC (.bl false))) mNext) t__law_case_30)
def t__law_case_25 : MS := (mSeq l__law_case_25 t__law_case_28)
def t__law_case_24 : MS := (mSeq (mAsg (mLst (mCons (mC .non) (mCons (mTup (mCons (mC (.str "root")) (mCons (mC (.int 1)) (mCons (mC (.int 2)) mNil)))) (mCons (mTup (mCons (mC (.str "roots")) (mCons (mC (.int 1)) (mCons (mC (.int 0)) (mCons (mUn negD (mC (.int 2))) mNil))))) (mCons (mTup (mCons (mC (.str "root")) (mCons (mC (.int 0)) (mCons (mC (.int 1)) (mCons (mUn negD (mC (.int 1))) mNil))))) (mCons (mTup (mCons (mC (.str "root")) (mCons (mUn negD (mC (.int 1))) (mCons (mC (.int 0)) (mCons (mC (.int 2)) mNil))))) (mCons (mTup (mCons (mC (.str "root")) (mCons (mC (.int 1)) (mCons (mC (.int 0)) (mCons (mC (.int 2)) mNil))))) (mCons (mTup (mCons (mC (.str "root")) (mCons (mC (.int 2)) (mCons (mC (.int 0)) (mCons (mUn negD (mC (.int 4))) mNil))))) (mCons (mTup (mCons (mC (.str "root")) (mCons (mC (.int 1)) (mCons (mC (.int 0)) (mCons (mC (.int 0)) mNil))))) (mCons (mTup (mCons (mC (.str "root")) (mCons (mC (.bl true)) (mCons (mC (.int 0)) (mCons (mUn negD (mC (.int 2))) mNil))))) (mCons (mTup (mCons (mC (.str "root")) (mCons (mC (.int 1)) (mCons (mC .non) (mCons (mUn negD (mC (.int 2))) mNil))))) mNil))))))))))) (mgName 17)) t__law_case_25)
def t__law_case_22 : MS := (mSeq (mIfS (mTest (mOp neD (mCall 1 r_fraction_of (mCons (mVar 1) mNil)) (mVar 16))) (mRet (mC (.bl false))) mNext) t__law_case_24)
def t__law_case_21 : MS := (mSeq (mAsg (mIf (mTest (mOp eqD (mOp mulD (mVar 15) (mVar 15)) (mVar 14))) (mCall 2 r__law_fr (mCons (mOp subD (mVar 15) (mVar 5)) (mCons (mOp mulD (mC (.int 2)) (mVar 4)) mNil))) (mC .non)) (mgName 16)) t__law_case_22)
def t__law_case_20 : MS := (mSeq (mAsg (mCall 2 r__law_floor (mCons (mTup (mCons (mC (.str "root")) (mCons (mC (.int 1)) (mCons (mC (.int 0)) (mCons (mOp subD (mC (.int 0)) (mVar 14)) mNil))))) (mCons (mC (.int 1)) mNil))) (mgName 15)) t__law_case_21)
def t__law_case_19 : MS := (mSeq (mAsg (mOp subD (mOp mulD (mVar 5) (mVar 5)) (mOp mulD (mOp mulD (mC (.int 4)) (mVar 4)) (mVar 6))) (mgName 14)) t__law_case_20)
def t__law_case_17 : MS := (mSeq (mIfS (mOr (mTest (mOp neD (mCall 2 r_order (mCons (mVar 1) (mCons (mVar 2) mNil))) (mVar 12))) (mOr (mTest (mOp neD (mCall 2 r_order (mCons (mVar 2) (mCons (mVar 1) mNil))) (mOp subD (mC (.int 0)) (mVar 12)))) (mTest (mOp neD (mCall 2 r_order (mCons (mVar 1) (mCons (mVar 1) mNil))) (mC (.int 0)))))) (mRet (mC (.bl false))) mNext) t__law_case_19)
def t__law_case_16 : MS := (mSeq (mAsg (mCall 1 r__law_sign (mCons (mOp subD (mCall 2 r__law_floor (mCons (mVar 1) (mCons (mVar 13) mNil))) (mCall 2 r__law_floor (mCons (mVar 2) (mCons (mVar 13) mNil)))) mNil)) (mgName 12)) t__law_case_17)
def t__law_case_15 : MS := (mSeq (mAsg (mOp mulD (mOp powD (mC (.int 10)) (mC (.int 40))) (mOp powD (mC (.int 10)) (mC (.int 40)))) (mgName 13)) t__law_case_16)
def t__law_case_11 : MS := (mSeq l__law_case_11 t__law_case_15)
def t__law_case_9 : MS := (mSeq (mIfS (mTest (mOp neD (mCall 2 r_floor_of (mCons (mVar 1) (mCons (mVar 7) mNil))) (mVar 10))) (mRet (mC (.bl false))) mNext) t__law_case_11)
def t__law_case_8 : MS := (mSeq (mAsg (mCall 2 r__law_floor (mCons (mVar 1) (mCons (mVar 8) mNil))) (mgName 10)) t__law_case_9)
def t__law_case_6 : MS := (mSeq l__law_case_6 t__law_case_8)
def t__law_case_5 : MS := (mSeq (mAsg (mC (.int 1)) (mgName 8)) t__law_case_6)
def t__law_case_4 : MS := (mSeq (mAsg (mCall 2 r__law_draw (mCons (mVar 0) (mCons (mC (.int 30)) mNil))) (mgName 7)) t__law_case_5)
def t__law_case_3 : MS := (mSeq (mAsg (mVar 1) (mgTup 4 (mgCons (mgName 3) (mgCons (mgName 4) (mgCons (mgName 5) (mgCons (mgName 6) mgNil)))))) t__law_case_4)
def t__law_case_2 : MS := (mSeq (mAsg (mCall 1 r__law_root (mCons (mVar 0) mNil)) (mgName 2)) t__law_case_3)
def r__law_case : MF := mDef backF 1 19 ((mSeq (mAsg (mCall 1 r__law_root (mCons (mVar 0) mNil)) (mgName 1)) t__law_case_2))
theorem ok__law_case (T : Top G.K mg G) : FnD P w G.K mg base G 6 "_law_case" 1 r__law_case := by
  exact def_e rfl (back := backF) (N := n__law_case) (ps := p__law_case) backF_ok T.f__law_case sc__law_case (fun _ _ _ _ _ _ us hl => match us, hl with | [_], _ => rfl) (fun f cdv A outer s H E hr W => ⟨_, (jss_cons (js_set (i := 1) sc__law_case.nd (je_call ((ok__law_root T).mono (by decide)) hr (ja_cons (je_var 0) ja_nil))) (jss_cons (js_set (i := 2) sc__law_case.nd (je_call ((ok__law_root T).mono (by decide)) hr (ja_cons (je_var 0) ja_nil))) (jss_cons (js_asg (je_var 1) (jg_tup (n := 4) rfl (jgs_cons (jg_name (i := 3) sc__law_case.nd) (jgs_cons (jg_name (i := 4) sc__law_case.nd) (jgs_cons (jg_name (i := 5) sc__law_case.nd) (jgs_cons (jg_name (i := 6) sc__law_case.nd) jgs_nil)))))) (jss_cons (js_set (i := 7) sc__law_case.nd (je_call ((ok__law_draw T).mono (by decide)) hr (ja_cons (je_var 0) (ja_cons je_int ja_nil)))) (jss_cons (js_set (i := 8) sc__law_case.nd je_int) (jss_cons (js_for rfl (ji_rng1 T.b_range (ja_cons (je_var 7) ja_nil)) (jg_name (i := 9) sc__law_case.nd) (jss_one (js_set (i := 8) sc__law_case.nd (je_op (op_mulA (by rfl)) s_mul je_int (je_var 8))))) (jss_cons (js_set (i := 10) sc__law_case.nd (je_call ((ok__law_floor T).mono (by decide)) hr (ja_cons (je_var 1) (ja_cons (je_var 8) ja_nil)))) (jss_cons (js_if (jt_cmp (op_neK (by rfl) hr.units) s_ne (je_call ((ok_floor_of T).mono (by decide)) hr (ja_cons (je_var 1) (ja_cons (je_var 7) ja_nil))) (je_var 10)) (jss_one (js_ret je_bl)) jss_nil) (jss_cons (js_for rfl (ji_any (je_lst (ja_cons (je_call ((ok__law_fr T).mono (by decide)) hr (ja_cons (je_var 10) (ja_cons (je_var 8) ja_nil))) (ja_cons (je_call ((ok__law_fr T).mono (by decide)) hr (ja_cons (je_op (op_addA (by rfl)) s_add (je_var 10) je_int) (ja_cons (je_var 8) ja_nil))) (ja_cons (je_call ((ok__law_fr T).mono (by decide)) hr (ja_cons (je_op (op_addA (by rfl)) s_add (je_op (op_mulA (by rfl)) s_mul je_int (je_var 10)) je_int) (ja_cons (je_op (op_mulA (by rfl)) s_mul je_int (je_var 8)) ja_nil))) (ja_cons (je_tup (ja_cons je_int (ja_cons je_int ja_nil))) (ja_cons (je_tup (ja_cons (je_neg je_int) (ja_cons je_int ja_nil))) (ja_cons (je_tup (ja_cons (je_op op_pow s_pow je_int je_int) (ja_cons je_int ja_nil))) ja_nil)))))))) (jg_name (i := 11) sc__law_case.nd) (jss_cons (js_set (i := 12) sc__law_case.nd (je_if (jt_cmp op_le s_cmp (je_ix (je_var 11) je_int) je_int) je_int (je_op op_sub s_sub je_int (je_call ((ok__law_sign T).mono (by decide)) hr (ja_cons (je_op (op_addA (by rfl)) s_add (je_op (op_addA (by rfl)) s_add (je_op (op_mulA (by rfl)) s_mul (je_op (op_mulA (by rfl)) s_mul (je_var 4) (je_ix (je_var 11) je_int)) (je_ix (je_var 11) je_int)) (je_op (op_mulA (by rfl)) s_mul (je_op (op_mulA (by rfl)) s_mul (je_var 5) (je_ix (je_var 11) je_int)) (je_ix (je_var 11) je_int))) (je_op (op_mulA (by rfl)) s_mul (je_op (op_mulA (by rfl)) s_mul (je_var 6) (je_ix (je_var 11) je_int)) (je_ix (je_var 11) je_int))) ja_nil))))) (jss_one (js_if (jt_cmp (op_neK (by rfl) hr.units) s_ne (je_call ((ok_compare T).mono (by decide)) hr (ja_cons (je_var 1) (ja_cons (je_var 11) ja_nil))) (je_var 12)) (jss_one (js_ret je_bl)) jss_nil)))) (jss_cons (js_set (i := 13) sc__law_case.nd (je_op (op_mulA (by rfl)) s_mul (je_op op_pow s_pow je_int je_int) (je_op op_pow s_pow je_int je_int))) (jss_cons (js_set (i := 12) sc__law_case.nd (je_call ((ok__law_sign T).mono (by decide)) hr (ja_cons (je_op op_sub s_sub (je_call ((ok__law_floor T).mono (by decide)) hr (ja_cons (je_var 1) (ja_cons (je_var 13) ja_nil))) (je_call ((ok__law_floor T).mono (by decide)) hr (ja_cons (je_var 2) (ja_cons (je_var 13) ja_nil)))) ja_nil))) (jss_cons (js_if ((jw_or (jt_cmp (op_neK (by rfl) hr.units) s_ne (je_call ((ok_order T).mono (by decide)) hr (ja_cons (je_var 1) (ja_cons (je_var 2) ja_nil))) (je_var 12)) (jw_or (jt_cmp (op_neK (by rfl) hr.units) s_ne (je_call ((ok_order T).mono (by decide)) hr (ja_cons (je_var 2) (ja_cons (je_var 1) ja_nil))) (je_op op_sub s_sub je_int (je_var 12))) (jw_or1 (jt_cmp (op_neK (by rfl) hr.units) s_ne (je_call ((ok_order T).mono (by decide)) hr (ja_cons (je_var 1) (ja_cons (je_var 1) ja_nil))) je_int))))).jt (jss_one (js_ret je_bl)) jss_nil) (jss_cons (js_set (i := 14) sc__law_case.nd (je_op op_sub s_sub (je_op (op_mulA (by rfl)) s_mul (je_var 5) (je_var 5)) (je_op (op_mulA (by rfl)) s_mul (je_op (op_mulA (by rfl)) s_mul je_int (je_var 4)) (je_var 6)))) (jss_cons (js_set (i := 15) sc__law_case.nd (je_call ((ok__law_floor T).mono (by decide)) hr (ja_cons (je_tup (ja_cons je_str (ja_cons je_int (ja_cons je_int (ja_cons (je_op op_sub s_sub je_int (je_var 14)) ja_nil))))) (ja_cons je_int ja_nil)))) (jss_cons (js_set (i := 16) sc__law_case.nd (je_if (jt_cmp (op_eqK (by rfl) hr.units) s_eq (je_op (op_mulA (by rfl)) s_mul (je_var 15) (je_var 15)) (je_var 14)) (je_call ((ok__law_fr T).mono (by decide)) hr (ja_cons (je_op op_sub s_sub (je_var 15) (je_var 5)) (ja_cons (je_op (op_mulA (by rfl)) s_mul je_int (je_var 4)) ja_nil))) je_non)) (jss_cons (js_if (jt_cmp (op_neK (by rfl) hr.units) s_ne (je_call ((ok_fraction_of T).mono (by decide)) hr (ja_cons (je_var 1) ja_nil)) (je_var 16)) (jss_one (js_ret je_bl)) jss_nil) (jss_cons (js_set (i := 17) sc__law_case.nd (je_lst (ja_cons je_non (ja_cons (je_tup (ja_cons je_str (ja_cons je_int (ja_cons je_int ja_nil)))) (ja_cons (je_tup (ja_cons je_str (ja_cons je_int (ja_cons je_int (ja_cons (je_neg je_int) ja_nil))))) (ja_cons (je_tup (ja_cons je_str (ja_cons je_int (ja_cons je_int (ja_cons (je_neg je_int) ja_nil))))) (ja_cons (je_tup (ja_cons je_str (ja_cons (je_neg je_int) (ja_cons je_int (ja_cons je_int ja_nil))))) (ja_cons (je_tup (ja_cons je_str (ja_cons je_int (ja_cons je_int (ja_cons je_int ja_nil))))) (ja_cons (je_tup (ja_cons je_str (ja_cons je_int (ja_cons je_int (ja_cons (je_neg je_int) ja_nil))))) (ja_cons (je_tup (ja_cons je_str (ja_cons je_int (ja_cons je_int (ja_cons je_int ja_nil))))) (ja_cons (je_tup (ja_cons je_str (ja_cons je_bl (ja_cons je_int (ja_cons (je_neg je_int) ja_nil))))) (ja_cons (je_tup (ja_cons je_str (ja_cons je_int (ja_cons je_non (ja_cons (je_neg je_int) ja_nil))))) ja_nil)))))))))))) (jss_cons (js_for rfl (ji_any (je_var 17)) (jg_name (i := 18) sc__law_case.nd) (jss_one (js_if (jt_cmp (op_neK (by rfl) hr.units) s_ne (je_lst (ja_cons (je_call ((ok__law_told T).mono (by decide)) hr (ja_cons (je_fn (ok_compare T)) (ja_cons (je_tup (ja_cons (je_var 18) (ja_cons (je_tup (ja_cons je_int (ja_cons je_int ja_nil))) ja_nil))) ja_nil))) (ja_cons (je_call ((ok__law_told T).mono (by decide)) hr (ja_cons (je_fn (ok_order T)) (ja_cons (je_tup (ja_cons (je_var 1) (ja_cons (je_var 18) ja_nil))) ja_nil))) (ja_cons (je_call ((ok__law_told T).mono (by decide)) hr (ja_cons (je_fn (ok_order T)) (ja_cons (je_tup (ja_cons (je_var 18) (ja_cons (je_var 1) ja_nil))) ja_nil))) (ja_cons (je_call ((ok__law_told T).mono (by decide)) hr (ja_cons (je_fn (ok_floor_of T)) (ja_cons (je_tup (ja_cons (je_var 18) (ja_cons je_int ja_nil))) ja_nil))) (ja_cons (je_call ((ok__law_told T).mono (by decide)) hr (ja_cons (je_fn (ok_fraction_of T)) (ja_cons (je_tup (ja_cons (je_var 18) ja_nil)) ja_nil))) ja_nil)))))) (je_op (op_mulA (by rfl)) s_mul (je_lst (ja_cons je_str ja_nil)) je_int)) (jss_one (js_ret je_bl)) jss_nil))) (jss_cons (js_if (jt_cmp (op_neK (by rfl) hr.units) s_ne (je_lc rfl (own := [("odd", 17)]) sc__law_case.nd (ji_any (je_lst (ja_cons je_non (ja_cons (je_tup (ja_cons je_int (ja_cons je_int ja_nil))) (ja_cons je_int (ja_cons (je_tup (ja_cons je_int (ja_cons je_int ja_nil))) ja_nil)))))) (blkOk_by (N := n__law_case) (sc := defScope s__law_case) (by decide +kernel)) (keeps_name (by decide)) (fun _ _ _ _ _ => (jg_name (i := 17) sc__law_case.nd)) (fun _ _ _ _ _ => jts_nil) (fun _ _ _ _ _ => (je_call ((ok__law_told T).mono (by decide)) hr (ja_cons (je_fn (ok_compare T)) (ja_cons (je_tup (ja_cons (je_var 1) (ja_cons (je_var 17) ja_nil))) ja_nil))))) (je_op (op_mulA (by rfl)) s_mul (je_lst (ja_cons je_str ja_nil)) je_int)) (jss_one (js_ret je_bl)) jss_nil) (jss_one (js_ret (je_cmp (op_eqK (by rfl) hr.units) s_eq (je_lc rfl (own := [("odd", 17)]) sc__law_case.nd (ji_any (je_lst (ja_cons (je_neg je_int) (ja_cons je_int (ja_cons je_non (ja_cons je_bl ja_nil)))))) (blkOk_by (N := n__law_case) (sc := defScope s__law_case) (by decide +kernel)) (keeps_name (by decide)) (fun _ _ _ _ _ => (jg_name (i := 17) sc__law_case.nd)) (fun _ _ _ _ _ => jts_nil) (fun _ _ _ _ _ => (je_call ((ok__law_told T).mono (by decide)) hr (ja_cons (je_fn (ok_floor_of T)) (ja_cons (je_tup (ja_cons (je_var 1) (ja_cons (je_var 17) ja_nil))) ja_nil))))) (je_op (op_mulA (by rfl)) s_mul (je_lst (ja_cons je_str ja_nil)) je_int)))))))))))))))))))))))⟩)
/-- _law_bag(script, k) -/
def r__law_bag : MF := mDef backT 2 3 ((mSeq (mAsg (mC (.int 0)) (mgName 2)) (mSeq (mIfS (mTest (mOp ltD (mVar 1) (mCB lenF (mCons (mVar 0) mNil)))) (mAsg (mCB intF (mCons (mOp ixD (mVar 0) (mVar 1)) mNil)) (mgName 2)) mNext) (mSeq (mIfS (mTest (mOp geD (mVar 2) (mOp powD (mC (.int 10)) (mC (.int 18))))) (mRet (mNew (mCons (mVar 2) (mCons (mVar 2) (mCons (mVar 1) mNil))))) mNext) (mRet (mNew (mCons (mC (.int 0)) (mCons (mVar 2) (mCons (mVar 1) mNil)))))))))
theorem ok__law_bag (T : Top G.K mg G) : FnD P w G.K mg base G 1 "_law_bag" 2 r__law_bag := by
  exact def_e rfl (back := backT) (N := n__law_bag) (ps := p__law_bag) backT_ok T.f__law_bag sc__law_bag (fun _ _ _ _ _ _ us hl => match us, hl with | [_, _], _ => rfl) (fun f cdv A outer s H E hr W => ⟨_, (jss_cons (js_set (i := 2) sc__law_bag.nd je_int) (jss_cons (js_if (jt_cmp op_lt s_cmp (je_var 1) (je_cb (call_lenA (by rfl)) sc_len T.b_len (ja_cons (je_var 0) ja_nil))) (jss_one (js_set (i := 2) sc__law_bag.nd (je_ct call_int1 sc_int T.b_int (ja_cons (je_ix (je_var 0) (je_var 1)) ja_nil)))) jss_nil) (jss_cons (js_if (jt_cmp op_ge s_cmp (je_var 2) (je_op op_pow s_pow je_int je_int)) (jss_one (js_ret (je_new (ja_cons (je_var 2) (ja_cons (je_var 2) (ja_cons (je_var 1) ja_nil)))))) jss_nil) (jss_one (js_ret (je_new (ja_cons je_int (ja_cons (je_var 2) (ja_cons (je_var 1) ja_nil)))))))))⟩)
/-- law(script) -/
def b_law_4 : MS := (mIfS (mNot (mTest (mCall 1 r__law_case (mCons (mCall 2 r__law_bag (mCons (mVar 0) (mCons (mVar 2) mNil))) mNil)))) (mRet (mC (.bl false))) mNext)
def l_law_4 : MS := (mFor (mRng1 (mCons (mCB min2F (mCons (mCB max2F (mCons (mCB lenF (mCons (mVar 0) mNil)) (mCons (mC (.int 1)) mNil))) (mCons (mC (.int 5)) mNil))) mNil)) (mgName 2) b_law_4)
def t_law_7 : MS := (mRet (mC (.bl true)))
def t_law_4 : MS := (mSeq l_law_4 t_law_7)
def t_law_2 : MS := (mSeq (mIfS (mOr (mTest (mOp neD (mCall 2 r_floor_of (mCons (mVar 1) (mCons (mC (.int 10)) mNil))) (mC (.int 16180339887)))) (mOr (mTest (mOp notND (mCall 1 r_fraction_of (mCons (mVar 1) mNil)) (mC .non))) (mOr (mTest (mOp neD (mCall 1 r_fraction_of (mCons (mTup (mCons (mC (.str "root")) (mCons (mC (.int 1)) (mCons (mC (.int 1)) (mCons (mUn negD (mC (.int 6))) mNil))))) mNil)) (mTup (mCons (mC (.int 2)) (mCons (mC (.int 1)) mNil))))) (mTest (mOp neD (mCall 2 r_order (mCons (mTup (mCons (mC (.str "root")) (mCons (mC (.int 1)) (mCons (mC (.int 1)) (mCons (mUn negD (mC (.int 6))) mNil))))) (mCons (mTup (mCons (mC (.str "root")) (mCons (mC (.int 1)) (mCons (mC (.int 2)) (mCons (mUn negD (mC (.int 8))) mNil))))) mNil))) (mC (.int 0))))))) (mRet (mC (.bl false))) mNext) t_law_4)
def r_law : MF := mDef backF 1 3 ((mSeq (mAsg (mTup (mCons (mC (.str "root")) (mCons (mC (.int 1)) (mCons (mUn negD (mC (.int 1))) (mCons (mUn negD (mC (.int 1))) mNil))))) (mgName 1)) t_law_2))
theorem fn_law (T : Top G.K mg G) {f : Addr} {fd : FuncData} (F : Fun G.K "law" "law" s_law f fd) : FnOk P w G.K mg base (L2.CX P w) 7 f fd p_law (spD G G.K 1 r_law) :=
  def_fn rfl (back := backF) (N := n_law) (ps := p_law) backF_ok F sc_law (fun cdv A outer s H E hr W => ⟨_, (jss_cons (js_set (i := 1) sc_law.nd (je_tup (ja_cons je_str (ja_cons je_int (ja_cons (je_neg je_int) (ja_cons (je_neg je_int) ja_nil)))))) (jss_cons (js_if ((jw_or (jt_cmp (op_neK (by rfl) hr.units) s_ne (je_call ((ok_floor_of T).mono (by decide)) hr (ja_cons (je_var 1) (ja_cons je_int ja_nil))) je_int) (jw_or (jt_cmp op_notN s_notN (je_call ((ok_fraction_of T).mono (by decide)) hr (ja_cons (je_var 1) ja_nil)) je_non) (jw_or (jt_cmp (op_neK (by rfl) hr.units) s_ne (je_call ((ok_fraction_of T).mono (by decide)) hr (ja_cons (je_tup (ja_cons je_str (ja_cons je_int (ja_cons je_int (ja_cons (je_neg je_int) ja_nil))))) ja_nil)) (je_tup (ja_cons je_int (ja_cons je_int ja_nil)))) (jw_or1 (jt_cmp (op_neK (by rfl) hr.units) s_ne (je_call ((ok_order T).mono (by decide)) hr (ja_cons (je_tup (ja_cons je_str (ja_cons je_int (ja_cons je_int (ja_cons (je_neg je_int) ja_nil))))) (ja_cons (je_tup (ja_cons je_str (ja_cons je_int (ja_cons je_int (ja_cons (je_neg je_int) ja_nil))))) ja_nil))) je_int)))))).jt (jss_one (js_ret je_bl)) jss_nil) (jss_cons (js_for rfl (ji_rng1 T.b_range (ja_cons (je_cb (call_min2 rfl) sc_min2 T.b_min (ja_cons (je_cb (call_max2 rfl) sc_max2 T.b_max (ja_cons (je_cb (call_lenA (by rfl)) sc_len T.b_len (ja_cons (je_var 0) ja_nil)) (ja_cons je_int ja_nil))) (ja_cons je_int ja_nil))) ja_nil)) (jg_name (i := 2) sc_law.nd) (jss_one (js_if (jt_not (jt_val (je_call ((ok__law_case T).mono (by decide)) hr (ja_cons (je_call ((ok__law_bag T).mono (by decide)) hr (ja_cons (je_var 0) (ja_cons (je_var 2) ja_nil))) ja_nil)))) (jss_one (js_ret je_bl)) jss_nil))) (jss_one (js_ret je_bl)))))⟩)
end
end
end K70


namespace K70
open PySem PySem.Spec PyProof.Rows L2 DL
local macro_rules | `(tactic| walk_at "sem1") => `(tactic| (simp only [mDef, mSeq, mRet, mRetN, mNext, mIfS, mAsg, mExpr, mPar, mPar3, toOut, mOp, mUn, mVar, mC, mTest, mCall, mCons, mNil, mgName, mgTup, mgCons, mgNil, mgSub, noEx, outR, mCB, mTup, mLst, mIsi, mAnd, mOr, mNot, mAndV, mOrV, mNotV, mIf, mChain, mRaise, mPart, mNoPart, mSl, mYes,
  R.bind_ok, R.bind_ex, R.bind_stuck, List.length_cons, List.length_nil, List.map_cons, List.map_nil, List.replicate_zero, List.replicate_succ, List.cons_append, List.nil_append, List.append_nil, List.getElem?_cons_zero, List.getElem?_cons_succ, List.set_cons_zero, List.set_cons_succ, Nat.sub_self, Nat.add_one_sub_one, Nat.reduceAdd, Nat.reduceSub, Nat.reduceLeDiff, if_true, if_false, reduceIte, backT, backF,
  eqD_int, neD_int, addD_int, subD, cmpD, negD, absF, intF, max2F, min2F, modD, bne_iff_ne, Bool.not_true, Bool.not_false, beq_self_eq_true]))
local macro_rules | `(tactic| walk_at "sem") => `(tactic| (repeat walk_at "sem1"))
/-! ### the program's fractions -/
theorem common_ok (p q : Int) (s : Sto) : r_common [.int p, .int q] s = .ok (.int (Int.gcd p q : Nat)) s := by
  unfold r_common
  obtain ⟨g, h1, _, h3⟩ := euclid_while (i := 0) (j := 1) (by decide) q.natAbs p q [some (.int p), some (.int q)] s (Nat.le_refl _) rfl rfl
  walk_at "sem"
  rw [h3]
  walk_at "sem"
  have e : (if g < 0 then -g else g) = ((Int.gcd p q : Nat) : Int) := by split <;> omega
  rw [e]
theorem gcd_small {p q : Int} {N : Nat} (hq : q.natAbs < 2 ^ N) (h0 : q ≠ 0) : ((Int.gcd p q : Nat) : Int) ≠ 0 ∧ ((Int.gcd p q : Nat) : Int).natAbs < 2 ^ N := by
  have h1 : 0 < Int.gcd p q := Int.gcd_pos_of_ne_zero_right _ h0
  have h2 : Int.gcd p q ≤ q.natAbs := Int.gcd_le_natAbs_right _ h0
  omega
theorem fraction_ok {p q : Int} {N : Nat} (s : Sto) (hq : q.natAbs < 2 ^ N) (h0 : q ≠ 0) (hN : 0 < N) (h9 : N ≤ 9000) : r_fraction [.int p, .int q] s = .ok (fr (Rat.divInt p q)) s := by
  have pos : ∀ {p q : Int}, q.natAbs < 2 ^ N → 0 < q → (fdivD (.int p) (.int (Int.gcd p q : Nat)) s).bind (fun d s1 => (fdivD (.int q) (.int (Int.gcd p q : Nat)) s1).bind fun e s2 => .ok [d, e] s2) = .ok [.int (Rat.divInt p q).num, .int (Rat.divInt p q).den] s := fun {p q} hq h0 => by
    obtain ⟨g0, g1⟩ := gcd_small (p := p) hq (by omega)
    have hd := divOk_of g0 g1 hN h9
    simp only [fdivD, hd, if_true, R.bind_ok]
    rw [divInt_num h0, divInt_den h0]
  unfold r_fraction
  walk_at "sem"
  have e0 : (q == 0) = false := by simp [h0]
  rw [e0]
  walk_at "sem"
  by_cases hneg : q < 0
  · have e1 : decide (q < 0) = true := by simp [hneg]
    rw [e1]
    walk_at "sem"
    rw [common_ok]
    walk_at "sem"
    have k := pos (p := -p) (q := -q) (by rw [Int.natAbs_neg]; exact hq) (by omega)
    rw [Rat.neg_divInt_neg] at k
    obtain ⟨g0, g1⟩ := gcd_small (p := -p) (q := -q) (N := N) (by rw [Int.natAbs_neg]; exact hq) (by omega)
    have hd := divOk_of g0 g1 hN h9
    simp only [fdivD, hd, if_true, R.bind_ok] at k ⊢
    injection k with k1 k2
    simp only [List.cons.injEq, D.int.injEq, and_true] at k1
    rw [k1.1, k1.2]
    walk_at "sem"
    rfl
  · have e1 : decide (q < 0) = false := by simp [hneg]
    rw [e1]
    walk_at "sem"
    rw [common_ok]
    walk_at "sem"
    have k := pos (p := p) (q := q) hq (by omega)
    obtain ⟨g0, g1⟩ := gcd_small (p := p) (q := q) (N := N) hq (by omega)
    have hd := divOk_of g0 g1 hN h9
    simp only [fdivD, hd, if_true, R.bind_ok] at k ⊢
    injection k with k1 k2
    simp only [List.cons.injEq, D.int.injEq, and_true] at k1
    rw [k1.1, k1.2]
    walk_at "sem"
    rfl

theorem ix0 (x : Rat) (s : Sto) : ixD (fr x) (.int 0) s = .ok (.int x.num) s := rfl
theorem ix1 (x : Rat) (s : Sto) : ixD (fr x) (.int 1) s = .ok (.int (x.den : Int)) s := rfl
theorem mulD_of {i j : Int} {a b : Nat} (s : Sto) (ha : i.natAbs < 2 ^ a) (hb : j.natAbs < 2 ^ b) (h0 : 0 < a) (h1 : 0 < b) (h : a + b ≤ 1000000) : mulD (.int i) (.int j) s = .ok (.int (i * j)) s := by
  simp only [mulD, mulOk_of ha hb h0 h1 h, if_true]
theorem den_mul_ne (x y : Rat) : (x.den : Int) * (y.den : Int) ≠ 0 := by
  have h1 := x.den_nz
  have h2 := y.den_nz
  exact Int.mul_ne_zero (by omega) (by omega)
theorem sign_ok (x : Rat) (s : Sto) : r_sign [fr x] s = .ok (.int (x.num.sign)) s := by
  unfold r_sign
  walk_at "sem"
  simp only [ix0, R.bind_ok]
  walk_at "sem"
  rcases Int.lt_trichotomy x.num 0 with h | h | h
  · rw [decide_eq_false (show ¬ (0 < x.num) by omega), decide_eq_true h, Int.sign_eq_neg_one_of_neg h]; rfl
  · rw [h]; rfl
  · rw [decide_eq_true h, decide_eq_false (show ¬ (x.num < 0) by omega), Int.sign_eq_one_of_pos h]; rfl
theorem num_ne {y : Rat} (h : y ≠ 0) : y.num ≠ 0 := fun e => h (Rat.num_eq_zero.mp e)
theorem den_ne (x : Rat) : (x.den : Int) ≠ 0 := by have := x.den_nz; omega
/-! ### the law's fractions -/
theorem lfr_ok {p q : Int} {N : Nat} (s : Sto) (hq : q.natAbs < 2 ^ N) (h0 : q ≠ 0) (hN : 0 < N) (h9 : N ≤ 9000) : r__law_fr [.int p, .int q] s = .ok (fr (Rat.divInt p q)) s := by
  obtain ⟨g, h1, h2, h3⟩ := euclid_while (i := 2) (j := 3) (by decide) (if q < 0 then -q else q).natAbs (if p < 0 then -p else p) (if q < 0 then -q else q) [some (.int p), some (.int q), some (.int (if p < 0 then -p else p)), some (.int (if q < 0 then -q else q))] s (Nat.le_refl _) rfl rfl
  have hg0 : 0 ≤ g := h2 (by split <;> omega) (by split <;> omega)
  have hgcd : g = ((Int.gcd p q : Nat) : Int) := by
    have e : Int.gcd (if p < 0 then -p else p) (if q < 0 then -q else q) = Int.gcd p q := by
      unfold Int.gcd
      have e1 : (if p < 0 then -p else p).natAbs = p.natAbs := by split <;> omega
      have e2 : (if q < 0 then -q else q).natAbs = q.natAbs := by split <;> omega
      rw [e1, e2]
    omega
  subst hgcd
  obtain ⟨g0, g1⟩ := gcd_small (p := p) hq h0
  unfold r__law_fr
  walk_at "sem"
  rw [h3]
  walk_at "sem"
  by_cases hneg : q < 0
  · have e1 : decide (q < 0) = true := by simp [hneg]
    rw [e1]
    walk_at "sem"
    have hd : divOk (0 - ((Int.gcd p q : Nat) : Int)) = true := divOk_of (by omega) (show (0 - ((Int.gcd p q : Nat) : Int)).natAbs < 2 ^ N by omega) hN h9
    simp only [fdivD, hd, if_true, R.bind_ok]
    walk_at "sem"
    have ep : p.fdiv (0 - ((Int.gcd p q : Nat) : Int)) = (Rat.divInt p q).num := by
      rw [← Rat.neg_divInt_neg, divInt_num (by omega), Int.zero_sub, Int.neg_gcd, Int.gcd_neg, Int.fdiv_eq_ediv_of_dvd (by rw [Int.neg_dvd]; exact Int.gcd_dvd_left ..), Int.fdiv_eq_ediv_of_nonneg _ (by omega), Int.ediv_neg, Int.neg_ediv_of_dvd (Int.gcd_dvd_left ..)]
    have eq : q.fdiv (0 - ((Int.gcd p q : Nat) : Int)) = ((Rat.divInt p q).den : Int) := by
      rw [← Rat.neg_divInt_neg, divInt_den (by omega), Int.zero_sub, Int.neg_gcd, Int.gcd_neg, Int.fdiv_eq_ediv_of_dvd (by rw [Int.neg_dvd]; exact Int.gcd_dvd_right ..), Int.fdiv_eq_ediv_of_nonneg _ (by omega), Int.ediv_neg, Int.neg_ediv_of_dvd (Int.gcd_dvd_right ..)]
    rw [ep, eq]
    rfl
  · have e1 : decide (q < 0) = false := by simp [hneg]
    rw [e1]
    walk_at "sem"
    have hd := divOk_of g0 g1 hN h9
    simp only [fdivD, hd, if_true, R.bind_ok]
    walk_at "sem"
    rw [← divInt_num (by omega), ← divInt_den (by omega)]
    rfl
theorem draw_ok {s : Sto} {n : Nat} (h : BagAt s n) {many : Int} (h0 : 0 < many) (h1 : many < 2 ^ 62) :
    ∃ (r : Int) (s' : Sto), r__law_draw [.ref n, .int many] s = .ok (.int r) s' ∧ 0 ≤ r ∧ r < many ∧ Drew s s' n := by
  obtain ⟨a, b, c, hb, hc⟩ := h
  have hn : n < s.length := (List.getElem?_eq_some_iff.mp hb).1
  have hd : divOk many = true := divOk_of (b := 62) (by omega) (by omega) (by decide) (by decide)
  have st : ∀ (s : Sto) (x y z v : D), s[n]? = some (.lst [x, y, z]) → setD (.ref n) (.int 0) v s = .ok () (s.set n (.lst [v, y, z])) := fun s x y z v h1 => by
    simp only [setD, h1]; rfl
  have st1 : ∀ (s : Sto) (x y z v : D), s[n]? = some (.lst [x, y, z]) → setD (.ref n) (.int 1) v s = .ok () (s.set n (.lst [x, v, z])) := fun s x y z v h1 => by
    simp only [setD, h1]; rfl
  -- what comes behind the seed
  have tail : ∀ (s : Sto) (x y z : Int) (l2 : Option D), s[n]? = some (.lst [.int x, .int y, .int z]) → z.natAbs < 2 ^ 64 →
      ∃ (r : Int) (s' : Sto), outR (mSeq (mAsg (mOp ixD (mVar 0) (mC (.int 0))) (mgName 3)) (mSeq (mAsg (mOp fdivD (mVar 3) (mVar 1)) (mgSub setD (mVar 0) (mC (.int 0)))) (mRet (mOp modD (mCB intF (mCons (mVar 3) mNil)) (mVar 1)))) [some (.ref n), some (.int many), l2, none] s) = .ok (.int r) s' ∧ 0 ≤ r ∧ r < many ∧ Drew s s' n := fun s x y z l2 h1 hz => by
    refine ⟨x.fmod many, s.set n (.lst [.int (x.fdiv many), .int y, .int z]), ?_, Int.fmod_nonneg_of_pos x h0, Int.fmod_lt_of_pos x h0, _, _, _, rfl, hz⟩
    walk_at "sem"
    rw [ixAt (k := 0) (v := .int x) h1 rfl]
    walk_at "sem"
    simp only [fdivD, hd, if_true, R.bind_ok, mgSub]
    walk_at "sem"
    rw [st s _ _ _ _ h1]
    walk_at "sem"
    rw [if_neg (by omega)]
    walk_at "sem"
  have len : ∀ (r : Int) (s' : Sto), Drew s s' n → backF s.length (.ok (.int r) s') = .ok (.int r) s' := fun r s' hd => by
    simp only [backF, hd.len, if_true]
  have e48 : mulOk b 48271 = true := mulOk_r (by decide)
  have e69 : mulOk c 69621 = true := mulOk_r (by decide)
  have e16 : mulOk c 16807 = true := mulOk_r (by decide)
  have i0 := ixAt (k := 0) (v := .int a) hb rfl
  have i1 := ixAt (k := 1) (v := .int b) hb rfl
  have i2 := ixAt (k := 2) (v := .int c) hb rfl
  unfold r__law_draw
  simp only [mDef, List.length_cons, List.length_nil, Nat.reduceAdd, if_true, List.map_cons, List.map_nil, Nat.reduceSub, List.replicate_succ, List.replicate_zero, List.cons_append, List.nil_append]
  by_cases ha : a = 0
  · subst ha
    obtain ⟨r, s', h2, h3, h4, h5⟩ := tail (s.set n (.lst [.int ((b * 48271 + c * 69621 + 11).fmod 2147483647 * 2147483629 + ((b * 48271 + c * 69621 + 11).fmod 2147483647 * (b * 48271 + c * 69621 + 11).fmod 2147483647 + c * 16807).fmod 2147483629), .int ((b * 48271 + c * 69621 + 11).fmod 2147483647), .int c])) _ _ _ (some (.int ((b * 48271 + c * 69621 + 11).fmod 2147483647))) (by rw [List.getElem?_set_self hn]) hc
    have d5 : Drew s s' n := by
      obtain ⟨x, y, z, e, hz⟩ := h5
      exact ⟨x, y, z, by rw [e, List.set_set], hz⟩
    refine ⟨r, s', ?_, h3, h4, d5⟩
    rw [← len r s' d5, ← h2]
    congr 1
    congr 1
    conv => lhs; rw [mSeq]
    have hs1 := Int.fmod_nonneg_of_pos (b * 48271 + c * 69621 + 11) (show (0 : Int) < 2147483647 by decide)
    have hs2 := Int.fmod_lt_of_pos (b * 48271 + c * 69621 + 11) (show (0 : Int) < 2147483647 by decide)
    have eA : mulOk ((b * 48271 + c * 69621 + 11).fmod 2147483647) 2147483629 = true := mulOk_r (by decide)
    have eB : mulOk ((b * 48271 + c * 69621 + 11).fmod 2147483647) ((b * 48271 + c * 69621 + 11).fmod 2147483647) = true := mulOk_l (by omega)
    generalize mSeq (mAsg (mOp ixD (mVar 0) (mC (.int 0))) (mgName 3)) (mSeq (mAsg (mOp fdivD (mVar 3) (mVar 1)) (mgSub setD (mVar 0) (mC (.int 0)))) (mRet (mOp modD (mCB intF (mCons (mVar 3) mNil)) (mVar 1)))) = rest
    repeat (first | walk_at "sem1" | simp only [i0, i1, i2, mulD, e48, e69, e16, eA, eB, (by decide : ¬ ((2147483647 : Int) = 0)), (by decide : ¬ ((2147483629 : Int) = 0))])
    rw [st s _ _ _ _ hb]
    walk_at "sem"
    rw [st1 _ _ _ _ _ (by rw [List.getElem?_set_self hn])]
    walk_at "sem"
    rw [List.set_set]
  · obtain ⟨r, s', h2, h3, h4, h5⟩ := tail s a b c none hb hc
    refine ⟨r, s', ?_, h3, h4, h5⟩
    rw [← len r s' h5, ← h2]
    congr 1
    congr 1
    conv => lhs; rw [mSeq]
    generalize mSeq (mAsg (mOp ixD (mVar 0) (mC (.int 0))) (mgName 3)) (mSeq (mAsg (mOp fdivD (mVar 3) (mVar 1)) (mgSub setD (mVar 0) (mC (.int 0)))) (mRet (mOp modD (mCB intF (mCons (mVar 3) mNil)) (mVar 1)))) = rest
    have e0 : (a == 0) = false := by simp [ha]
    repeat (first | walk_at "sem1" | simp only [i0, e0])
/-! ### roots, plainly -/
structure Rt where
  a : Int
  b : Int
  c : Int
def fx (r : Rt) (x : Rat) : Rat := r.a * x * x + r.b * x + r.c
structure OkR (r : Rt) : Prop where
  a0 : 1 ≤ r.a
  a1 : r.a ≤ 60
  b0 : -30 ≤ r.b
  b1 : r.b ≤ 30
  c0 : -60 ≤ r.c
  c1 : r.c ≤ -1
theorem rat_mul_nonneg {x y : Rat} (hx : 0 ≤ x) (hy : 0 ≤ y) : 0 ≤ x * y := Rat.mul_nonneg hx hy
theorem cast_le {a b : Int} (h : a ≤ b) : (a : Rat) ≤ (b : Rat) := Rat.intCast_le_intCast.mpr h
theorem cast_lt {a b : Int} (h : a < b) : (a : Rat) < (b : Rat) := Rat.intCast_lt_intCast.mpr h
theorem fx_mono {r : Rt} (ha : 1 ≤ r.a) (hc : r.c ≤ -1) {x y : Rat} (hy : 0 ≤ y) (hxy : y < x) (hf : fx r x ≤ 0) : fx r y < 0 := by
  have h1 : (1 : Rat) ≤ r.a := cast_le ha
  have h2 : (r.c : Rat) ≤ -1 := cast_le hc
  have hx : 0 < x := by grind
  have key : x * fx r y = y * fx r x + (x - y) * (r.c - r.a * (x * y)) := by unfold fx; grind
  have h3 : 0 ≤ x * y := rat_mul_nonneg (by grind) hy
  have h4 : 0 ≤ (r.a : Rat) * (x * y) := rat_mul_nonneg (by grind) h3
  have h5 : y * fx r x ≤ 0 := by
    have := rat_mul_nonneg hy (show 0 ≤ -fx r x by grind)
    grind
  have h6 : 0 < (x - y) * -(r.c - r.a * (x * y)) := Rat.mul_pos (by grind) (by grind)
  have h7 : x * fx r y < 0 := by grind
  rcases (show fx r y < 0 ∨ 0 ≤ fx r y by grind) with h | h
  · exact h
  · have := rat_mul_nonneg (show 0 ≤ x by grind) h
    grind
/-- t is the floor of the root times S -/
structure Flo (r : Rt) (S : Rat) (t : Int) : Prop where
  nn : 0 ≤ t
  lo : fx r (t / S) ≤ 0
  hi : 0 < fx r ((t + 1) / S)
theorem div_le {a b S : Rat} (hS : 0 < S) (h : a ≤ b) : a / S ≤ b / S := by
  have h2 : 0 < S⁻¹ := Rat.inv_pos.mpr hS
  have := rat_mul_nonneg (show 0 ≤ b - a by grind) (Rat.le_of_lt h2)
  rw [Rat.div_def, Rat.div_def]
  grind
theorem div_lt {a b S : Rat} (hS : 0 < S) (h : a < b) : a / S < b / S := by
  have h2 : 0 < S⁻¹ := Rat.inv_pos.mpr hS
  have := Rat.mul_pos (show 0 < b - a by grind) h2
  rw [Rat.div_def, Rat.div_def]
  grind
theorem div_nn {a S : Rat} (hS : 0 < S) (h : 0 ≤ a) : 0 ≤ a / S := by
  rw [Rat.div_def]
  exact rat_mul_nonneg h (Rat.le_of_lt (Rat.inv_pos.mpr hS))
theorem Flo.le {r r' : Rt} {S : Rat} (hS : 0 < S) (ha : 1 ≤ r'.a) (hc : r'.c ≤ -1) {t t' : Int} (h : Flo r S t) (h' : Flo r' S t') (hle : fx r' (t / S) ≤ 0) : t ≤ t' := by
  rcases Int.lt_or_le t' t with hlt | hlt
  · exfalso
    have h1 : (t' : Rat) + 1 ≤ t := by
      have := cast_le (show t' + 1 ≤ t by omega)
      rw [Rat.intCast_add] at this
      exact this
    have h2 := div_le hS h1
    have h3 := h'.hi
    have h4 : 0 ≤ ((t' : Rat) + 1) / S := div_nn hS (by have := cast_le h'.nn; grind)
    by_cases e : ((t' : Rat) + 1) / S = (t : Rat) / S
    · rw [e] at h3; grind
    · have := fx_mono ha hc h4 (show ((t' : Rat) + 1) / S < (t : Rat) / S by grind) hle
      grind
  · exact hlt
theorem Flo.uniq {r : Rt} {S : Rat} (hS : 0 < S) (ha : 1 ≤ r.a) (hc : r.c ≤ -1) {t t' : Int} (h : Flo r S t) (h' : Flo r S t') : t = t' := by
  have h1 := Flo.le hS ha hc h h' h.lo
  have h2 := Flo.le hS ha hc h' h h'.lo
  omega
theorem fx_sub (r : Rt) (x y : Rat) : fx r x - fx r y = (x - y) * (r.a * (x + y) + r.b) := by unfold fx; grind
/-- roots are below 100 -/
theorem fx_big {r : Rt} (h : OkR r) {x : Rat} (hx : 99 ≤ x) : 0 < fx r x := by
  have h1 : (1 : Rat) ≤ r.a := cast_le h.a0
  have h2 : (-30 : Rat) ≤ r.b := cast_le h.b0
  have h3 : (-60 : Rat) ≤ r.c := cast_le h.c0
  have h4 := rat_mul_nonneg (show 0 ≤ (r.a : Rat) - 1 by grind) (rat_mul_nonneg (show 0 ≤ x by grind) (show 0 ≤ x by grind))
  have h5 := rat_mul_nonneg (show 0 ≤ (r.b : Rat) + 30 by grind) (show 0 ≤ x by grind)
  have h6 := rat_mul_nonneg (show 0 ≤ x - 99 by grind) (show 0 ≤ x by grind)
  unfold fx
  grind
theorem Flo.small {r : Rt} (h : OkR r) {S : Rat} (hS : 0 < S) {t : Int} (f : Flo r S t) : (t : Rat) / S < 99 ∧ 0 ≤ (t : Rat) / S := by
  refine ⟨?_, div_nn hS (by have := cast_le f.nn; grind)⟩
  rcases (show (t : Rat) / S < 99 ∨ 99 ≤ (t : Rat) / S by grind) with h1 | h1
  · exact h1
  · have := fx_big h h1
    have := f.lo
    grind
/-- near the floor the value is small -/
theorem near {r : Rt} (h : OkR r) {x d : Rat} (hx0 : -1 ≤ x) (hx : x ≤ 200) {y : Rat} (hy0 : -1 ≤ y) (hy : y ≤ 200) (h1 : y - x ≤ d) (h2 : x - y ≤ d) : fx r x - fx r y ≤ 30000 * d ∧ fx r y - fx r x ≤ 30000 * d := by
  have a1 : (1 : Rat) ≤ r.a := cast_le h.a0
  have a2 : (r.a : Rat) ≤ 60 := cast_le h.a1
  have b1 : (-30 : Rat) ≤ r.b := cast_le h.b0
  have b2 : (r.b : Rat) ≤ 30 := cast_le h.b1
  have e := fx_sub r x y
  have u1 := rat_mul_nonneg (show 0 ≤ (60 : Rat) - r.a by grind) (show 0 ≤ x + y + 2 by grind)
  have u2 := rat_mul_nonneg (show 0 ≤ (r.a : Rat) by grind) (show 0 ≤ x + y + 2 by grind)
  have k1 : r.a * (x + y) + r.b ≤ 30000 := by grind
  have k2 : -30000 ≤ r.a * (x + y) + r.b := by grind
  have w1 := rat_mul_nonneg (show 0 ≤ d - (x - y) by grind) (show 0 ≤ 30000 - (r.a * (x + y) + r.b) by grind)
  have w2 := rat_mul_nonneg (show 0 ≤ d + (x - y) by grind) (show 0 ≤ 30000 - (r.a * (x + y) + r.b) by grind)
  have w3 := rat_mul_nonneg (show 0 ≤ d - (x - y) by grind) (show 0 ≤ 30000 + (r.a * (x + y) + r.b) by grind)
  have w4 := rat_mul_nonneg (show 0 ≤ d + (x - y) by grind) (show 0 ≤ 30000 + (r.a * (x + y) + r.b) by grind)
  rw [e, show fx r y - fx r x = -(fx r x - fx r y) by grind, e]
  grind
theorem step_eq {S : Rat} (hS : 0 < S) (t : Rat) : (t + 1) / S = t / S + 1 / S := by
  rw [Rat.div_def, Rat.div_def, Rat.div_def]; grind
theorem Flo.fine {r : Rt} (h : OkR r) {S : Rat} (hS : 1 ≤ S) {t : Int} (f : Flo r S t) : -(30000 * (1 / S)) ≤ fx r (t / S) ∧ fx r (t / S) ≤ 0 := by
  have hS0 : 0 < S := by grind
  obtain ⟨s1, s2⟩ := f.small h hS0
  have e := step_eq hS0 t
  have i0 : 0 ≤ 1 / S := div_nn hS0 (by decide)
  have i1 : 1 / S ≤ 1 := by
    have := div_le hS0 hS
    rwa [show S / S = 1 by grind] at this
  have hi := f.hi
  rw [e] at hi
  have := (near h (x := t / S + 1 / S) (d := 1 / S) (by grind) (by grind) (y := t / S) (by grind) (by grind) (by grind) (by grind)).1
  have := f.lo
  grind
def sg (x : Rat) : Int := if x < 0 then -1 else if 0 < x then 1 else 0
/-- -1, 0, 1 as the root is less than x, equal, greater -/
def cmpR (r : Rt) (x : Rat) : Int := if x ≤ 0 then 1 else -sg (fx r x)
def gapS : Rat := 10 ^ 80
theorem gapS_pos : 1 ≤ gapS := by decide +kernel
/-- the root of r' is the fraction x -/
theorem ord_frac {r r' : Rt} (h : OkR r) (h' : OkR r') {x : Rat} (hx : 0 < x) (h0 : fx r' x = 0) {e : Rat} (he : 1 / 10 ^ 20 ≤ e) (hne : fx r x = 0 ∨ e ≤ fx r x ∨ fx r x ≤ -e) {t t' : Int} (f : Flo r gapS t) (f' : Flo r' gapS t') : cmpR r x = (t - t').sign := by
  have S1 := gapS_pos
  have S0 : 0 < gapS := by grind
  have i0 : 0 ≤ 1 / gapS := div_nn S0 (by decide)
  have small : 30000 * (1 / gapS) < 1 / 10 ^ 20 := by decide +kernel
  have i1 : 1 / gapS ≤ 1 := by decide +kernel
  -- x lies within
  obtain ⟨q1, q2⟩ := f'.small h' S0
  have p1 : (t' : Rat) / gapS ≤ x := by
    rcases (show (t' : Rat) / gapS ≤ x ∨ x < (t' : Rat) / gapS by grind) with z | z
    · exact z
    · have := fx_mono h'.a0 h'.c1 (Rat.le_of_lt hx) z f'.lo; grind
  have p2 : x < (t' : Rat) / gapS + 1 / gapS := by
    rw [← step_eq S0]
    rcases (show x < ((t' : Rat) + 1) / gapS ∨ ((t' : Rat) + 1) / gapS ≤ x by grind) with z | z
    · exact z
    · have hi := f'.hi
      by_cases e1 : ((t' : Rat) + 1) / gapS = x
      · rw [e1] at hi; grind
      · have := fx_mono h'.a0 h'.c1 (show 0 ≤ ((t' : Rat) + 1) / gapS by rw [step_eq S0]; grind) (show ((t' : Rat) + 1) / gapS < x by grind) (show fx r' x ≤ 0 by grind)
        grind
  have hc : cmpR r x = -sg (fx r x) := by unfold cmpR; rw [if_neg (by grind)]
  rw [hc]
  rcases hne with hz | hp | hn
  · -- the same number
    have l1 : t' ≤ t := by
      refine Flo.le S0 h.a0 h.c1 f' f ?_
      by_cases e1 : (t' : Rat) / gapS = x
      · rw [e1]; grind
      · exact Rat.le_of_lt (fx_mono h.a0 h.c1 q2 (show (t' : Rat) / gapS < x by grind) (by grind))
    have l2 : t ≤ t' := by
      rcases Int.lt_or_le t' t with hlt | hlt
      · exfalso
        have h1 : (t' : Rat) + 1 ≤ t := by
          have := cast_le (show t' + 1 ≤ t by omega)
          rw [Rat.intCast_add] at this
          exact this
        have h2 := div_le S0 h1
        rw [step_eq S0] at h2
        have := fx_mono h.a0 h.c1 (Rat.le_of_lt hx) (show x < (t : Rat) / gapS by grind) f.lo
        grind
      · exact hlt
    have : t - t' = 0 := by omega
    rw [this, hz]; rfl
  · -- the other is greater
    have l1 : t ≤ t' := by
      refine Flo.le S0 h'.a0 h'.c1 f f' ?_
      obtain ⟨s1, s2⟩ := f.small h S0
      have : (t : Rat) / gapS < x := by
        rcases (show (t : Rat) / gapS < x ∨ x ≤ (t : Rat) / gapS by grind) with z | z
        · exact z
        · by_cases e1 : x = (t : Rat) / gapS
          · have := f.lo; rw [← e1] at this; grind
          · have := fx_mono h.a0 h.c1 (Rat.le_of_lt hx) (show x < (t : Rat) / gapS by grind) f.lo; grind
      exact Rat.le_of_lt (fx_mono h'.a0 h'.c1 s2 this (by grind))
    have l2 : t ≠ t' := fun z => by
      subst z
      have := (near h (x := x) (d := 1 / gapS) (by grind) (by grind) (y := (t : Rat) / gapS) (by grind) (by grind) (by grind) (by grind)).1
      have := f.lo
      grind
    have e1 : (t - t').sign = -1 := Int.sign_eq_neg_one_of_neg (by omega)
    rw [e1]
    unfold sg
    rw [if_neg (by grind), if_pos (by grind)]
  · have l1 : t' ≤ t := by
      refine Flo.le S0 h.a0 h.c1 f' f ?_
      by_cases e1 : (t' : Rat) / gapS = x
      · rw [e1]; grind
      · exact Rat.le_of_lt (fx_mono h.a0 h.c1 q2 (show (t' : Rat) / gapS < x by grind) (by grind))
    have l2 : t ≠ t' := fun z => by
      subst z
      have hi := f.hi
      rw [step_eq S0] at hi
      have := (near h (x := (t : Rat) / gapS + 1 / gapS) (d := 1 / gapS) (by grind) (by grind) (y := x) (by grind) (by grind) (by grind) (by grind)).1
      grind
    have e1 : (t - t').sign = 1 := Int.sign_eq_one_of_pos (by omega)
    rw [e1]
    unfold sg
    rw [if_pos (by grind)]; rfl
/-- what the program reckons of two roots that are no fractions -/
def byOne (r r' : Rt) : Int := r.b * r'.a - r.a * r'.b
def fixed (r r' : Rt) : Int := r.c * r'.a - r.a * r'.c
theorem lin (r r' : Rt) (x : Rat) : (r'.a : Rat) * fx r x - r.a * fx r' x = byOne r r' * x + fixed r r' := by
  have e1 : ((byOne r r' : Int) : Rat) = r.b * r'.a - r.a * r'.b := by unfold byOne; rw [Rat.intCast_sub, Rat.intCast_mul, Rat.intCast_mul]
  have e2 : ((fixed r r' : Int) : Rat) = r.c * r'.a - r.a * r'.c := by unfold fixed; rw [Rat.intCast_sub, Rat.intCast_mul, Rat.intCast_mul]
  rw [e1, e2]; unfold fx; grind
theorem ord_par {r r' : Rt} (h : OkR r) (h' : OkR r') (hb : byOne r r' = 0) {t t' : Int} (f : Flo r gapS t) (f' : Flo r' gapS t') : -(fixed r r').sign = (t - t').sign := by
  have S1 := gapS_pos
  have S0 : 0 < gapS := by grind
  have i0 : 0 ≤ 1 / gapS := div_nn S0 (by decide)
  have small : 120 * (30000 * (1 / gapS)) < 1 := by decide +kernel
  have l0 : ∀ x, (r'.a : Rat) * fx r x - r.a * fx r' x = fixed r r' := fun x => by
    have := lin r r' x
    rw [hb] at this
    rw [this]
    have : ((0 : Int) : Rat) = 0 := rfl
    grind
  have a1 : (1 : Rat) ≤ r.a := cast_le h.a0
  have a2 : (1 : Rat) ≤ r'.a := cast_le h'.a0
  have a3 : (r.a : Rat) ≤ 60 := cast_le h.a1
  have a4 : (r'.a : Rat) ≤ 60 := cast_le h'.a1
  have neg_of : ∀ {a y : Rat}, 1 ≤ a → a * y ≤ 0 → y ≤ 0 := fun {a y} ha hy => by
    rcases (show y ≤ 0 ∨ 0 < y by grind) with z | z
    · exact z
    · have := Rat.mul_pos (show 0 < a by grind) z; grind
  have mul_le0 : ∀ {a y : Rat}, 1 ≤ a → y ≤ 0 → a * y ≤ 0 := fun {a y} ha hy => by
    have := rat_mul_nonneg (show 0 ≤ a by grind) (show 0 ≤ -y by grind); grind
  obtain ⟨g1, g2⟩ := f.fine h S1
  obtain ⟨g3, g4⟩ := f'.fine h' S1
  rcases Int.lt_trichotomy (fixed r r') 0 with hf | hf | hf
  · have hF : ((fixed r r' : Int) : Rat) ≤ -1 := cast_le (show fixed r r' ≤ -1 by omega)
    have l1 : t' ≤ t := by
      refine Flo.le S0 h.a0 h.c1 f' f (neg_of a2 ?_)
      have := l0 (t' / gapS)
      have := mul_le0 a1 f'.lo
      grind
    have l2 : t ≠ t' := fun z => by
      subst z
      have e := l0 (t / gapS)
      have u1 := rat_mul_nonneg (show 0 ≤ 60 - (r'.a : Rat) by grind) (show 0 ≤ -fx r (t / gapS) by grind)
      have u2 := mul_le0 a1 g4
      grind
    rw [Int.sign_eq_neg_one_of_neg hf, Int.sign_eq_one_of_pos (show 0 < t - t' by omega)]; rfl
  · have hF : ((fixed r r' : Int) : Rat) = 0 := by rw [hf]; rfl
    have l1 : t' ≤ t := by
      refine Flo.le S0 h.a0 h.c1 f' f (neg_of a2 ?_)
      have := l0 (t' / gapS)
      have := mul_le0 a1 f'.lo
      grind
    have l2 : t ≤ t' := by
      refine Flo.le S0 h'.a0 h'.c1 f f' (neg_of a1 ?_)
      have := l0 (t / gapS)
      have := mul_le0 a2 f.lo
      grind
    rw [hf, show t - t' = 0 by omega]; rfl
  · have hF : (1 : Rat) ≤ (fixed r r' : Int) := cast_le (show 1 ≤ fixed r r' by omega)
    have l1 : t ≤ t' := by
      refine Flo.le S0 h'.a0 h'.c1 f f' (neg_of a1 ?_)
      have := l0 (t / gapS)
      have := mul_le0 a2 f.lo
      grind
    have l2 : t ≠ t' := fun z => by
      subst z
      have e := l0 (t / gapS)
      have u1 := rat_mul_nonneg (show 0 ≤ 60 - (r.a : Rat) by grind) (show 0 ≤ -fx r' (t / gapS) by grind)
      have u2 := mul_le0 a2 g2
      grind
    rw [Int.sign_eq_one_of_pos hf, Int.sign_eq_neg_one_of_neg (show t - t' < 0 by omega)]
/-- .. neither like nor rational: x is where the line is nothing -/
theorem ord_line {r r' : Rt} (h : OkR r) (h' : OkR r') (hb : byOne r r' ≠ 0) {x : Rat} (hx : (byOne r r' : Rat) * x + fixed r r' = 0) {e : Rat} (he : 1 / 10 ^ 20 ≤ e) (hne : e ≤ fx r' x ∨ fx r' x ≤ -e) {t t' : Int} (f : Flo r gapS t) (f' : Flo r' gapS t') :
    -((byOne r r').sign * cmpR r' x) = (t - t').sign := by
  have S1 := gapS_pos
  have S0 : 0 < gapS := by grind
  have i0 : 0 ≤ 1 / gapS := div_nn S0 (by decide)
  have small : 10 ^ 10 * (30000 * (1 / gapS)) < 1 / 10 ^ 20 := by decide +kernel
  have a1 : (1 : Rat) ≤ r.a := cast_le h.a0
  have a2 : (1 : Rat) ≤ r'.a := cast_le h'.a0
  have a3 : (r.a : Rat) ≤ 60 := cast_le h.a1
  have a4 : (r'.a : Rat) ≤ 60 := cast_le h'.a1
  have mul_le0 : ∀ {a y : Rat}, 1 ≤ a → y ≤ 0 → a * y ≤ 0 := fun {a y} ha hy => by
    have := rat_mul_nonneg (show 0 ≤ a by grind) (show 0 ≤ -y by grind); grind
  have mul_gt0 : ∀ {a y : Rat}, 1 ≤ a → 0 < y → 0 < a * y := fun {a y} ha hy => Rat.mul_pos (by grind) hy
  have pos_of : ∀ {a y : Rat}, 1 ≤ a → 0 < a * y → 0 < y := fun {a y} ha hy => by
    rcases (show 0 < y ∨ y ≤ 0 by grind) with z | z
    · exact z
    · have := mul_le0 ha z; grind
  have l0 := lin r r'
  have l1 : ∀ y, (r'.a : Rat) * fx r y - r.a * fx r' y = byOne r r' * (y - x) := fun y => by rw [l0 y]; grind
  -- apart
  have l2 : t ≠ t' := fun z => by
    subst z
    obtain ⟨g1, g2⟩ := f.fine h S1
    obtain ⟨g3, g4⟩ := f'.fine h' S1
    obtain ⟨s1, s2⟩ := f.small h S0
    have e1 := l1 (t / gapS)
    have u1 := rat_mul_nonneg (show 0 ≤ 60 - (r'.a : Rat) by grind) (show 0 ≤ -fx r (t / gapS) by grind)
    have u2 := rat_mul_nonneg (show 0 ≤ 60 - (r.a : Rat) by grind) (show 0 ≤ -fx r' (t / gapS) by grind)
    have u3 := mul_le0 a1 g4
    have u4 := mul_le0 a2 g2
    have v1 : (byOne r r' : Rat) * (t / gapS - x) ≤ 60 * (30000 * (1 / gapS)) := by grind
    have v2 : -(60 * (30000 * (1 / gapS))) ≤ (byOne r r' : Rat) * (t / gapS - x) := by grind
    have v3 : t / gapS - x ≤ 60 * (30000 * (1 / gapS)) ∧ x - t / gapS ≤ 60 * (30000 * (1 / gapS)) := by
      generalize hd : (t : Rat) / gapS - x = d at *
      have e3 : x - (t : Rat) / gapS = -d := by grind
      rw [e3]
      rcases Int.lt_or_lt_of_ne hb with z | z
      · have hB : ((byOne r r' : Int) : Rat) ≤ -1 := cast_le (show byOne r r' ≤ -1 by omega)
        constructor
        · rcases (show d ≤ 0 ∨ 0 ≤ d by grind) with w | w
          · grind
          · have := rat_mul_nonneg (show 0 ≤ -(byOne r r' : Rat) - 1 by grind) w; grind
        · rcases (show d ≤ 0 ∨ 0 ≤ d by grind) with w | w
          · have := rat_mul_nonneg (show 0 ≤ -(byOne r r' : Rat) - 1 by grind) (show 0 ≤ -d by grind); grind
          · grind
      · have hB : (1 : Rat) ≤ (byOne r r' : Int) := cast_le (show 1 ≤ byOne r r' by omega)
        constructor
        · rcases (show d ≤ 0 ∨ 0 ≤ d by grind) with w | w
          · grind
          · have := rat_mul_nonneg (show 0 ≤ (byOne r r' : Rat) - 1 by grind) w; grind
        · rcases (show d ≤ 0 ∨ 0 ≤ d by grind) with w | w
          · have := rat_mul_nonneg (show 0 ≤ (byOne r r' : Rat) - 1 by grind) (show 0 ≤ -d by grind); grind
          · grind
    have n1 := near h' (x := x) (y := (t : Rat) / gapS) (d := 60 * (30000 * (1 / gapS))) (by grind) (by grind) (by grind) (by grind) (by grind) (by grind)
    grind
  obtain ⟨s1, s2⟩ := f.small h S0
  obtain ⟨s3, s4⟩ := f'.small h' S0
  -- where the other root lies
  have below : cmpR r' x = 1 ∨ cmpR r' x = -1 := by
    unfold cmpR sg
    by_cases hx0 : x ≤ 0
    · rw [if_pos hx0]; exact .inl rfl
    · rw [if_neg hx0]
      rcases hne with z | z
      · rw [if_neg (by grind), if_pos (by grind)]; exact .inr rfl
      · rw [if_pos (by grind)]; exact .inl rfl
  have up : cmpR r' x = 1 → ∀ y, 0 < fx r' y → 0 ≤ y → x < y := fun hc y hy y0 => by
    unfold cmpR at hc
    by_cases hx0 : x ≤ 0
    · by_cases e1 : y = 0
      · subst e1
        have : fx r' 0 < 0 := by
          have : (r'.c : Rat) ≤ -1 := cast_le h'.c1
          unfold fx; grind
        grind
      · grind
    · rw [if_neg hx0] at hc
      have hn : fx r' x < 0 := by
        unfold sg at hc
        split at hc
        · assumption
        · split at hc <;> omega
      rcases (show x < y ∨ y ≤ x by grind) with z | z
      · exact z
      · by_cases e1 : y = x
        · subst e1; grind
        · have := fx_mono h'.a0 h'.c1 y0 (show y < x by grind) (Rat.le_of_lt hn); grind
  have dn : cmpR r' x = -1 → 0 < x ∧ 0 < fx r' x := fun hc => by
    unfold cmpR at hc
    by_cases hx0 : x ≤ 0
    · rw [if_pos hx0] at hc; omega
    · rw [if_neg hx0] at hc
      refine ⟨by grind, ?_⟩
      unfold sg at hc
      split at hc
      · omega
      · split at hc
        · assumption
        · omega
  have dn2 : cmpR r' x = -1 → ∀ y, 0 ≤ y → fx r' y ≤ 0 → y < x := fun hc y y0 hy => by
    obtain ⟨x0, hp⟩ := dn hc
    rcases (show y < x ∨ x ≤ y by grind) with z | z
    · exact z
    · by_cases e1 : x = y
      · subst e1; grind
      · have := fx_mono h'.a0 h'.c1 (Rat.le_of_lt x0) (show x < y by grind) hy; grind
  have fin : ∀ {u : Int}, (0 < u → t ≤ t') → (u < 0 → t' ≤ t) → (u = 1 ∨ u = -1) → -u = (t - t').sign := fun {u} k1 k2 hu => by
    rcases hu with rfl | rfl
    · have := k1 (by decide)
      rw [Int.sign_eq_neg_one_of_neg (show t - t' < 0 by omega)]
    · have := k2 (by decide)
      rw [Int.sign_eq_one_of_pos (show 0 < t - t' by omega)]; rfl
  -- r at x, if the other root is below x
  have rx : cmpR r' x = -1 → 0 < fx r x := fun hc => by
    have e1 := l1 x
    have := mul_gt0 a1 (dn hc).2
    exact pos_of a2 (by grind)
  have rx2 : cmpR r' x = -1 → ∀ y, 0 ≤ y → fx r y ≤ 0 → y < x := fun hc y y0 hy => by
    have x0 := (dn hc).1
    have hp := rx hc
    rcases (show y < x ∨ x ≤ y by grind) with z | z
    · exact z
    · by_cases e1 : x = y
      · subst e1; grind
      · have := fx_mono h.a0 h.c1 (Rat.le_of_lt x0) (show x < y by grind) hy; grind
  -- r at or below x, if the other root is above
  have lx : cmpR r' x = 1 → 0 < x → fx r x < 0 := fun hc x0 => by
    have e1 := l1 x
    have hn : fx r' x < 0 := by
      unfold cmpR at hc
      rw [if_neg (by grind)] at hc
      unfold sg at hc
      split at hc
      · assumption
      · split at hc <;> omega
    have : 0 < (r.a : Rat) * -fx r' x := mul_gt0 a1 (by grind)
    rcases (show fx r x < 0 ∨ 0 ≤ fx r x by grind) with z | z
    · exact z
    · have := rat_mul_nonneg (show 0 ≤ (r'.a : Rat) by grind) z; grind
  have up2 : cmpR r' x = 1 → ∀ y, 0 < fx r y → 0 ≤ y → x < y := fun hc y hy y0 => by
    rcases (show x < y ∨ y ≤ x by grind) with z | z
    · exact z
    · by_cases e1 : y = 0
      · subst e1
        have : fx r 0 < 0 := by
          have : (r.c : Rat) ≤ -1 := cast_le h.c1
          unfold fx; grind
        grind
      · have hn := lx hc (by grind)
        by_cases e2 : y = x
        · subst e2; grind
        · have := fx_mono h.a0 h.c1 y0 (show y < x by grind) (Rat.le_of_lt hn); grind
  rcases Int.lt_or_lt_of_ne hb with z | z
  · have hB : ((byOne r r' : Int) : Rat) ≤ -1 := cast_le (show byOne r r' ≤ -1 by omega)
    rw [Int.sign_eq_neg_one_of_neg z]
    refine fin (fun hu => ?_) (fun hu => ?_) ?_
    · -- the other root is below x
      have hc : cmpR r' x = -1 := by rcases below with b | b <;> rw [b] at hu <;> first | exact b | omega
      refine Flo.le S0 h'.a0 h'.c1 f f' ?_
      rcases (show fx r' (t / gapS) ≤ 0 ∨ 0 < fx r' (t / gapS) by grind) with w | w
      · exact w
      · exfalso
        have hlt := rx2 hc _ s2 f.lo
        have e1 := l1 (t / gapS)
        have := rat_mul_nonneg (show 0 ≤ -(byOne r r' : Rat) by grind) (show 0 ≤ x - t / gapS by grind)
        have := mul_gt0 a1 w
        have := mul_le0 a2 f.lo
        grind
    · have hc : cmpR r' x = 1 := by rcases below with b | b <;> rw [b] at hu <;> first | exact b | omega
      refine Flo.le S0 h.a0 h.c1 f' f ?_
      rcases (show fx r (t' / gapS) ≤ 0 ∨ 0 < fx r (t' / gapS) by grind) with w | w
      · exact w
      · exfalso
        have hlt := up2 hc _ w s4
        have e1 := l1 (t' / gapS)
        have := rat_mul_nonneg (show 0 ≤ -(byOne r r' : Rat) by grind) (show 0 ≤ t' / gapS - x by grind)
        have := mul_gt0 a2 w
        have := mul_le0 a1 f'.lo
        grind
    · rcases below with b | b <;> rw [b] <;> simp
  · have hB : (1 : Rat) ≤ (byOne r r' : Int) := cast_le (show 1 ≤ byOne r r' by omega)
    rw [Int.sign_eq_one_of_pos z, Int.one_mul]
    refine fin (fun hu => ?_) (fun hu => ?_) below
    · have hc : cmpR r' x = 1 := by rcases below with b | b <;> rw [b] at hu <;> first | exact b | omega
      refine Flo.le S0 h'.a0 h'.c1 f f' ?_
      rcases (show fx r' (t / gapS) ≤ 0 ∨ 0 < fx r' (t / gapS) by grind) with w | w
      · exact w
      · exfalso
        have hlt := up hc _ w s2
        have e1 := l1 (t / gapS)
        have := rat_mul_nonneg (show 0 ≤ (byOne r r' : Rat) by grind) (show 0 ≤ t / gapS - x by grind)
        have := mul_gt0 a1 w
        have := mul_le0 a2 f.lo
        grind
    · have hc : cmpR r' x = -1 := by rcases below with b | b <;> rw [b] at hu <;> first | exact b | omega
      refine Flo.le S0 h.a0 h.c1 f' f ?_
      rcases (show fx r (t' / gapS) ≤ 0 ∨ 0 < fx r (t' / gapS) by grind) with w | w
      · exact w
      · exfalso
        have hlt := dn2 hc _ s4 f'.lo
        have e1 := l1 (t' / gapS)
        have := rat_mul_nonneg (show 0 ≤ (byOne r r' : Rat) by grind) (show 0 ≤ x - t' / gapS by grind)
        have := mul_gt0 a2 w
        have := mul_le0 a1 f'.lo
        grind
/-! ### sizes -/
def Bd (n : Nat) (i : Int) : Prop := i.natAbs < 2 ^ n
instance (n : Nat) (i : Int) : Decidable (Bd n i) := inferInstanceAs (Decidable (_ < _))
theorem Bd.mono {m n : Nat} {i : Int} (h : Bd m i) (hm : m ≤ n) : Bd n i := Nat.lt_of_lt_of_le h (Nat.pow_le_pow_right (by decide) hm)
theorem Bd.mul {m n : Nat} {i j : Int} (h : Bd m i) (g : Bd n j) : Bd (m + n) (i * j) := natAbs_mul_lt h g
theorem Bd.add {n : Nat} {i j : Int} (h : Bd n i) (g : Bd n j) : Bd (n + 1) (i + j) := natAbs_add_lt h g
theorem Bd.sub {n : Nat} {i j : Int} (h : Bd n i) (g : Bd n j) : Bd (n + 1) (i - j) := natAbs_sub_lt h g
theorem Bd.neg {n : Nat} {i : Int} (h : Bd n i) : Bd n (-i) := by unfold Bd; rw [Int.natAbs_neg]; exact h
theorem mulB {m n : Nat} {i j : Int} (s : Sto) (h : Bd m i) (g : Bd n j) (hm : 0 < m) (hn : 0 < n) (hs : m + n ≤ 1000000) : mulD (.int i) (.int j) s = .ok (.int (i * j)) s := by
  simp only [mulD, mulOk_of h g hm hn hs, if_true]
theorem fdivB {n : Nat} {i j : Int} (s : Sto) (h : Bd n j) (h0 : j ≠ 0) (hn : 0 < n) (hs : n ≤ 9000) : fdivD (.int i) (.int j) s = .ok (.int (i.fdiv j)) s := by
  simp only [fdivD, divOk_of h0 h hn hs, if_true]
/-! ### roots -/
def rootD (r : Rt) : D := .tup [.str "root", .int r.a, .int r.b, .int r.c]
def FS (r : Rt) (S t : Int) : Int := r.a * t * t + r.b * t * S + r.c * S * S
theorem FS_fx (r : Rt) {S : Int} (hS : 0 < S) (t : Int) : ((FS r S t : Int) : Rat) = (S : Rat) * S * fx r ((t : Rat) / S) := by
  have h : (0 : Rat) < (S : Rat) := Rat.intCast_pos.mpr hS
  unfold FS fx
  simp only [Rat.intCast_add, Rat.intCast_mul]
  grind
theorem flo_of {r : Rt} {S t : Int} (hS : 0 < S) (h0 : 0 ≤ t) (h1 : FS r S t ≤ 0) (h2 : 0 < FS r S (t + 1)) : Flo r S t := by
  have h : (0 : Rat) < (S : Rat) := Rat.intCast_pos.mpr hS
  have hh : (0 : Rat) < (S : Rat) * S := Rat.mul_pos h h
  refine ⟨h0, ?_, ?_⟩
  · have e := FS_fx r hS t
    have e1 : ((FS r S t : Int) : Rat) ≤ 0 := cast_le h1
    rcases (show fx r ((t : Rat) / S) ≤ 0 ∨ 0 < fx r ((t : Rat) / S) by grind) with z | z
    · exact z
    · have := Rat.mul_pos hh z; grind
  · have e := FS_fx r hS (t + 1)
    have e1 : (0 : Rat) < ((FS r S (t + 1) : Int) : Rat) := cast_lt h2
    rw [e, Rat.intCast_add] at e1
    have e2 : (((1 : Int)) : Rat) = 1 := rfl
    rw [e2] at e1
    rcases (show 0 < fx r (((t : Rat) + 1) / S) ∨ fx r (((t : Rat) + 1) / S) ≤ 0 by grind) with z | z
    · exact z
    · have := rat_mul_nonneg (Rat.le_of_lt hh) (show 0 ≤ -fx r (((t : Rat) + 1) / S) by grind); grind
theorem FS_sign (r : Rt) {S : Int} (hS : 0 < S) (t : Int) : (FS r S t).sign = sg (fx r ((t : Rat) / S)) := by
  have h : (0 : Rat) < (S : Rat) := Rat.intCast_pos.mpr hS
  have hh : (0 : Rat) < (S : Rat) * S := Rat.mul_pos h h
  have e := FS_fx r hS t
  unfold sg
  split
  · rename_i z
    refine Int.sign_eq_neg_one_of_neg ?_
    have := Rat.mul_pos hh (show 0 < -fx r ((t : Rat) / S) by grind)
    have e1 : ((FS r S t : Int) : Rat) < ((0 : Int) : Rat) := by
      have : ((0 : Int) : Rat) = 0 := rfl
      grind
    exact Rat.intCast_lt_intCast.mp e1
  · split
    · rename_i z
      refine Int.sign_eq_one_of_pos ?_
      have := Rat.mul_pos hh z
      have e1 : ((0 : Int) : Rat) < ((FS r S t : Int) : Rat) := by
        have : ((0 : Int) : Rat) = 0 := rfl
        grind
      exact Rat.intCast_lt_intCast.mp e1
    · have z : fx r ((t : Rat) / S) = 0 := by grind
      rw [z] at e
      have e1 : ((FS r S t : Int) : Rat) = ((0 : Int) : Rat) := by
        have : ((0 : Int) : Rat) = 0 := rfl
        grind
      have := Rat.intCast_inj.mp e1
      rw [this]; rfl
/-- integers of a root that are not too great -/
structure SzR (r : Rt) : Prop where
  a : Bd 200 r.a
  b : Bd 200 r.b
  c : Bd 200 r.c
  a0 : 1 ≤ r.a
  c1 : r.c ≤ -1
theorem OkR.sz {r : Rt} (h : OkR r) : SzR r := by
  have h200 : (100 : Nat) < 2 ^ 200 := by decide
  have := h.a0; have := h.a1; have := h.b0; have := h.b1; have := h.c0; have := h.c1
  refine ⟨?_, ?_, ?_, h.a0, h.c1⟩ <;> unfold Bd <;> omega
theorem num_div_den (x : Rat) : (x.num : Rat) / ((x.den : Int) : Rat) = x := by
  rw [← Rat.divInt_eq_div]; exact Rat.num_divInt_den x
theorem den_pos' (x : Rat) : (0 : Int) < x.den := by have := x.den_pos; omega
theorem sub_sign (v : Int) : (if decide (v < 0) = true then (1 : Int) else 0) - (if decide (0 < v) = true then 1 else 0) = -v.sign := by
  rcases Int.lt_trichotomy v 0 with h | h | h
  · rw [decide_eq_true h, decide_eq_false (show ¬ 0 < v by omega), Int.sign_eq_neg_one_of_neg h]; rfl
  · rw [h]; rfl
  · rw [decide_eq_true h, decide_eq_false (show ¬ v < 0 by omega), Int.sign_eq_one_of_pos h]; rfl
theorem sign_sub (v : Int) : (if decide (0 < v) = true then (1 : Int) else 0) - (if decide (v < 0) = true then 1 else 0) = v.sign := by
  rcases Int.lt_trichotomy v 0 with h | h | h
  · rw [decide_eq_true h, decide_eq_false (show ¬ 0 < v by omega), Int.sign_eq_neg_one_of_neg h]; rfl
  · rw [h]; rfl
  · rw [decide_eq_true h, decide_eq_false (show ¬ v < 0 by omega), Int.sign_eq_one_of_pos h]; rfl
theorem sm_num {x : Rat} {N : Nat} (h : Sm N x) : Bd N x.num := h.1
theorem sm_den {x : Rat} {N : Nat} (h : Sm N x) : Bd N (x.den : Int) := den_lt h
theorem cmpR_eq (r : Rt) (x : Rat) : cmpR r x = if x.num ≤ 0 then 1 else -(FS r x.den x.num).sign := by
  unfold cmpR
  have hp : x ≤ 0 ↔ x.num ≤ 0 := by
    have := @num_pos x
    constructor
    · intro h
      have hn : ¬ 0 < x := by grind
      rw [← num_pos] at hn
      omega
    · intro h
      have : ¬ 0 < x := by rw [← num_pos]; omega
      grind
  by_cases h : x ≤ 0
  · rw [if_pos h, if_pos (hp.mp h)]
  · rw [if_neg h, if_neg (fun z => h (hp.mpr z)), FS_sign r (den_pos' x), num_div_den]
theorem cmpby_ok {r : Rt} (hr : SzR r) {x : Rat} {N : Nat} (hx : Sm N x) (hN : 0 < N) (h9 : N ≤ 100000) (s : Sto) : r_compare_by [rootD r, fr x] s = .ok (.int (cmpR r x)) s := by
  rw [cmpR_eq]
  have m1 := mulB s hr.a (sm_num hx) (by decide) hN (by omega)
  have m2 := mulB s (hr.a.mul (sm_num hx)) (sm_num hx) (by omega) hN (by omega)
  have m3 := mulB s hr.b (sm_num hx) (by decide) hN (by omega)
  have m4 := mulB s (hr.b.mul (sm_num hx)) (sm_den hx) (by omega) hN (by omega)
  have m5 := mulB s hr.c (sm_den hx) (by decide) hN (by omega)
  have m6 := mulB s (hr.c.mul (sm_den hx)) (sm_den hx) (by omega) hN (by omega)
  unfold r_compare_by rootD fr
  by_cases h : x.num ≤ 0
  · have c : decide (x.num ≤ 0) = true := decide_eq_true h
    rw [if_pos h]
    generalize x.num = p at *
    generalize (x.den : Int) = q at *
    repeat (first | walk_at "sem1" | simp only [mgTup, c])
  · have c : decide (x.num ≤ 0) = false := decide_eq_false h
    rw [if_neg h]
    unfold FS
    generalize x.num = p at *
    generalize (x.den : Int) = q at *
    repeat (first | walk_at "sem1" | simp only [mgTup, c, m1, m2, m3, m4, m5, m6])
    rw [sub_sign]
/-! ### the law's floor -/
theorem sq_lt_of {a b : Int} (ha : 0 ≤ a) (hb : 0 ≤ b) (h : a * a < b * b) : a < b := by
  rcases Int.lt_or_le a b with z | z
  · exact z
  · have := Int.mul_le_mul z z hb ha; omega
theorem sq_le_of {a b : Int} (ha : 0 ≤ a) (hb : 0 ≤ b) (h : a * a ≤ b * b) : a ≤ b := by
  rcases Int.lt_or_le b a with z | z
  · have h1 : b * b < a * a := Int.lt_of_le_of_lt (Int.mul_le_mul_of_nonneg_left (Int.le_of_lt z) hb) (Int.mul_lt_mul_of_pos_right z (by omega))
    omega
  · exact z
theorem two_pow_pos (k : Nat) : (0 : Int) < 2 ^ k := Int.pow_pos (by decide)
theorem lf_up {u : Int} (hu0 : 0 ≤ u) (hu : Bd 2000 u) (x0 x1 x2 x3 x4 x5 x9 : Option D) (s : Sto) :
    ∃ k : Nat, u < 2 ^ k * 2 ^ k ∧ k ≤ 2000 ∧ l__law_floor_5 [x0, x1, x2, x3, x4, x5, some (.int u), some (.int 0), some (.int 1), x9] s = .nx [x0, x1, x2, x3, x4, x5, some (.int u), some (.int 0), some (.int (2 ^ k)), x9] s := by
  have hpow : ∀ k : Nat, (2 : Int) ^ k * 2 ^ k ≤ u → k < 2000 := fun k hk => by
    rcases Nat.lt_or_ge k 2000 with z | z
    · exact z
    · exfalso
      have h1 : (2 : Int) ^ 2000 ≤ 2 ^ k := by
        have : (2 : Nat) ^ 2000 ≤ 2 ^ k := Nat.pow_le_pow_right (by decide) z
        exact_mod_cast this
      have h2 : (1 : Int) ≤ 2 ^ k := by have := two_pow_pos k; omega
      have h3 : (2 : Int) ^ k * 1 ≤ 2 ^ k * 2 ^ k := Int.mul_le_mul_of_nonneg_left h2 (by omega)
      have h4 : u < 2 ^ 2000 := by
        have : ((u.natAbs : Nat) : Int) < ((2 ^ 2000 : Nat) : Int) := Int.ofNat_lt.mpr hu
        have e : ((2 ^ 2000 : Nat) : Int) = (2 : Int) ^ 2000 := by push_cast; rfl
        omega
      generalize (2 : Int) ^ 2000 = q at *
      generalize (2 : Int) ^ k * 2 ^ k = r at *
      omega
  have bd : ∀ k : Nat, k ≤ 2000 → Bd 2001 (2 ^ k) := fun k hk => by
    unfold Bd
    rw [Int.natAbs_pow]
    exact Nat.pow_lt_pow_right (by decide) (by omega)
  have step := while_inv (mc := mTest (mOp leD (mOp mulD (mVar 8) (mVar 8)) (mVar 6))) (mb := b__law_floor_5) (fun n l t => ∃ k : Nat, l = [x0, x1, x2, x3, x4, x5, some (.int u), some (.int 0), some (.int (2 ^ k)), x9] ∧ t = s ∧ k ≤ 2000 ∧ n = 2000 - k)
    (fun n l t ⟨k, el, et, hk, hn⟩ => by
      subst el et
      have m1 := mulB t (bd k hk) (bd k hk) (by decide) (by decide) (by decide)
      have m2 := mulB (i := 2) t (show Bd 10 2 by decide) (bd k hk) (by decide) (by decide) (by decide)
      have e2 : (2 : Int) * 2 ^ k = 2 ^ (k + 1) := by rw [Int.pow_succ, Int.mul_comm]
      rw [e2] at m2
      by_cases h : (2 : Int) ^ k * 2 ^ k ≤ u
      · right
        have hk2 := hpow k h
        have c : decide ((2 : Int) ^ k * 2 ^ k ≤ u) = true := decide_eq_true h
        refine ⟨?_, 2000 - (k + 1), _, _, by omega, .inl ?_, k + 1, rfl, rfl, by omega, rfl⟩
        · generalize (2 : Int) ^ k = p at *
          repeat (first | walk_at "sem1" | simp only [m1, c])
        · generalize (2 : Int) ^ (k + 1) = p2 at *
          generalize (2 : Int) ^ k = p at *
          unfold b__law_floor_5
          repeat (first | walk_at "sem1" | simp only [m2])
      · left
        have c : decide ((2 : Int) ^ k * 2 ^ k ≤ u) = false := decide_eq_false h
        generalize (2 : Int) ^ k = p at *
        repeat (first | walk_at "sem1" | simp only [m1, c]))
    2000 [x0, x1, x2, x3, x4, x5, some (.int u), some (.int 0), some (.int 1), x9] s ⟨0, rfl, rfl, by omega, rfl⟩
  obtain ⟨n', l', s', e, ⟨k, el, et, hk, hn⟩, hf⟩ := step
  subst el et
  refine ⟨k, ?_, hk, e⟩
  have m1 := mulB s' (bd k hk) (bd k hk) (by decide) (by decide) (by decide)
  rcases Int.lt_or_le u (2 ^ k * 2 ^ k) with z | z
  · exact z
  · exfalso
    have c : decide ((2 : Int) ^ k * 2 ^ k ≤ u) = true := decide_eq_true z
    have : mTest (mOp leD (mOp mulD (mVar 8) (mVar 8)) (mVar 6)) [x0, x1, x2, x3, x4, x5, some (.int u), some (.int 0), some (.int (2 ^ k)), x9] s' = .ok true s' := by
      generalize (2 : Int) ^ k = p at *
      repeat (first | walk_at "sem1" | simp only [m1, c])
    rw [this] at hf
    cases hf
theorem lf_down {u : Int} (hu0 : 0 ≤ u) (hu : Bd 2000 u) (x0 x1 x2 x3 x4 x5 x9 : Option D) (s : Sto) {k : Nat} (hk : u < 2 ^ k * 2 ^ k) (hk2 : k ≤ 2000) :
    ∃ q : Int, 0 ≤ q ∧ q * q ≤ u ∧ u < (q + 1) * (q + 1) ∧ l__law_floor_7 [x0, x1, x2, x3, x4, x5, some (.int u), some (.int 0), some (.int (2 ^ k)), x9] s = .nx [x0, x1, x2, x3, x4, x5, some (.int u), some (.int q), some (.int 0), x9] s := by
  have hq : ∀ q : Int, 0 ≤ q → q * q ≤ u → Bd 2000 q := fun q h0 h => by
    unfold Bd
    have h1 : q ≤ u ∨ q ≤ 0 := by
      rcases Int.lt_or_le 0 q with z | z
      · left
        have : q * 1 ≤ q * q := Int.mul_le_mul_of_nonneg_left (by omega) h0
        omega
      · exact .inr z
    have h2 : (0 : Nat) < 2 ^ 2000 := Nat.pow_pos (by decide)
    unfold Bd at hu
    generalize (2 : Nat) ^ 2000 = m at *
    omega
  have step := while_inv (mc := mTest (mOp gtD (mVar 8) (mC (.int 0)))) (mb := b__law_floor_7)
    (fun n l t => ∃ q st : Int, l = [x0, x1, x2, x3, x4, x5, some (.int u), some (.int q), some (.int st), x9] ∧ t = s ∧ 0 ≤ q ∧ q * q ≤ u ∧ ((∃ j : Nat, st = 2 ^ j ∧ j ≤ 2000 ∧ u < (q + 2 * 2 ^ j) * (q + 2 * 2 ^ j)) ∨ st = 0 ∧ u < (q + 1) * (q + 1)) ∧ n = st.toNat)
    (fun n l t ⟨q, st, el, et, q0, q1, hs, hn⟩ => by
      subst el et
      rcases hs with ⟨j, rfl, hj, hlt⟩ | ⟨rfl, hlt⟩
      · right
        have hp := two_pow_pos j
        have c : decide ((0 : Int) < 2 ^ j) = true := decide_eq_true hp
        have hbj : Bd 2001 (2 ^ j) := by
          unfold Bd
          rw [Int.natAbs_pow]
          exact Nat.pow_lt_pow_right (by decide) (by omega)
        have hsum : Bd 2002 (q + 2 ^ j) := ((hq q q0 q1).mono (by decide)).add hbj
        have m1 := mulB t hsum hsum (by decide) (by decide) (by decide)
        have d1 := fdivB (i := 2 ^ j) t (show Bd 10 2 by decide) (by decide) (by decide) (by decide)
        -- the step behind
        have hst : ∃ st' : Int, (2 ^ j : Int).fdiv 2 = st' ∧ (∀ q' : Int, u < (q' + 2 ^ j) * (q' + 2 ^ j) → ((∃ i : Nat, st' = 2 ^ i ∧ i ≤ 2000 ∧ u < (q' + 2 * 2 ^ i) * (q' + 2 * 2 ^ i)) ∨ st' = 0 ∧ u < (q' + 1) * (q' + 1))) ∧ st'.toNat < (2 ^ j : Int).toNat := by
          cases j with
          | zero => exact ⟨0, by decide, fun q' h => .inr ⟨rfl, h⟩, by decide⟩
          | succ i =>
            have e2 : (2 : Int) ^ (i + 1) = 2 * 2 ^ i := by rw [Int.pow_succ, Int.mul_comm]
            have hi := two_pow_pos i
            refine ⟨2 ^ i, ?_, fun q' h => .inl ⟨i, rfl, by omega, by rw [e2] at h; exact h⟩, ?_⟩
            · rw [e2, Int.fdiv_eq_ediv_of_nonneg _ (by decide), Int.mul_ediv_cancel_left _ (by decide)]
            · rw [e2]; omega
        obtain ⟨st', e1, h1, h2⟩ := hst
        rw [e1] at d1
        by_cases h : (q + 2 ^ j) * (q + 2 ^ j) ≤ u
        · have c2 : decide ((q + 2 ^ j) * (q + 2 ^ j) ≤ u) = true := decide_eq_true h
          refine ⟨?_, st'.toNat, [x0, x1, x2, x3, x4, x5, some (.int u), some (.int (q + 2 ^ j)), some (.int st'), x9], t, by omega, .inl ?_, q + 2 ^ j, st', rfl, rfl, by omega, h, h1 _ (by rw [show q + 2 ^ j + 2 ^ j = q + 2 * 2 ^ j by omega]; exact hlt), rfl⟩
          · generalize (2 : Int) ^ j = p at *
            repeat (first | walk_at "sem1" | simp only [c])
          · generalize (2 : Int) ^ j = p at *
            unfold b__law_floor_7
            simp only [t__law_floor_10]
            repeat (first | walk_at "sem1" | simp only [m1, c2, d1])
        · have c2 : decide ((q + 2 ^ j) * (q + 2 ^ j) ≤ u) = false := decide_eq_false h
          refine ⟨?_, st'.toNat, [x0, x1, x2, x3, x4, x5, some (.int u), some (.int q), some (.int st'), x9], t, by omega, .inl ?_, q, st', rfl, rfl, q0, q1, h1 _ (by omega), rfl⟩
          · generalize (2 : Int) ^ j = p at *
            repeat (first | walk_at "sem1" | simp only [c])
          · generalize (2 : Int) ^ j = p at *
            unfold b__law_floor_7
            simp only [t__law_floor_10]
            repeat (first | walk_at "sem1" | simp only [m1, c2, d1])
      · left
        have c : decide ((0 : Int) < 0) = false := by decide
        repeat (first | walk_at "sem1" | simp only [c]))
    (2 ^ k : Int).toNat [x0, x1, x2, x3, x4, x5, some (.int u), some (.int 0), some (.int (2 ^ k)), x9] s
    ⟨0, 2 ^ k, rfl, rfl, by omega, by omega, .inl ⟨k, rfl, hk2, by
      have hp := two_pow_pos k
      generalize (2 : Int) ^ k = p at *
      have h1 : p * p ≤ (0 + 2 * p) * (0 + 2 * p) := Int.mul_le_mul (by omega) (by omega) (by omega) (by omega)
      omega⟩, rfl⟩
  obtain ⟨n', l', s', e, ⟨q, st, el, et, q0, q1, hs, hn⟩, hf⟩ := step
  subst el et
  rcases hs with ⟨j, rfl, hj, hlt⟩ | ⟨rfl, hlt⟩
  · exfalso
    have c : decide ((0 : Int) < 2 ^ j) = true := decide_eq_true (two_pow_pos j)
    have : mTest (mOp gtD (mVar 8) (mC (.int 0))) [x0, x1, x2, x3, x4, x5, some (.int u), some (.int q), some (.int (2 ^ j)), x9] s' = .ok true s' := by
      generalize (2 : Int) ^ j = p at *
      repeat (first | walk_at "sem1" | simp only [c])
    rw [this] at hf
    cases hf
  · exact ⟨q, q0, q1, hlt, e⟩
theorem FS_big {r : Rt} (hr : SzR r) {S x : Int} (hS : 0 < S) (hx : (r.b.natAbs + r.c.natAbs + 1 : Nat) * S ≤ x) : 0 < FS r S x := by
  have hb : -(r.b.natAbs : Int) ≤ r.b := by omega
  have hc : r.c = -(r.c.natAbs : Int) := by have := hr.c1; omega
  generalize hB : (r.b.natAbs : Int) = B at *
  generalize hC : (r.c.natAbs : Int) = C at *
  have hB0 : 0 ≤ B := by omega
  have hC0 : 0 ≤ C := by omega
  have hx' : (B + C + 1) * S ≤ x := by
    have : (((r.b.natAbs + r.c.natAbs + 1 : Nat) : Int)) = B + C + 1 := by omega
    rw [this] at hx; exact hx
  have hSx : S ≤ x := by
    have : 1 * S ≤ (B + C + 1) * S := Int.mul_le_mul_of_nonneg_right (by omega) (by omega)
    omega
  have h1 : 1 * (x * x) ≤ r.a * (x * x) := Int.mul_le_mul_of_nonneg_right hr.a0 (Int.mul_nonneg (by omega) (by omega))
  have h2 : -B * (x * S) ≤ r.b * (x * S) := Int.mul_le_mul_of_nonneg_right hb (Int.mul_nonneg (by omega) (by omega))
  have h3 : x * ((B + C + 1) * S) ≤ x * x := Int.mul_le_mul_of_nonneg_left hx' (by omega)
  have h4 : C * (S * S) ≤ C * (x * S) := Int.mul_le_mul_of_nonneg_left (Int.mul_le_mul_of_nonneg_right hSx (by omega)) hC0
  have h5 : 0 < x * S := Int.mul_pos (by omega) hS
  have e1 : FS r S x = r.a * (x * x) + r.b * (x * S) - C * (S * S) := by
    unfold FS; rw [hc]; grind
  have e2 : x * ((B + C + 1) * S) = B * (x * S) + C * (x * S) + x * S := by grind
  have e3 : -B * (x * S) = -(B * (x * S)) := by grind
  rw [e1]
  omega
theorem bd_big (r : Rt) (hr : SzR r) {S t : Int} (hS : Bd 400 S) (h0 : 0 ≤ t) (hS0 : 0 < S) (h : FS r S t ≤ 0) : Bd 700 t := by
  rcases Int.lt_or_le t ((r.b.natAbs + r.c.natAbs + 1 : Nat) * S) with z | z
  · have hb : Bd 202 ((r.b.natAbs + r.c.natAbs + 1 : Nat) : Int) := by
      have h1 := hr.b; have h2 := hr.c
      unfold Bd at *
      have e : (2 : Nat) ^ 202 = 2 ^ 200 * 4 := Nat.pow_add 2 200 2
      have h3 : (0 : Nat) < 2 ^ 200 := Nat.pow_pos (by decide)
      rw [e]
      generalize (2 : Nat) ^ 200 = m at *
      omega
    have hm := hb.mul hS
    have : Bd 602 t := by
      unfold Bd at hm ⊢
      generalize ((r.b.natAbs + r.c.natAbs + 1 : Nat) : Int) * S = y at *
      generalize (2 : Nat) ^ (202 + 400) = m at *
      omega
    exact this.mono (by decide)
  · have := FS_big hr hS0 z; omega
theorem lf_last {r : Rt} (hr : SzR r) {S : Int} (hS0 : 0 < S) (hS : Bd 400 S) (x0 x2 x6 x7 x8 : Option D) (s : Sto) {t : Int} (ht : 0 ≤ t) (hF : FS r S t ≤ 0) :
    ∃ q : Int, 0 ≤ q ∧ FS r S q ≤ 0 ∧ 0 < FS r S (q + 1) ∧ l__law_floor_12 [x0, some (.int S), x2, some (.int r.a), some (.int r.b), some (.int r.c), x6, x7, x8, some (.int t)] s = .nx [x0, some (.int S), x2, some (.int r.a), some (.int r.b), some (.int r.c), x6, x7, x8, some (.int q)] s := by
  have test : ∀ q : Int, 0 ≤ q → FS r S q ≤ 0 → mTest (mOp leD (mOp addD (mOp addD (mOp mulD (mOp mulD (mVar 3) (mOp addD (mVar 9) (mC (.int 1)))) (mOp addD (mVar 9) (mC (.int 1)))) (mOp mulD (mOp mulD (mVar 4) (mOp addD (mVar 9) (mC (.int 1)))) (mVar 1))) (mOp mulD (mOp mulD (mVar 5) (mVar 1)) (mVar 1))) (mC (.int 0))) [x0, some (.int S), x2, some (.int r.a), some (.int r.b), some (.int r.c), x6, x7, x8, some (.int q)] s = .ok (decide (FS r S (q + 1) ≤ 0)) s := fun q h0 hq => by
    have hb : Bd 701 (q + 1) := (bd_big r hr hS h0 hS0 hq).add (show Bd 700 1 by decide)
    have m1 := mulB s hr.a hb (by decide) (by decide) (by decide)
    have m2 := mulB s (hr.a.mul hb) hb (by decide) (by decide) (by decide)
    have m3 := mulB s hr.b hb (by decide) (by decide) (by decide)
    have m4 := mulB s (hr.b.mul hb) hS (by decide) (by decide) (by decide)
    have m5 := mulB s hr.c hS (by decide) (by decide) (by decide)
    have m6 := mulB s (hr.c.mul hS) hS (by decide) (by decide) (by decide)
    unfold FS
    generalize hq1 : q + 1 = q1 at *
    repeat (first | walk_at "sem1" | simp only [hq1, m1, m2, m3, m4, m5, m6])
  obtain ⟨n', l', s', e, ⟨q, el, et, q0, q1, hn⟩, hf⟩ := while_inv (mc := mTest (mOp leD (mOp addD (mOp addD (mOp mulD (mOp mulD (mVar 3) (mOp addD (mVar 9) (mC (.int 1)))) (mOp addD (mVar 9) (mC (.int 1)))) (mOp mulD (mOp mulD (mVar 4) (mOp addD (mVar 9) (mC (.int 1)))) (mVar 1))) (mOp mulD (mOp mulD (mVar 5) (mVar 1)) (mVar 1))) (mC (.int 0)))) (mb := b__law_floor_12)
    (fun n l t => ∃ q : Int, l = [x0, some (.int S), x2, some (.int r.a), some (.int r.b), some (.int r.c), x6, x7, x8, some (.int q)] ∧ t = s ∧ 0 ≤ q ∧ FS r S q ≤ 0 ∧ n = ((r.b.natAbs + r.c.natAbs + 1 : Nat) * S - q).toNat)
    (fun n l t ⟨q, el, et, q0, q1, hn⟩ => by
      subst el et
      rw [test q q0 q1]
      by_cases h : FS r S (q + 1) ≤ 0
      · right
        refine ⟨by rw [decide_eq_true h], _, _, _, ?_, .inl ?_, q + 1, rfl, rfl, by omega, h, rfl⟩
        · have : q + 1 < (r.b.natAbs + r.c.natAbs + 1 : Nat) * S := by
            rcases Int.lt_or_le (q + 1) ((r.b.natAbs + r.c.natAbs + 1 : Nat) * S) with z | z
            · exact z
            · have := FS_big hr hS0 z; omega
          omega
        · unfold b__law_floor_12
          repeat (first | walk_at "sem1")
      · left
        rw [decide_eq_false h])
    _ [x0, some (.int S), x2, some (.int r.a), some (.int r.b), some (.int r.c), x6, x7, x8, some (.int t)] s ⟨t, rfl, rfl, ht, hF, rfl⟩
  subst el et
  refine ⟨q, q0, q1, ?_, e⟩
  rw [test q q0 q1] at hf
  rcases Int.lt_or_le 0 (FS r S (q + 1)) with z | z
  · exact z
  · rw [decide_eq_true z] at hf; cases hf
/-- the first guess -/
theorem guess {r : Rt} (hr : SzR r) {S q : Int} (hS : 0 < S) (q0 : 0 ≤ q) (h1 : q * q ≤ (r.b * r.b - 4 * r.a * r.c) * S * S) (h2 : (r.b * r.b - 4 * r.a * r.c) * S * S < (q + 1) * (q + 1)) :
    0 ≤ (q - r.b * S).fdiv (2 * r.a) ∧ FS r S ((q - r.b * S).fdiv (2 * r.a)) ≤ 0 := by
  have ha := hr.a0
  have hc := hr.c1
  -- q is at least |b| S
  have hac : 0 < -(4 * r.a * r.c) * S * S := by
    have : 0 < r.a * -r.c := Int.mul_pos (by omega) (by omega)
    have h3 : 0 < -(4 * r.a * r.c) := by
      have : -(4 * r.a * r.c) = 4 * (r.a * -r.c) := by grind
      omega
    exact Int.mul_pos (Int.mul_pos h3 hS) hS
  have hb2 : (r.b * S) * (r.b * S) < (q + 1) * (q + 1) := by
    have e : (r.b * r.b - 4 * r.a * r.c) * S * S = (r.b * S) * (r.b * S) + -(4 * r.a * r.c) * S * S := by grind
    omega
  have habs : r.b * S ≤ q ∧ -(r.b * S) ≤ q := by
    constructor
    · rcases Int.lt_or_le (r.b * S) 0 with z | z
      · omega
      · have := sq_lt_of z (show 0 ≤ q + 1 by omega) hb2; omega
    · rcases Int.lt_or_le 0 (r.b * S) with z | z
      · omega
      · have := sq_lt_of (show 0 ≤ -(r.b * S) by omega) (show 0 ≤ q + 1 by omega) (by rw [Int.neg_mul_neg]; exact hb2); omega
  generalize ht : (q - r.b * S).fdiv (2 * r.a) = t
  have ht0 : 0 ≤ t := by
    rw [← ht, Int.fdiv_eq_ediv_of_nonneg _ (by omega)]
    exact Int.ediv_nonneg (by omega) (by omega)
  refine ⟨ht0, ?_⟩
  have hle : 2 * r.a * t ≤ q - r.b * S := by
    rw [← ht, Int.fdiv_eq_ediv_of_nonneg _ (by omega)]
    exact Int.mul_ediv_self_le (by omega)
  have h2at : 0 ≤ 2 * r.a * t := Int.mul_nonneg (by omega) ht0
  -- (2 a t + b S)² ≤ q²
  have hsq : (2 * r.a * t + r.b * S) * (2 * r.a * t + r.b * S) ≤ q * q := by
    rcases Int.lt_or_le (2 * r.a * t + r.b * S) 0 with z | z
    · have h3 : 0 ≤ -(2 * r.a * t + r.b * S) := by omega
      have h4 : -(2 * r.a * t + r.b * S) ≤ q := by omega
      have := Int.mul_le_mul h4 h4 h3 q0
      rwa [Int.neg_mul_neg] at this
    · exact Int.mul_le_mul (by omega) (by omega) z q0
  have e : 4 * r.a * FS r S t = (2 * r.a * t + r.b * S) * (2 * r.a * t + r.b * S) - (r.b * r.b - 4 * r.a * r.c) * S * S := by unfold FS; grind
  rcases Int.lt_or_le 0 (FS r S t) with z | z
  · exfalso
    have : 0 < 4 * r.a * FS r S t := Int.mul_pos (by omega) z
    omega
  · exact z
theorem lfloor_ok {r : Rt} (hr : SzR r) {S : Int} (hS0 : 0 < S) (hS : Bd 400 S) (s : Sto) : ∃ q : Int, 0 ≤ q ∧ FS r S q ≤ 0 ∧ 0 < FS r S (q + 1) ∧ r__law_floor [rootD r, .int S] s = .ok (.int q) s := by
  have hbb : Bd 400 (r.b * r.b) := hr.b.mul hr.b
  have h4a : Bd 203 (4 * r.a) := (show Bd 3 4 by decide).mul hr.a
  have h4ac : Bd 403 (4 * r.a * r.c) := h4a.mul hr.c
  have hD : Bd 404 (r.b * r.b - 4 * r.a * r.c) := (hbb.mono (by decide)).sub h4ac
  have hDS := hD.mul hS
  have hu : Bd 2000 ((r.b * r.b - 4 * r.a * r.c) * S * S) := (hDS.mul hS).mono (by decide)
  have hu0 : 0 ≤ (r.b * r.b - 4 * r.a * r.c) * S * S := by
    have h1 : 0 ≤ r.b * r.b := by
      rcases Int.le_total 0 r.b with z | z
      · exact Int.mul_nonneg z z
      · have := Int.mul_nonneg (show 0 ≤ -r.b by omega) (show 0 ≤ -r.b by omega)
        rwa [Int.neg_mul_neg] at this
    have h2 : 0 ≤ r.a * -r.c := Int.mul_nonneg (by have := hr.a0; omega) (by have := hr.c1; omega)
    have h3 : 0 ≤ r.b * r.b - 4 * r.a * r.c := by
      have : 4 * r.a * r.c = -(4 * (r.a * -r.c)) := by grind
      omega
    exact Int.mul_nonneg (Int.mul_nonneg h3 (by omega)) (by omega)
  have m1 := mulB s hr.b hr.b (by decide) (by decide) (by decide)
  have m2 := mulB s (show Bd 3 4 by decide) hr.a (by decide) (by decide) (by decide)
  have m3 := mulB s h4a hr.c (by decide) (by decide) (by decide)
  have m4 := mulB s hD hS (by decide) (by decide) (by decide)
  have m5 := mulB s hDS hS (by decide) (by decide) (by decide)
  obtain ⟨k, k1, k2, e1⟩ := lf_up hu0 hu (some (rootD r)) (some (.int S)) (some (.str "root")) (some (.int r.a)) (some (.int r.b)) (some (.int r.c)) none s
  obtain ⟨q, q0, q1, q2, e2⟩ := lf_down hu0 hu (some (rootD r)) (some (.int S)) (some (.str "root")) (some (.int r.a)) (some (.int r.b)) (some (.int r.c)) none s k1 k2
  obtain ⟨g1, g2⟩ := guess hr hS0 q0 q1 q2
  obtain ⟨t, t0, t1, t2, e3⟩ := lf_last hr hS0 hS (some (rootD r)) (some (.str "root")) (some (.int ((r.b * r.b - 4 * r.a * r.c) * S * S))) (some (.int q)) (some (.int 0)) s g1 g2
  refine ⟨t, t0, t1, t2, ?_⟩
  have m6 := mulB s hr.b hS (by decide) (by decide) (by decide)
  have m7 := mulB s (show Bd 3 2 by decide) hr.a (by decide) (by decide) (by decide)
  have d1 := fdivB (i := q - r.b * S) s ((show Bd 3 2 by decide).mul hr.a) (by have := hr.a0; omega) (by decide) (by decide)
  have hg : mgTup 4 (mgCons (mgName 2) (mgCons (mgName 3) (mgCons (mgName 4) (mgCons (mgName 5) mgNil)))) (rootD r) [some (rootD r), some (.int S), none, none, none, none, none, none, none, none] s = .ok [some (rootD r), some (.int S), some (.str "root"), some (.int r.a), some (.int r.b), some (.int r.c), none, none, none, none] s := rfl
  unfold r__law_floor
  simp only [t__law_floor_2, t__law_floor_3, t__law_floor_4, t__law_floor_5, t__law_floor_7, t__law_floor_11, t__law_floor_12, t__law_floor_14]
  generalize (2 : Int) ^ k = p2 at *
  generalize (q - r.b * S).fdiv (2 * r.a) = t9 at *
  generalize rootD r = rd at *
  generalize mgTup 4 (mgCons (mgName 2) (mgCons (mgName 3) (mgCons (mgName 4) (mgCons (mgName 5) mgNil)))) = tg at *
  repeat (first | walk_at "sem1" | simp only [hg, m1, m2, m3, m4, m5, m6, m7, d1, e1, e2, e3])
/-! ### steps one by one -/
theorem mOp_ok {f : D → D → Sto → R D} {ma mb : ME} {l : DL.Loc} {s s1 s2 : Sto} {d e : D} (ha : ma l s = .ok d s1) (hb : mb l s1 = .ok e s2) : mOp f ma mb l s = f d e s2 := by
  unfold mOp; rw [ha]; simp only [R.bind_ok]; rw [hb]; rfl
theorem mUn_ok {f : D → Sto → R D} {ma : ME} {l : DL.Loc} {s s1 : Sto} {d : D} (ha : ma l s = .ok d s1) : mUn f ma l s = f d s1 := by
  unfold mUn; rw [ha]; rfl
theorem mCons_ok {m : ME} {ms : MA} {l : DL.Loc} {s s1 s2 : Sto} {d : D} {ds : List D} (ha : m l s = .ok d s1) (hb : ms l s1 = .ok ds s2) : mCons m ms l s = .ok (d :: ds) s2 := by
  unfold mCons; rw [ha]; simp only [R.bind_ok]; rw [hb]; rfl
theorem mPar_ok {i j : Nat} {ma : MA} {l : DL.Loc} {s s1 : Sto} {d e : D} (h : ma l s = .ok [d, e] s1) : mPar i j ma l s = .nx ((l.set i (some d)).set j (some e)) s1 := by
  unfold mPar; rw [h]; rfl
/-! ### the program's square root -/
theorem bits_lt (n : Int) (h : 0 < n) : n < 2 ^ (Builtin.Int.intBits n) := by
  unfold Builtin.Int.intBits
  rw [if_neg (by simp; omega)]
  have h1 : n.natAbs < 2 ^ (n.natAbs.log2 + 1) := Nat.lt_log2_self
  have h2 : ((n.natAbs : Nat) : Int) < ((2 ^ (n.natAbs.log2 + 1) : Nat) : Int) := Int.ofNat_lt.mpr h1
  have e : ((2 ^ (n.natAbs.log2 + 1) : Nat) : Int) = (2 : Int) ^ (n.natAbs.log2 + 1) := by push_cast; rfl
  rw [e] at h2
  omega
theorem bits_le (n : Int) {m : Nat} (h : Bd m n) : Builtin.Int.intBits n ≤ m := by
  unfold Builtin.Int.intBits
  split
  · omega
  · rename_i h0
    have h0 : n ≠ 0 := by simpa using h0
    have := (Nat.log2_lt (by omega)).mpr h
    omega
theorem half_lt {a b : Int} (h : 1 < b - a) : a < (a + b).fdiv 2 ∧ (a + b).fdiv 2 < b := by
  rw [Int.fdiv_eq_ediv_of_nonneg _ (by decide)]; omega
theorem sqrt_ok {n : Int} (h0 : 0 ≤ n) {m : Nat} (hb : Bd m n) (hm : m ≤ 4000) (s : Sto) : ∃ q : Int, 0 ≤ q ∧ q * q ≤ n ∧ n < (q + 1) * (q + 1) ∧ r_square_root [.int n] s = .ok (.int q) s := by
  by_cases h2 : n < 2
  · have c : decide (n < 2) = true := decide_eq_true h2
    refine ⟨n, h0, ?_, ?_, ?_⟩
    · rcases (show n = 0 ∨ n = 1 by omega) with rfl | rfl <;> decide
    · rcases (show n = 0 ∨ n = 1 by omega) with rfl | rfl <;> decide
    · unfold r_square_root
      repeat (first | walk_at "sem1" | simp only [c])
  · have c : decide (n < 2) = false := decide_eq_false h2
    have hbits : Builtin.Int.intBits n ≤ 4000 := Nat.le_trans (bits_le n hb) hm
    have d1 := fdivB (i := (Builtin.Int.intBits n : Int) + 1) s (show Bd 10 2 by decide) (by decide) (by decide) (by decide)
    obtain ⟨k, hk⟩ : ∃ k : Nat, ((Builtin.Int.intBits n : Int) + 1).fdiv 2 + 1 = (k : Int) := ⟨(((Builtin.Int.intBits n : Int) + 1).fdiv 2 + 1).toNat, by
      rw [Int.fdiv_eq_ediv_of_nonneg _ (by decide)]; omega⟩
    have hk2 : Builtin.Int.intBits n + 2 ≤ 2 * k ∧ k ≤ 3000 := by
      rw [Int.fdiv_eq_ediv_of_nonneg _ (by decide)] at hk; omega
    have sh : shlD (.int 1) (.int (((Builtin.Int.intBits n : Int) + 1).fdiv 2 + 1)) s = .ok (.int (2 ^ k)) s := by
      have hp : powOk 1 (k : Int) = true := by
        unfold powOk
        simp only [Bool.and_eq_true, decide_eq_true_eq]
        exact ⟨⟨by omega, by omega⟩, by decide⟩
      rw [hk]
      simp only [shlD, hp, if_true, Int.toNat_natCast, Int.one_mul]
    have hhi : n < (2 : Int) ^ k * 2 ^ k := by
      have h1 := bits_lt n (by omega)
      have h3 : (2 : Int) ^ (Builtin.Int.intBits n) ≤ 2 ^ (2 * k) := by
        have : (2 : Nat) ^ (Builtin.Int.intBits n) ≤ 2 ^ (2 * k) := Nat.pow_le_pow_right (by decide) (by omega)
        exact_mod_cast this
      have h4 : (2 : Int) ^ (2 * k) = 2 ^ k * 2 ^ k := by rw [Nat.two_mul, Int.pow_add]
      rw [h4] at h3
      generalize (2 : Int) ^ k * 2 ^ k = y at *
      generalize (2 : Int) ^ (Builtin.Int.intBits n) = z at *
      omega
    have bdk : Bd 3001 (2 ^ k) := by
      unfold Bd
      rw [Int.natAbs_pow]
      exact Nat.pow_lt_pow_right (by decide) (by omega)
    obtain ⟨n', l', s', e, ⟨lo, hi, x3, el, et, p1, p2, p3, p4, p5, hn⟩, hf⟩ := while_inv (mc := mTest (mOp gtD (mOp subD (mVar 2) (mVar 1)) (mC (.int 1)))) (mb := b_square_root_4)
      (fun m l t => ∃ lo hi x3, l = [some (.int n), some (.int lo), some (.int hi), x3] ∧ t = s ∧ 0 ≤ lo ∧ lo < hi ∧ lo * lo ≤ n ∧ n < hi * hi ∧ Bd 3001 hi ∧ m = (hi - lo).toNat)
      (fun m l t ⟨lo, hi, x3, el, et, p1, p2, p3, p4, p5, hn⟩ => by
        subst el et
        by_cases h : 1 < hi - lo
        · right
          have c1 : decide (1 < hi - lo) = true := decide_eq_true h
          obtain ⟨g1, g2⟩ := half_lt h
          have d2 := fdivB (i := lo + hi) t (show Bd 10 2 by decide) (by decide) (by decide) (by decide)
          have hmid : Bd 3001 ((lo + hi).fdiv 2) := by
            unfold Bd at p5 ⊢
            generalize (2 : Nat) ^ 3001 = m3 at *
            omega
          generalize (lo + hi).fdiv 2 = mid at *
          have m1 := mulB t hmid hmid (by decide) (by decide) (by decide)
          by_cases h3 : mid * mid ≤ n
          · have c3 : decide (mid * mid ≤ n) = true := decide_eq_true h3
            refine ⟨?_, (hi - mid).toNat, [some (.int n), some (.int mid), some (.int hi), some (.int mid)], t, by omega, .inl ?_, mid, hi, some (.int mid), rfl, rfl, by omega, by omega, h3, p4, p5, rfl⟩
            · repeat (first | walk_at "sem1" | simp only [c1])
            · unfold b_square_root_4
              simp only [t_square_root_6]
              repeat (first | walk_at "sem1" | simp only [d2, m1, c3])
          · have c3 : decide (mid * mid ≤ n) = false := decide_eq_false h3
            refine ⟨?_, (mid - lo).toNat, [some (.int n), some (.int lo), some (.int mid), some (.int mid)], t, by omega, .inl ?_, lo, mid, some (.int mid), rfl, rfl, by omega, by omega, p3, by omega, hmid, rfl⟩
            · repeat (first | walk_at "sem1" | simp only [c1])
            · unfold b_square_root_4
              simp only [t_square_root_6]
              repeat (first | walk_at "sem1" | simp only [d2, m1, c3])
        · left
          have c1 : decide (1 < hi - lo) = false := decide_eq_false h
          repeat (first | walk_at "sem1" | simp only [c1]))
      _ [some (.int n), some (.int 1), some (.int (2 ^ k)), none] s ⟨1, 2 ^ k, none, rfl, rfl, by decide, by
        rcases Int.lt_or_le 1 (2 ^ k) with z | z
        · exact z
        · exfalso
          have h5 := two_pow_pos k
          have : (2 : Int) ^ k = 1 := by omega
          rw [this] at hhi
          omega, by omega, hhi, bdk, rfl⟩
    subst el et
    have hlt : hi = lo + 1 := by
      rcases Int.lt_or_le 1 (hi - lo) with z | z
      · exfalso
        have c1 : decide (1 < hi - lo) = true := decide_eq_true z
        have : mTest (mOp gtD (mOp subD (mVar 2) (mVar 1)) (mC (.int 1))) [some (.int n), some (.int lo), some (.int hi), x3] s' = .ok true s' := by
          repeat (first | walk_at "sem1" | simp only [c1])
        rw [this] at hf
        cases hf
      · omega
    subst hlt
    refine ⟨lo, p1, p3, p4, ?_⟩
    have e : l_square_root_4 [some (.int n), some (.int 1), some (.int (2 ^ k)), none] s' = .nx [some (.int n), some (.int lo), some (.int (lo + 1)), x3] s' := e
    generalize (2 : Int) ^ k = pk at *
    generalize ((Builtin.Int.intBits n : Int) + 1).fdiv 2 = fd at *
    have hbits : mUn bitsD (mVar 0) [some (.int n), none, none, none] s' = .ok (.int (Builtin.Int.intBits n : Int)) s' := mUn_ok (d := .int n) (s1 := s') rfl
    generalize (Builtin.Int.intBits n : Int) = bb at *
    have hadd : mOp addD (mUn bitsD (mVar 0)) (mC (.int 1)) [some (.int n), none, none, none] s' = .ok (.int (bb + 1)) s' := mOp_ok hbits (e := .int 1) (s2 := s') rfl
    have hdiv : mOp fdivD (mOp addD (mUn bitsD (mVar 0)) (mC (.int 1))) (mC (.int 2)) [some (.int n), none, none, none] s' = .ok (.int fd) s' := (mOp_ok hadd (e := .int 2) (s2 := s') rfl).trans d1
    have hadd2 : mOp addD (mOp fdivD (mOp addD (mUn bitsD (mVar 0)) (mC (.int 1))) (mC (.int 2))) (mC (.int 1)) [some (.int n), none, none, none] s' = .ok (.int (fd + 1)) s' := mOp_ok hdiv (e := .int 1) (s2 := s') rfl
    have hshl : mOp shlD (mC (.int 1)) (mOp addD (mOp fdivD (mOp addD (mUn bitsD (mVar 0)) (mC (.int 1))) (mC (.int 2))) (mC (.int 1))) [some (.int n), none, none, none] s' = .ok (.int pk) s' := (mOp_ok (d := .int 1) (s1 := s') rfl hadd2).trans sh
    have hpar : mPar 1 2 (mCons (mC (.int 1)) (mCons (mOp shlD (mC (.int 1)) (mOp addD (mOp fdivD (mOp addD (mUn bitsD (mVar 0)) (mC (.int 1))) (mC (.int 2))) (mC (.int 1)))) mNil)) [some (.int n), none, none, none] s' = .nx [some (.int n), some (.int 1), some (.int pk), none] s' := mPar_ok (mCons_ok rfl (mCons_ok hshl rfl))
    have key : ∀ mp lp : MS, mp [some (.int n), none, none, none] s' = .nx [some (.int n), some (.int 1), some (.int pk), none] s' → lp [some (.int n), some (.int 1), some (.int pk), none] s' = .nx [some (.int n), some (.int lo), some (.int (lo + 1)), x3] s' → mDef backF 1 4 (mSeq (mIfS (mTest (mOp ltD (mVar 0) (mC (D.int 2)))) (mRet (mVar 0)) mNext) (mSeq mp (mSeq lp (mRet (mVar 1))))) [.int n] s' = .ok (.int lo) s' := fun mp lp hpar e => by
      repeat (first | walk_at "sem1" | simp only [c, hpar, e])
    exact key _ _ hpar e
/-! ### the fraction that a root is -/
def disc (r : Rt) : Int := r.b * r.b - 4 * r.a * r.c
theorem sq_uniq {n p q : Int} (hp : 0 ≤ p) (hq : 0 ≤ q) (h1 : p * p ≤ n) (h2 : n < (p + 1) * (p + 1)) (h3 : q * q ≤ n) (h4 : n < (q + 1) * (q + 1)) : p = q := by
  have := sq_lt_of hp (show 0 ≤ q + 1 by omega) (by omega)
  have := sq_lt_of hq (show 0 ≤ p + 1 by omega) (by omega)
  omega
theorem disc_nn {r : Rt} (hr : SzR r) : 0 ≤ disc r := by
  have h1 : 0 ≤ r.b * r.b := by
    rcases Int.le_total 0 r.b with z | z
    · exact Int.mul_nonneg z z
    · have := Int.mul_nonneg (show 0 ≤ -r.b by omega) (show 0 ≤ -r.b by omega)
      rwa [Int.neg_mul_neg] at this
  have h2 : 0 ≤ r.a * -r.c := Int.mul_nonneg (by have := hr.a0; omega) (by have := hr.c1; omega)
  have : 4 * r.a * r.c = -(4 * (r.a * -r.c)) := by grind
  unfold disc
  omega
theorem disc_bd {r : Rt} (hr : SzR r) : Bd 404 (disc r) := ((hr.b.mul hr.b).mono (by decide)).sub (((show Bd 3 4 by decide).mul hr.a).mul hr.c)
/-- the whole root of the part below, if it is one -/
theorem fracby_ok {r : Rt} (hr : SzR r) (s : Sto) {q : Int} (q0 : 0 ≤ q) (q1 : q * q ≤ disc r) (q2 : disc r < (q + 1) * (q + 1)) :
    r_fraction_by [rootD r] s = .ok (if q * q = disc r then fr (Rat.divInt (q - r.b) (2 * r.a)) else .non) s := by
  obtain ⟨p, p0, p1, p2, e⟩ := sqrt_ok (disc_nn hr) (disc_bd hr) (by decide) s
  have hpq := sq_uniq p0 q0 p1 p2 q1 q2
  subst hpq
  have hp : Bd 405 p := by
    have hd := disc_bd hr
    unfold Bd at hd ⊢
    have h1 : p ≤ disc r ∨ p ≤ 0 := by
      rcases Int.lt_or_le 0 p with z | z
      · left
        have : p * 1 ≤ p * p := Int.mul_le_mul_of_nonneg_left (by omega) p0
        omega
      · exact .inr z
    have e1 : (2 : Nat) ^ 405 = 2 ^ 404 * 2 := by rw [← Nat.pow_succ]
    have e2 : (0 : Nat) < 2 ^ 404 := Nat.pow_pos (by decide)
    rw [e1]
    generalize (2 : Nat) ^ 404 = m at *
    omega
  have m1 := mulB s hr.b hr.b (by decide) (by decide) (by decide)
  have m2 := mulB s (show Bd 3 4 by decide) hr.a (by decide) (by decide) (by decide)
  have m3 := mulB s ((show Bd 3 4 by decide).mul hr.a) hr.c (by decide) (by decide) (by decide)
  have m4 := mulB s hp hp (by decide) (by decide) (by decide)
  have m5 := mulB s (show Bd 3 2 by decide) hr.a (by decide) (by decide) (by decide)
  have f1 := fraction_ok (p := p - r.b) s (N := 203) ((show Bd 3 2 by decide).mul hr.a) (by have := hr.a0; omega) (by decide) (by decide)
  have hg : mgTup 4 (mgCons (mgName 1) (mgCons (mgName 2) (mgCons (mgName 3) (mgCons (mgName 4) mgNil)))) (rootD r) [some (rootD r), none, none, none, none, none, none] s = .ok [some (rootD r), some (.str "root"), some (.int r.a), some (.int r.b), some (.int r.c), none, none] s := rfl
  have hd : r.b * r.b - 4 * r.a * r.c = disc r := rfl
  unfold r_fraction_by
  generalize disc r = d at *
  generalize rootD r = rd at *
  generalize mgTup 4 (mgCons (mgName 1) (mgCons (mgName 2) (mgCons (mgName 3) (mgCons (mgName 4) mgNil)))) = tg at *
  by_cases h : p * p = d
  · have c : (!(p * p == d)) = false := by simp [h]
    rw [if_pos h]
    repeat (first | walk_at "sem1" | simp only [hg, m1, m2, m3, hd, e, m4, c, m5, f1])
  · have c : (!(p * p == d)) = true := by simp [h]
    rw [if_neg h]
    repeat (first | walk_at "sem1" | simp only [hg, m1, m2, m3, hd, e, m4, c])
/-! ### order -/
theorem fx_root {r : Rt} (hr : SzR r) {q : Int} (h : q * q = disc r) (q0 : 0 ≤ q) : fx r (Rat.divInt (q - r.b) (2 * r.a)) = 0 ∧ 0 < Rat.divInt (q - r.b) (2 * r.a) := by
  have ha := hr.a0
  have hc := hr.c1
  have e : Rat.divInt (q - r.b) (2 * r.a) = ((q : Rat) - r.b) / (2 * r.a) := by
    rw [Rat.divInt_eq_div, Rat.intCast_sub, Rat.intCast_mul]; rfl
  have ha' : (0 : Rat) < r.a := Rat.intCast_pos.mpr (by omega)
  have hq : (q : Rat) * q = r.b * r.b - 4 * r.a * r.c := by
    have := congrArg (fun z : Int => (z : Rat)) h
    simp only [disc, Rat.intCast_mul, Rat.intCast_sub] at this
    exact this
  constructor
  · rw [e]; unfold fx; grind
  · refine divInt_pos ?_ (by omega)
    have h1 : r.b * r.b < q * q := by
      have : 0 < r.a * -r.c := Int.mul_pos (by omega) (by omega)
      have : 4 * r.a * r.c = -(4 * (r.a * -r.c)) := by grind
      unfold disc at h
      omega
    rcases Int.lt_or_le 0 r.b with z | z
    · have := sq_lt_of (Int.le_of_lt z) q0 h1; omega
    · rcases Int.lt_or_le q (-r.b) with w | w
      · exfalso
        have := Int.mul_le_mul (Int.le_of_lt w) (Int.le_of_lt w) q0 (by omega)
        rw [Int.neg_mul_neg] at this
        omega
      · rcases Int.lt_or_le r.b q with w2 | w2
        · omega
        · exfalso
          have : q = 0 ∧ r.b = 0 := by omega
          rw [this.1, this.2] at h1
          omega
/-- a square that is a whole number times a square -/
theorem sq_of_sq {d v w : Int} (hv : v ≠ 0) (h : d * (v * v) = w * w) : ∃ q : Int, 0 ≤ q ∧ q * q = d := by
  have h1 : (v ^ 2 : Int) ∣ w ^ 2 := ⟨d, by rw [Int.pow_succ, Int.pow_succ, Int.pow_zero, Int.one_mul, Int.pow_succ, Int.pow_succ, Int.pow_zero, Int.one_mul, ← h, Int.mul_comm]⟩
  have h2 : v.natAbs ^ 2 ∣ w.natAbs ^ 2 := by
    rw [← Int.natAbs_pow, ← Int.natAbs_pow]
    exact Int.natAbs_dvd_natAbs.mpr h1
  have h3 : v.natAbs ∣ w.natAbs := (Nat.pow_dvd_pow_iff (by decide)).mp h2
  have h4 : v ∣ w := Int.natAbs_dvd_natAbs.mp h3
  obtain ⟨k, rfl⟩ := h4
  have h5 : d * (v * v) = (k * k) * (v * v) := by rw [h]; grind
  have h6 : d = k * k := Int.eq_of_mul_eq_mul_right (Int.mul_ne_zero hv hv) h5
  refine ⟨k.natAbs, by omega, ?_⟩
  rw [h6, ← Int.natAbs_mul_self' k]
/-- a root that is no fraction is nothing nowhere -/
theorem fx_ne {r : Rt} (hr : SzR r) {q : Int} (q0 : 0 ≤ q) (q1 : q * q ≤ disc r) (q2 : disc r < (q + 1) * (q + 1)) (hn : q * q ≠ disc r) (x : Rat) : fx r x ≠ 0 := by
  intro h
  have e := FS_fx r (den_pos' x) x.num
  rw [num_div_den, h, Rat.mul_zero] at e
  have e1 : FS r x.den x.num = 0 := by
    have : ((FS r x.den x.num : Int) : Rat) = ((0 : Int) : Rat) := e
    exact Rat.intCast_inj.mp this
  have e2 : disc r * ((x.den : Int) * x.den) = (2 * r.a * x.num + r.b * x.den) * (2 * r.a * x.num + r.b * x.den) := by
    have : 4 * r.a * FS r x.den x.num = 0 := by rw [e1, Int.mul_zero]
    unfold FS at this
    unfold disc
    generalize (x.den : Int) = v at *
    grind
  obtain ⟨p, p0, p1⟩ := sq_of_sq (den_ne x) e2
  have := sq_uniq q0 p0 q1 q2 (by omega) (by
    have : p * p < (p + 1) * (p + 1) := by
      have : (p + 1) * (p + 1) = p * p + 2 * p + 1 := by grind
      omega
    omega)
  subst this
  exact hn p1
/-- values at fractions are not too near to nothing -/
theorem fx_gap (r : Rt) {x : Rat} (hd : (x.den : Int) ≤ 10 ^ 9) (h : fx r x ≠ 0) : 1 / 10 ^ 20 ≤ fx r x ∨ fx r x ≤ -(1 / 10 ^ 20) := by
  have e := FS_fx r (den_pos' x) x.num
  rw [num_div_den] at e
  have hv : (0 : Rat) < ((x.den : Int) : Rat) := Rat.intCast_pos.mpr (den_pos' x)
  have hv1 : ((x.den : Int) : Rat) ≤ 10 ^ 9 := by
    have := cast_le hd
    have e9 : (((10 : Int) ^ 9 : Int) : Rat) = 10 ^ 9 := by decide +kernel
    rwa [e9] at this
  generalize ((x.den : Int) : Rat) = v at *
  have hvv : 0 < v * v := Rat.mul_pos hv hv
  have hvv1 : v * v ≤ 10 ^ 18 := by
    have h1 := rat_mul_nonneg (show 0 ≤ (10 : Rat) ^ 9 - v by grind) (Rat.le_of_lt hv)
    have h2 : (10 : Rat) ^ 9 * v ≤ 10 ^ 9 * 10 ^ 9 := by
      have := rat_mul_nonneg (show (0 : Rat) ≤ 10 ^ 9 by decide +kernel) (show 0 ≤ (10 : Rat) ^ 9 - v by grind)
      grind
    have h3 : (10 : Rat) ^ 9 * 10 ^ 9 = 10 ^ 18 := by decide +kernel
    grind
  have hne : FS r x.den x.num ≠ 0 := fun z => by
    rw [z] at e
    have e0 : v * v * fx r x = 0 := e.symm
    rcases Rat.mul_eq_zero.mp e0 with w | w
    · grind
    · exact h w
  have hs : (1 : Rat) / 10 ^ 20 * 10 ^ 18 < 1 := by decide +kernel
  have hp : (0 : Rat) < 1 / 10 ^ 20 := by decide +kernel
  generalize (1 : Rat) / 10 ^ 20 = eps at *
  generalize (10 : Rat) ^ 18 = b18 at *
  rcases Int.lt_or_lt_of_ne hne with z | z
  · right
    have h1 : ((FS r x.den x.num : Int) : Rat) ≤ -1 := cast_le (show FS r x.den x.num ≤ -1 by omega)
    rcases (show fx r x ≤ -eps ∨ -eps < fx r x by grind) with w | w
    · exact w
    · exfalso
      have := Rat.mul_pos hvv (show 0 < fx r x + eps by grind)
      have := rat_mul_nonneg (Rat.le_of_lt hp) (show 0 ≤ b18 - v * v by grind)
      grind
  · left
    have h1 : (1 : Rat) ≤ ((FS r x.den x.num : Int) : Rat) := cast_le (show 1 ≤ FS r x.den x.num by omega)
    rcases (show eps ≤ fx r x ∨ fx r x < eps by grind) with w | w
    · exact w
    · exfalso
      have := Rat.mul_pos hvv (show 0 < eps - fx r x by grind)
      have := rat_mul_nonneg (Rat.le_of_lt hp) (show 0 ≤ b18 - v * v by grind)
      grind
theorem den_le {p q : Int} (hq : q ≠ 0) {N : Int} (h : (q.natAbs : Int) ≤ N) : ((Rat.divInt p q).den : Int) ≤ N := by
  have key : ∀ {p q : Int}, 0 < q → ((Rat.divInt p q).den : Int) ≤ q := fun {p q} hq => by
    rw [divInt_den hq, Int.fdiv_eq_ediv_of_nonneg _ (by omega)]
    exact Int.ediv_le_self _ (by omega)
  rcases Int.lt_or_lt_of_ne hq with z | z
  · rw [← Rat.neg_divInt_neg]
    have := key (p := -p) (q := -q) (by omega)
    omega
  · have := key (p := p) z
    omega
theorem sign_int (p : Int) (s : Sto) : r_sign [.tup [.int p, .int 1]] s = .ok (.int p.sign) s := by
  have i0 : ixD (.tup [.int p, .int 1]) (.int 0) s = .ok (.int p) s := rfl
  unfold r_sign
  repeat (first | walk_at "sem1" | simp only [i0])
  rw [sign_sub]
theorem isqrt_ex (n : Int) (h : 0 ≤ n) : ∃ q : Int, 0 ≤ q ∧ q * q ≤ n ∧ n < (q + 1) * (q + 1) := by
  obtain ⟨m, rfl⟩ : ∃ m : Nat, n = m := ⟨n.toNat, by omega⟩
  induction m with
  | zero => exact ⟨0, by decide, by decide, by decide⟩
  | succ m ih =>
    obtain ⟨q, q0, q1, q2⟩ := ih (by omega)
    by_cases e : (q + 1) * (q + 1) ≤ ((m + 1 : Nat) : Int)
    · refine ⟨q + 1, by omega, e, ?_⟩
      have : (q + 1 + 1) * (q + 1 + 1) = (q + 1) * (q + 1) + 2 * q + 3 := by grind
      omega
    · exact ⟨q, q0, by omega, by omega⟩
/-- what order tells -/
theorem order_ok {r r' : Rt} (h : OkR r) (h' : OkR r') (s : Sto) (l1 : r_look_at_root [rootD r] s = .ok .non s) (l2 : r_look_at_root [rootD r'] s = .ok .non s) {t t' : Int} (f : Flo r gapS t) (f' : Flo r' gapS t') :
    r_order [rootD r, rootD r'] s = .ok (.int (t - t').sign) s := by
  have hr := h.sz
  have hr' := h'.sz
  obtain ⟨q, q0, q1, q2⟩ := isqrt_ex (disc r) (disc_nn hr)
  obtain ⟨p, p0, p1, p2⟩ := isqrt_ex (disc r') (disc_nn hr')
  have e1 := fracby_ok hr s q0 q1 q2
  have e2 := fracby_ok hr' s p0 p1 p2
  have ha := h.a0; have ha1 := h.a1; have ha' := h'.a0; have ha1' := h'.a1
  have smf : ∀ {r : Rt} {q : Int}, SzR r → 0 ≤ q → q * q ≤ disc r → Sm 500 (Rat.divInt (q - r.b) (2 * r.a)) := fun {r q} hr q0 q1 => by
    have hq : Bd 405 q := by
      have hd := disc_bd hr
      unfold Bd at hd ⊢
      have h1 : q ≤ disc r ∨ q ≤ 0 := by
        rcases Int.lt_or_le 0 q with z | z
        · left
          have : q * 1 ≤ q * q := Int.mul_le_mul_of_nonneg_left (by omega) q0
          omega
        · exact .inr z
      have e1 : (2 : Nat) ^ 405 = 2 ^ 404 * 2 := by rw [← Nat.pow_succ]
      have e2 : (0 : Nat) < 2 ^ 404 := Nat.pow_pos (by decide)
      rw [e1]
      generalize (2 : Nat) ^ 404 = m at *
      omega
    exact (divInt_sm (N := 406) (hq.sub (hr.b.mono (by decide))) (((show Bd 3 2 by decide).mul hr.a).mono (by decide)) (by have := hr.a0; omega)).mono (by decide)
  unfold r_order
  simp only [t_order_2, t_order_3, t_order_4]
  by_cases hp : p * p = disc r'
  · rw [if_pos hp] at e2
    obtain ⟨z0, z1⟩ := fx_root hr' hp p0
    have hden : ((Rat.divInt (p - r'.b) (2 * r'.a)).den : Int) ≤ 10 ^ 9 := den_le (by omega) (by omega)
    have hres := ord_frac h h' z1 z0 (e := 1 / 10 ^ 20) Rat.le_refl (by
      by_cases e : fx r (Rat.divInt (p - r'.b) (2 * r'.a)) = 0
      · exact .inl e
      · exact .inr (fx_gap r hden e)) f f'
    have hc := cmpby_ok hr (smf hr' p0 p1) (by decide) (by decide) s
    rw [hres] at hc
    have nn : notND (fr (Rat.divInt (p - r'.b) (2 * r'.a))) .non s = .ok (.bl true) s := rfl
    generalize fr (Rat.divInt (p - r'.b) (2 * r'.a)) = x at *
    generalize rootD r = rd at *
    generalize rootD r' = rd' at *
    generalize t_order_6 = rest at *
    repeat (first | walk_at "sem1" | simp only [l1, l2, e2, nn, hc])
  · rw [if_neg hp] at e2
    have nn : notND D.non .non s = .ok (.bl false) s := rfl
    simp only [t_order_6, t_order_7]
    by_cases hq : q * q = disc r
    · rw [if_pos hq] at e1
      obtain ⟨z0, z1⟩ := fx_root hr hq q0
      have hden : ((Rat.divInt (q - r.b) (2 * r.a)).den : Int) ≤ 10 ^ 9 := den_le (by omega) (by omega)
      have hres := ord_frac h' h z1 z0 (e := 1 / 10 ^ 20) Rat.le_refl (by
        by_cases e : fx r' (Rat.divInt (q - r.b) (2 * r.a)) = 0
        · exact .inl e
        · exact .inr (fx_gap r' hden e)) f' f
      have hc := cmpby_ok hr' (smf hr q0 q1) (by decide) (by decide) s
      rw [hres] at hc
      have hs : -((t' - t).sign) = (t - t').sign := by rw [← Int.sign_neg]; congr 1; omega
      have nn2 : notND (fr (Rat.divInt (q - r.b) (2 * r.a))) .non s = .ok (.bl true) s := rfl
      generalize fr (Rat.divInt (q - r.b) (2 * r.a)) = x at *
      generalize rootD r = rd at *
      generalize rootD r' = rd' at *
      generalize t_order_9 = rest at *
      repeat (first | walk_at "sem1" | simp only [l1, l2, e1, e2, nn, nn2, hc, hs])
    · rw [if_neg hq] at e1
      have irr := fx_ne hr' p0 p1 p2 hp
      have g1 : mgTup 4 (mgCons (mgName 3) (mgCons (mgName 4) (mgCons (mgName 5) (mgCons (mgName 6) mgNil)))) (rootD r) [some (rootD r), some (rootD r'), some .non, none, none, none, none, none, none, none, none, none, none] s = .ok [some (rootD r), some (rootD r'), some .non, some (.str "root"), some (.int r.a), some (.int r.b), some (.int r.c), none, none, none, none, none, none] s := rfl
      have g2 : mgTup 4 (mgCons (mgName 3) (mgCons (mgName 7) (mgCons (mgName 8) (mgCons (mgName 9) mgNil)))) (rootD r') [some (rootD r), some (rootD r'), some .non, some (.str "root"), some (.int r.a), some (.int r.b), some (.int r.c), none, none, none, none, none, none] s = .ok [some (rootD r), some (rootD r'), some .non, some (.str "root"), some (.int r.a), some (.int r.b), some (.int r.c), some (.int r'.a), some (.int r'.b), some (.int r'.c), none, none, none] s := rfl
      have m1 := mulB s hr.b hr'.a (by decide) (by decide) (by decide)
      have m2 := mulB s hr.a hr'.b (by decide) (by decide) (by decide)
      have m3 := mulB s hr.c hr'.a (by decide) (by decide) (by decide)
      have m4 := mulB s hr.a hr'.c (by decide) (by decide) (by decide)
      have d1 : r.b * r'.a - r.a * r'.b = byOne r r' := rfl
      have d2 : r.c * r'.a - r.a * r'.c = fixed r r' := rfl
      have s1 := sign_int (byOne r r') s
      have s2 := sign_int (fixed r r') s
      simp only [t_order_9, t_order_10, t_order_11, t_order_12, t_order_13, t_order_17]
      have z2 : (2 : Nat) ≤ 100000 := by decide
      by_cases hb : byOne r r' = 0
      · have hres := ord_par h h' hb f f'
        have c0 : (byOne r r' == 0) = true := by simp [hb]
        generalize byOne r r' = bo at *
        generalize fixed r r' = fi at *
        generalize rootD r = rd at *
        generalize rootD r' = rd' at *
        generalize mgTup 4 (mgCons (mgName 3) (mgCons (mgName 4) (mgCons (mgName 5) (mgCons (mgName 6) mgNil)))) = tg1 at *
        generalize mgTup 4 (mgCons (mgName 3) (mgCons (mgName 7) (mgCons (mgName 8) (mgCons (mgName 9) mgNil)))) = tg2 at *
        repeat (first | walk_at "sem1" | simp only [l1, l2, e1, e2, nn, g1, g2, m1, m2, m3, m4, d1, d2, c0, s2, hres, z2])
      · have c0 : (byOne r r' == 0) = false := by simp [hb]
        have hbb : Bd 401 (byOne r r') := (hr.b.mul hr'.a).sub (hr.a.mul hr'.b)
        have hbf : Bd 401 (fixed r r') := (hr.c.mul hr'.a).sub (hr.a.mul hr'.c)
        have f1 := fraction_ok (p := -fixed r r') s hbb hb (by decide) (by decide)
        have smx : Sm 401 (Rat.divInt (-fixed r r') (byOne r r')) := divInt_sm hbf.neg hbb hb
        have hc := cmpby_ok hr' smx (by decide) (by decide) s
        have hx : (byOne r r' : Rat) * Rat.divInt (-fixed r r') (byOne r r') + fixed r r' = 0 := by
          have hb' : ((byOne r r' : Int) : Rat) ≠ 0 := fun z => hb (Rat.intCast_inj.mp z)
          rw [Rat.divInt_eq_div, Rat.intCast_neg]
          grind
        have hden : ((Rat.divInt (-fixed r r') (byOne r r')).den : Int) ≤ 10 ^ 9 := by
          refine den_le hb ?_
          have k1 := h.b0; have k2 := h.b1; have k3 := h'.b0; have k4 := h'.b1
          have u1 : (r.b * r'.a).natAbs ≤ 30 * 60 := by rw [Int.natAbs_mul]; exact Nat.mul_le_mul (by omega) (by omega)
          have u2 : (r.a * r'.b).natAbs ≤ 60 * 30 := by rw [Int.natAbs_mul]; exact Nat.mul_le_mul (by omega) (by omega)
          unfold byOne
          omega
        have hres := ord_line h h' hb hx (e := 1 / 10 ^ 20) Rat.le_refl (fx_gap r' hden (irr _)) f f'
        have m5 : mulD (.int (byOne r r').sign) (.int (cmpR r' (Rat.divInt (-fixed r r') (byOne r r')))) s = .ok (.int ((byOne r r').sign * cmpR r' (Rat.divInt (-fixed r r') (byOne r r')))) s := by
          have : mulOk (byOne r r').sign (cmpR r' (Rat.divInt (-fixed r r') (byOne r r'))) = true := mulOk_l (by
            have : (byOne r r').sign = 1 ∨ (byOne r r').sign = -1 := by
              rcases Int.lt_or_lt_of_ne hb with z | z
              · exact .inr (Int.sign_eq_neg_one_of_neg z)
              · exact .inl (Int.sign_eq_one_of_pos z)
            rcases this with z | z <;> rw [z] <;> decide)
          simp only [mulD, this, if_true]
        generalize cmpR r' (Rat.divInt (-fixed r r') (byOne r r')) = cm at *
        generalize fr (Rat.divInt (-fixed r r') (byOne r r')) = x at *
        generalize byOne r r' = bo at *
        generalize fixed r r' = fi at *
        generalize rootD r = rd at *
        generalize rootD r' = rd' at *
        generalize mgTup 4 (mgCons (mgName 3) (mgCons (mgName 4) (mgCons (mgName 5) (mgCons (mgName 6) mgNil)))) = tg1 at *
        generalize mgTup 4 (mgCons (mgName 3) (mgCons (mgName 7) (mgCons (mgName 8) (mgCons (mgName 9) mgNil)))) = tg2 at *
        repeat (first | walk_at "sem1" | simp only [l1, l2, e1, e2, nn, g1, g2, m1, m2, m3, m4, d1, d2, c0, s1, f1, hc, m5, hres, z2])
/-! ### what is looked at -/
/-- plain values with bools -/
def shp : Nat → D → Bool
  | 0, _ => false
  | _ + 1, .non => true
  | _ + 1, .bl _ => true
  | _ + 1, .int _ => true
  | _ + 1, .str x => decide (x.length ≤ 100000) && PyData.strOk x
  | k + 1, .tup xs => xs.all (shp k)
  | k + 1, .lst xs => xs.all (shp k)
  | _ + 1, _ => false
theorem shp_of_pl : ∀ {k : Nat} {d : D}, plN k d = true → shp k d = true
  | 0, _, h => by cases h
  | k + 1, d, h => by
    cases d with
    | non => rfl
    | int i => rfl
    | str x => exact h
    | tup xs =>
      simp only [plN, shp, List.all_eq_true] at h ⊢
      exact fun x hx => shp_of_pl (h x hx)
    | lst xs =>
      simp only [plN, shp, List.all_eq_true] at h ⊢
      exact fun x hx => shp_of_pl (h x hx)
    | _ => cases h
def tyS (d : D) : String := (tyD d).getD ""
theorem isi_of {d : D} {T a : String} (s : Sto) (h : tyD d = some a) : isiF T d s = .ok (.bl (a == T || (a == "bool" && T == "int"))) s := by
  simp only [isiF, h]
theorem shp_ty {k : Nat} {d : D} (h : shp k d = true) : ∃ a, tyD d = some a := by
  cases k with
  | zero => cases h
  | succ k => cases d <;> first | exact ⟨_, rfl⟩ | cases h
theorem isi_ntup {d : D} {a : String} (s : Sto) (h : ¬ ∃ xs, d = .tup xs) (h2 : tyD d = some a) : isiF "tuple" d s = .ok (.bl false) s := by
  rw [isi_of s h2]
  have : (a == "tuple") = false := by
    cases d <;> simp only [tyD, Option.some.injEq, reduceCtorEq] at h2 <;> subst h2 <;> first | exact absurd ⟨_, rfl⟩ h | decide
  rw [this]
  simp
/-! ### the Euclid of rows -/
theorem euclid3_while {i j : Nat} (hij : i ≠ j) : ∀ (n : Nat) (a b : Int) (l : DL.Loc) (s : Sto), b.natAbs ≤ n → 0 ≤ a → 0 ≤ b → l[i]? = some (some (.int a)) → l[j]? = some (some (.int b)) →
    mWhile (mTest (mOp gtD (mVar j) (mC (.int 0)))) (mPar i j (mCons (mVar j) (mCons (mOp modD (mVar i) (mVar j)) mNil))) l s = .nx ((l.set i (some (.int (Int.gcd a b : Nat)))).set j (some (.int 0))) s := by
  intro n
  induction n with
  | zero =>
    intro a b l s hn ha hb0 hi hj
    have hb : b = 0 := by omega
    subst hb
    rw [mWhile_eq]
    have c : decide ((0 : Int) < 0) = false := by decide
    simp only [mTest, mOp, mVar, hj, mC, R.bind_ok, cmpD, c]
    have e1 : l.set i (some (.int (Int.gcd a 0 : Nat))) = l := by
      apply List.ext_getElem?
      intro k
      by_cases h : i = k
      · subst h
        rw [List.getElem?_set_self (List.getElem?_eq_some_iff.mp hi).1, hi, Int.gcd_zero_right]
        congr 3
        omega
      · rw [List.getElem?_set_ne h]
    have e2 : l.set j (some (.int 0)) = l := by
      apply List.ext_getElem?
      intro k
      by_cases h : j = k
      · subst h
        rw [List.getElem?_set_self (List.getElem?_eq_some_iff.mp hj).1, hj]
      · rw [List.getElem?_set_ne h]
    rw [e1, e2]
  | succ n ih =>
    intro a b l s hn ha hb0 hi hj
    by_cases hb : b = 0
    · exact ih a b l s (by omega) ha hb0 hi hj
    · have hlt := fmod_natAbs a b hb
      have hli : i < l.length := (List.getElem?_eq_some_iff.mp hi).1
      have hlj : j < l.length := (List.getElem?_eq_some_iff.mp hj).1
      have h3 := ih b (a.fmod b) ((l.set i (some (.int b))).set j (some (.int (a.fmod b)))) s (by omega) hb0 (Int.fmod_nonneg_of_pos a (by omega))
        (by rw [List.getElem?_set_ne (Ne.symm hij), List.getElem?_set_self hli]) (by rw [List.getElem?_set_self (by rw [List.length_set]; exact hlj)])
      rw [mWhile_eq]
      have hne : decide ((0 : Int) < b) = true := decide_eq_true (by omega)
      simp only [mTest, mOp, mVar, hj, mC, R.bind_ok, cmpD, hne]
      simp only [mPar, mCons, mVar, hj, hi, mOp, R.bind_ok, modD, if_neg hb, mNil, toOut]
      rw [h3, gcd_fmod]
      congr 1
      apply List.ext_getElem?
      intro k
      by_cases hk : j = k
      · subst hk
        rw [List.getElem?_set_self (by simpa using hlj), List.getElem?_set_self (by simpa using hlj)]
      · rw [List.getElem?_set_ne hk, List.getElem?_set_ne hk]
        by_cases hk2 : i = k
        · subst hk2
          rw [List.getElem?_set_self (by simpa using hli), List.getElem?_set_self (by simpa using hli)]
        · rw [List.getElem?_set_ne hk2, List.getElem?_set_ne hk2, List.getElem?_set_ne hk, List.getElem?_set_ne hk2]
/-- the greatest common divisor of a row -/
def gcdL (xs : List Int) (g : Nat) : Nat := xs.foldl (fun g x => Int.gcd g x) g
theorem gcd_abs (g : Nat) (x : Int) : Int.gcd (g : Int) (if x < 0 then -x else x) = Int.gcd g x := by
  split
  · rw [Int.gcd_neg]
  · rfl
theorem gd_loop (s : Sto) : ∀ (xs : List Int) (g : Nat) (x0 x2 x3 x4 : Option D), ∃ y2 y3 y4,
    forL (mgName 2) (mSeq (mPar 3 4 (mCons (mVar 1) (mCons (mCB absF (mCons (mVar 2) mNil)) mNil))) (mSeq (mWhile (mTest (mOp gtD (mVar 4) (mC (.int 0)))) (mPar 3 4 (mCons (mVar 4) (mCons (mOp modD (mVar 3) (mVar 4)) mNil)))) (mAsg (mVar 3) (mgName 1)))) (xs.map D.int) [x0, some (.int g), x2, x3, x4] s = .nx [x0, some (.int (gcdL xs g : Nat)), y2, y3, y4] s
  | [], g, x0, x2, x3, x4 => ⟨x2, x3, x4, rfl⟩
  | x :: xs, g, x0, x2, x3, x4 => by
    obtain ⟨y2, y3, y4, h⟩ := gd_loop s xs (Int.gcd g x) x0 (some (.int x)) (some (.int (Int.gcd g x : Nat))) (some (.int 0))
    refine ⟨y2, y3, y4, ?_⟩
    have hw := euclid3_while (i := 3) (j := 4) (by decide) (if x < 0 then -x else x).natAbs g (if x < 0 then -x else x) [x0, some (.int g), some (.int x), some (.int g), some (.int (if x < 0 then -x else x))] s (Nat.le_refl _) (by omega) (by split <;> omega) rfl rfl
    rw [gcd_abs] at hw
    have e : mSeq (mPar 3 4 (mCons (mVar 1) (mCons (mCB absF (mCons (mVar 2) mNil)) mNil))) (mSeq (mWhile (mTest (mOp gtD (mVar 4) (mC (.int 0)))) (mPar 3 4 (mCons (mVar 4) (mCons (mOp modD (mVar 3) (mVar 4)) mNil)))) (mAsg (mVar 3) (mgName 1))) [x0, some (.int g), some (.int x), x3, x4] s = .nx [x0, some (.int (Int.gcd g x : Nat)), some (.int x), some (.int (Int.gcd g x : Nat)), some (.int 0)] s := by
      generalize hwh : mWhile (mTest (mOp gtD (mVar 4) (mC (.int 0)))) (mPar 3 4 (mCons (mVar 4) (mCons (mOp modD (mVar 3) (mVar 4)) mNil))) = wh at *
      repeat (first | walk_at "sem1" | simp only [hw])
    simp only [List.map_cons, forL, mgName, List.set_cons_zero, List.set_cons_succ, e, gcdL, List.foldl_cons]
    exact h
theorem gd_for (s : Sto) (d : D) (xs : List Int) (hd : stands d = some (xs.map D.int)) (x2 x3 x4 : Option D) : ∃ y2 y3 y4,
    mFor (mIter (mVar 0)) (mgName 2) (mSeq (mPar 3 4 (mCons (mVar 1) (mCons (mCB absF (mCons (mVar 2) mNil)) mNil))) (mSeq (mWhile (mTest (mOp gtD (mVar 4) (mC (.int 0)))) (mPar 3 4 (mCons (mVar 4) (mCons (mOp modD (mVar 3) (mVar 4)) mNil)))) (mAsg (mVar 3) (mgName 1)))) [some d, some (.int 0), x2, x3, x4] s = .nx [some d, some (.int (gcdL xs 0 : Nat)), y2, y3, y4] s := by
  rw [for_ok (ds := xs.map D.int) (s1 := s) (iter_ok rfl hd)]
  exact gd_loop s xs 0 (some d) x2 x3 x4
theorem gd_ok (s : Sto) {d : D} {xs : List Int} (hd : stands d = some (xs.map D.int)) : r_greatest_divisor [d] s = .ok (.int (gcdL xs 0 : Nat)) s := by
  obtain ⟨y2, y3, y4, h⟩ := gd_for s d xs hd none none none
  have h : l_greatest_divisor_2 [some d, some (.int 0), none, none, none] s = .nx [some d, some (.int (gcdL xs 0 : Nat)), y2, y3, y4] s := h
  unfold r_greatest_divisor
  simp only [t_greatest_divisor_2, t_greatest_divisor_7]
  repeat (first | walk_at "sem1" | simp only [h])
theorem lgd_ok (s : Sto) {d : D} {xs : List Int} (hd : stands d = some (xs.map D.int)) : r__law_common [d] s = .ok (.int (gcdL xs 0 : Nat)) s := by
  obtain ⟨y2, y3, y4, h⟩ := gd_for s d xs hd none none none
  have h : l__law_common_2 [some d, some (.int 0), none, none, none] s = .nx [some d, some (.int (gcdL xs 0 : Nat)), y2, y3, y4] s := h
  unfold r__law_common
  simp only [t__law_common_2, t__law_common_7]
  repeat (first | walk_at "sem1" | simp only [h])
/-! what is no root -/
def isI : D → Bool
  | .int _ => true
  | _ => false
def isRoot : D → Bool
  | .tup [.str w, .int a, .int b, .int c] => decide (w = "root") && (decide (0 < a) && (decide (c < 0) && decide (gcdL [a, b, c] 0 = 1)))
  | _ => false
theorem isI_ok {k : Nat} {d : D} (h : shp k d = true) (l : DL.Loc) (i : Nat) (hl : l[i]? = some (some d)) (s : Sto) : mAndV (mIsi "int" (mVar i)) (mNotV (mIsi "bool" (mVar i))) l s = .ok (.bl (isI d)) s := by
  obtain ⟨a, ht⟩ := shp_ty h
  have i1 := isi_of (T := "int") s ht
  have i2 := isi_of (T := "bool") s ht
  cases d <;> simp only [tyD, Option.some.injEq, reduceCtorEq] at ht <;> subst ht
  all_goals
    simp only [mAndV, mIsi, mNotV, mVar, hl, R.bind_ok, i1, i2]
    rfl
theorem neq_root {w : Str} (h : plN 1 (.str w) = true) (s : Sto) : neD (.str w) (.str "root") s = .ok (.bl (!decide (w = "root"))) s := by
  have hr : plN 1 (.str "root") = true := by decide +kernel
  by_cases e : w = "root"
  · subst e
    rw [neD_no 1 rfl hr (by decide)]; simp
  · rw [neD_yes 1 (fun z => e (by injection z)) h hr (by decide)]; simp [e]
theorem isroot_ok {d : D} (h : shp 3 d = true) (s : Sto) : r_is_root [d] s = .ok (.bl (isRoot d)) s := by
  by_cases ht : ∃ xs, d = .tup xs
  · obtain ⟨xs, rfl⟩ := ht
    have it : ∀ xs, isiF "tuple" (.tup xs) s = .ok (.bl true) s := fun _ => rfl
    have hl : lenF [.tup xs] s = .ok (.int xs.length) s := rfl
    by_cases h4 : xs.length = 4
    · obtain ⟨w, x, y, z, rfl⟩ : ∃ w x y z, xs = [w, x, y, z] := by
        match xs, h4 with
        | [w, x, y, z], _ => exact ⟨w, x, y, z, rfl⟩
      have hl : lenF [.tup [w, x, y, z]] s = .ok (.int 4) s := rfl
      have c4 : (!((4 : Int) == 4)) = false := by decide
      have i0 : ixD (.tup [w, x, y, z]) (.int 0) s = .ok w s := rfl
      have i1 : ixD (.tup [w, x, y, z]) (.int 1) s = .ok x s := rfl
      have i3 : ixD (.tup [w, x, y, z]) (.int 3) s = .ok z s := rfl
      have sl : slD (.tup [w, x, y, z]) (some 1) none s = .ok (.tup [x, y, z]) s := rfl
      have h : shp 2 w = true ∧ shp 2 x = true ∧ shp 2 y = true ∧ shp 2 z = true := by
        simpa only [shp, List.all_cons, List.all_nil, Bool.and_true, Bool.and_eq_true] using h
      obtain ⟨hw, hx, hy, hz⟩ := h
      by_cases hws : ∃ u, w = .str u
      · obtain ⟨u, rfl⟩ := hws
        have j1 : isiF "str" (.str u) s = .ok (.bl true) s := rfl
        have hu : plN 1 (.str u) = true := hw
        have hn := neq_root hu s
        by_cases hur : u = "root"
        · rw [decide_eq_true hur, Bool.not_true] at hn
          have lc : ∀ a1, mLc [1] (mIter (mSl slD (mVar 0) (mPart (mC (.int 1))) mNoPart)) (mgName 1) mYes (mAndV (mIsi "int" (mVar 1)) (mNotV (mIsi "bool" (mVar 1)))) [some (.tup [.str u, x, y, z]), a1] s = .ok (.lst ([x, y, z].map fun d => .bl (isI d))) s := fun a1 => by
            refine lc_map (fun d => .bl (isI d)) (ds := [x, y, z]) ?_ (show 3 ≤ 100000 by decide) fun d hd => ?_
            · simp only [mIter, mSl, mVar, List.getElem?_cons_zero, R.bind_ok, mPart, mC, mNoPart, sl, stands]
            · refine ⟨[some (.tup [.str u, x, y, z]), some d], rfl, ?_⟩
              have hd2 : shp 2 d = true := by
                simp only [List.mem_cons, List.not_mem_nil, or_false] at hd
                rcases hd with rfl | rfl | rfl <;> assumption
              exact isI_ok hd2 _ 1 rfl s
          have ha := allF_map [x, y, z] isI s
          by_cases hints : ∃ a b c, x = .int a ∧ y = .int b ∧ z = .int c
          · obtain ⟨a, b, c, rfl, rfl, rfl⟩ := hints
            have hall : ([D.int a, .int b, .int c].all isI) = true := rfl
            rw [hall] at ha
            have hg := gd_ok s (d := .tup [.int a, .int b, .int c]) (xs := [a, b, c]) rfl
            have e : isRoot (.tup [.str u, .int a, .int b, .int c]) = (decide (0 < a) && (decide (c < 0) && decide (gcdL [a, b, c] 0 = 1))) := by
              simp only [isRoot, decide_eq_true hur, Bool.true_and]
            have e2 : (((gcdL [a, b, c] 0 : Nat) : Int) == 1) = decide (gcdL [a, b, c] 0 = 1) := by
              by_cases q : gcdL [a, b, c] 0 = 1
              · simp [q]
              · rw [decide_eq_false q, beq_eq_false_iff_ne]; omega
            rw [e]
            unfold r_is_root
            generalize (gcdL [a, b, c] 0 : Nat) = gg at *
            generalize ([D.int a, .int b, .int c].map fun d => D.bl (isI d)) = ys at *
            generalize mLc [1] (mIter (mSl slD (mVar 0) (mPart (mC (.int 1))) mNoPart)) (mgName 1) mYes (mAndV (mIsi "int" (mVar 1)) (mNotV (mIsi "bool" (mVar 1)))) = lcc at *
            by_cases k1 : 0 < a
            · have d1 := decide_eq_true k1
              by_cases k2 : c < 0
              · have d2 := decide_eq_true k2
                repeat (first | walk_at "sem1" | simp only [it, hl, c4, i0, i1, i3, j1, hn, lc, ha, d1, d2, sl, hg, e2, Bool.true_and])
              · have d2 := decide_eq_false k2
                repeat (first | walk_at "sem1" | simp only [it, hl, c4, i0, i1, i3, j1, hn, lc, ha, d1, d2, Bool.true_and, Bool.false_and])
            · have d1 := decide_eq_false k1
              repeat (first | walk_at "sem1" | simp only [it, hl, c4, i0, i1, j1, hn, lc, ha, d1, Bool.false_and])
          · have hall : ([x, y, z].all isI) = false := by
              cases q : [x, y, z].all isI with
              | false => rfl
              | true =>
                simp only [List.all_cons, List.all_nil, Bool.and_true, Bool.and_eq_true] at q
                refine absurd ?_ hints
                have key : ∀ d, isI d = true → ∃ a, d = .int a := fun d hd => by
                  cases d <;> first | exact ⟨_, rfl⟩ | cases hd
                obtain ⟨a, rfl⟩ := key _ q.1
                obtain ⟨b, rfl⟩ := key _ q.2.1
                obtain ⟨c, rfl⟩ := key _ q.2.2
                exact ⟨a, b, c, rfl, rfl, rfl⟩
            rw [hall] at ha
            have e : isRoot (.tup [.str u, x, y, z]) = false := by
              cases x <;> try rfl
              cases y <;> try rfl
              cases z <;> try rfl
              exact absurd ⟨_, _, _, rfl, rfl, rfl⟩ hints
            rw [e]
            unfold r_is_root
            generalize ([x, y, z].map fun d => D.bl (isI d)) = ys at *
            generalize mLc [1] (mIter (mSl slD (mVar 0) (mPart (mC (.int 1))) mNoPart)) (mgName 1) mYes (mAndV (mIsi "int" (mVar 1)) (mNotV (mIsi "bool" (mVar 1)))) = lcc at *
            repeat (first | walk_at "sem1" | simp only [it, hl, c4, i0, j1, hn, lc, ha])
        · rw [decide_eq_false hur, Bool.not_false] at hn
          have e : isRoot (.tup [.str u, x, y, z]) = false := by
            cases x <;> try rfl
            cases y <;> try rfl
            cases z <;> try rfl
            simp only [isRoot, decide_eq_false hur, Bool.false_and]
          rw [e]
          unfold r_is_root
          repeat (first | walk_at "sem1" | simp only [it, hl, c4, i0, j1, hn])
      · have e : isRoot (.tup [w, x, y, z]) = false := by
          cases w <;> first | rfl | exact absurd ⟨_, rfl⟩ hws
        rw [e]
        obtain ⟨ta, ht⟩ := shp_ty hw
        have j1 := isi_of (T := "str") s ht
        have j2 : (ta == "str" || (ta == "bool" && "str" == "int")) = false := by
          cases w <;> simp only [tyD, Option.some.injEq, reduceCtorEq] at ht <;> subst ht <;> first | exact absurd ⟨_, rfl⟩ hws | decide
        rw [j2] at j1
        unfold r_is_root
        repeat (first | walk_at "sem1" | simp only [it, hl, c4, i0, j1])
    · have c4 : (!((xs.length : Int) == 4)) = true := by
        simp only [Bool.not_eq_true', beq_eq_false_iff_ne, ne_eq]; omega
      have e : isRoot (.tup xs) = false := by
        match xs, h4 with
        | [], _ => rfl
        | [a], _ => cases a <;> rfl
        | [a, b], _ => cases a <;> cases b <;> rfl
        | [a, b, c], _ => cases a <;> cases b <;> cases c <;> rfl
        | [a, b, c, d], h4 => exact absurd rfl h4
        | a :: b :: c :: d :: f :: r, _ => cases a <;> cases b <;> cases c <;> cases d <;> rfl
      rw [e]
      unfold r_is_root
      generalize (xs.length : Int) = n at *
      repeat (first | walk_at "sem1" | simp only [it, hl, c4])
  · obtain ⟨ta, ht2⟩ := shp_ty h
    have it := isi_ntup s ht ht2
    have e0 : isRoot d = false := by
      cases d <;> first | rfl | exact absurd ⟨_, rfl⟩ ht
    rw [e0]
    unfold r_is_root
    repeat (first | walk_at "sem1" | simp only [it, Bool.false_eq_true])
theorem look_root {d : D} (h : shp 3 d = true) (s : Sto) : r_look_at_root [d] s = if isRoot d = true then .ok .non s else .ex ⟨"BadValue", none⟩ s := by
  have e := isroot_ok h s
  unfold r_look_at_root
  generalize isRoot d = b at *
  cases b with
  | true => repeat (first | walk_at "sem1" | simp only [e, Bool.false_eq_true])
  | false => repeat (first | walk_at "sem1" | simp only [e, Bool.false_eq_true])
/-- a root whose integers have no common divisor -/
def Prim (r : Rt) : Prop := gcdL [r.a, r.b, r.c] 0 = 1
instance (r : Rt) : Decidable (Prim r) := inferInstanceAs (Decidable (_ = _))
theorem look_rt {r : Rt} (hr : SzR r) (hp : Prim r) (s : Sto) : r_look_at_root [rootD r] s = .ok .non s := by
  have h1 : shp 3 (rootD r) = true := by
    simp only [rootD, shp, List.all_cons, List.all_nil, Bool.and_true]
    decide +kernel
  have e : isRoot (rootD r) = true := by
    show (decide (("root" : Str) = "root") && (decide (0 < r.a) && (decide (r.c < 0) && decide (gcdL [r.a, r.b, r.c] 0 = 1)))) = true
    rw [decide_eq_true rfl, decide_eq_true (show 0 < r.a by have := hr.a0; omega), decide_eq_true (show r.c < 0 by have := hr.c1; omega)]
    have hp' : gcdL [r.a, r.b, r.c] 0 = 1 := hp
    simp only [Bool.true_and]
    exact decide_eq_true hp'
  rw [look_root h1 s, if_pos e]
theorem isnum_ok (p q : Int) (s : Sto) : r_is_number [.tup [.int p, .int q]] s = .ok (.bl (decide (1 ≤ q) && decide (Int.gcd p q = 1))) s := by
  have t2 : lenF [.tup [.int p, .int q]] s = .ok (.int 2) s := rfl
  have t3 : ∀ i : Int, isiF "int" (.int i) s = .ok (.bl true) s := fun _ => rfl
  have t4 : ∀ i : Int, isiF "bool" (.int i) s = .ok (.bl false) s := fun _ => rfl
  have t5 : isiF "tuple" (.tup [.int p, .int q]) s = .ok (.bl true) s := rfl
  unfold r_is_number
  by_cases hq : q < 1
  · rw [decide_eq_false (show ¬ (1 ≤ q) by omega)]
    have e1 : decide (q < 1) = true := decide_eq_true hq
    repeat (first | walk_at "sem1" | simp only [t5, t2, t3, t4, e1])
    rfl
  · rw [decide_eq_true (show (1 ≤ q) by omega)]
    have e1 : decide (q < 1) = false := decide_eq_false hq
    have h := euclid2_while (i := 1) (j := 2) (by decide) p.natAbs p q [some (.tup [.int p, .int q]), some (.int p), some (.int q)] s (Nat.le_refl _) (by omega) rfl rfl
    generalize mWhile (mTest (mOp neD (mVar 1) (mC (.int 0)))) (mPar 1 2 (mCons (mOp modD (mVar 2) (mCB absF (mCons (mVar 1) mNil))) (mCons (mCB absF (mCons (mVar 1) mNil)) mNil))) = w at *
    repeat (first | walk_at "sem1" | simp only [t5, t2, t3, t4, e1, h])
    rw [Bool.true_and]
    refine congrArg (fun b => R.ok (D.bl b) s) ?_
    by_cases hg : Int.gcd p q = 1
    · simp [hg]
    · have : ¬ (((Int.gcd p q : Nat) : Int) = 1) := by omega
      simp [hg, this]
theorem isnum_fr (x : Rat) (s : Sto) : r_is_number [fr x] s = .ok (.bl true) s := by
  have h := isnum_ok x.num x.den s
  have h1 : (1 : Int) ≤ x.den := by have := x.den_pos; omega
  have h2 : Int.gcd x.num x.den = 1 := by
    have := x.reduced
    simpa [Int.gcd, Nat.Coprime] using this
  rw [decide_eq_true h1, decide_eq_true h2] at h
  exact h
/-! ### floor_of -/
theorem isint_ok (i a b : Int) (s : Sto) : r_is_integer [.int i, .int a, .int b] s = .ok (.bl (decide (a ≤ i) && decide (i ≤ b))) s := by
  have i1 : isiF "int" (.int i) s = .ok (.bl true) s := rfl
  have i2 : isiF "bool" (.int i) s = .ok (.bl false) s := rfl
  unfold r_is_integer
  by_cases h : a ≤ i
  · have c : decide (a ≤ i) = true := decide_eq_true h
    repeat (first | walk_at "sem1" | simp only [i1, i2, c, Bool.true_and])
  · have c : decide (a ≤ i) = false := decide_eq_false h
    repeat (first | walk_at "sem1" | simp only [i1, i2, c, Bool.false_and])
theorem isint_non (a b : D) (s : Sto) : r_is_integer [.non, a, b] s = .ok (.bl false) s := by
  have i1 : isiF "int" .non s = .ok (.bl false) s := rfl
  unfold r_is_integer
  repeat (first | walk_at "sem1" | simp only [i1])
theorem isint_bl (v : Bool) (a b : D) (s : Sto) : r_is_integer [.bl v, a, b] s = .ok (.bl false) s := by
  have i1 : isiF "int" (.bl v) s = .ok (.bl true) s := rfl
  have i2 : isiF "bool" (.bl v) s = .ok (.bl true) s := rfl
  unfold r_is_integer
  repeat (first | walk_at "sem1" | simp only [i1, i2])
theorem ten_bd {k : Nat} (h : k ≤ 60) : Bd 300 (10 ^ k) := by
  unfold Bd
  rw [Int.natAbs_pow]
  have h1 : (10 : Nat) ^ k ≤ 10 ^ 60 := Nat.pow_le_pow_right (by decide) h
  have h2 : (10 : Nat) ^ 60 < 2 ^ 300 := by decide +kernel
  exact Nat.lt_of_le_of_lt h1 h2
theorem ten_pos (k : Nat) : (0 : Int) < 10 ^ k := Int.pow_pos (by decide)
theorem fo_scale (s : Sto) (x0 x1 x4 x5 x6 : Option D) (k : Nat) (hk : k ≤ 60) (ds : List D) (hd : ds.length = k) (x3 : Option D) : ∃ y, forL (mgName 3) b_floor_of_5 ds [x0, x1, some (.int 1), x3, x4, x5, x6] s = .nx [x0, x1, some (.int (10 ^ k)), y, x4, x5, x6] s := by
  obtain ⟨l', s', e, y, rfl, rfl⟩ := forL_inv (mg := mgName 3) (mb := b_floor_of_5) (ds := ds)
    (fun j l t => ∃ y, l = [x0, x1, some (.int (10 ^ j)), y, x4, x5, x6] ∧ t = s)
    (fun j d l t hj ⟨y, el, et⟩ => by
      subst el et
      have e : imulD (.int (10 ^ j)) (.int 10) t = .ok (.int (10 ^ (j + 1))) t := by
        have : mulOk (10 ^ j) 10 = true := mulOk_r (by decide)
        simp only [imulD, this, if_true, Int.pow_succ]
      refine ⟨_, _, rfl, _, _, ?_, some d, rfl, rfl⟩
      unfold b_floor_of_5
      generalize (10 : Int) ^ (j + 1) = q2 at *
      generalize (10 : Int) ^ j = q at *
      simp only [mAug, List.getElem?_cons_zero, List.getElem?_cons_succ, mC, R.bind_ok, e, toOut, List.set_cons_zero, List.set_cons_succ])
    (l := [x0, x1, some (.int 1), x3, x4, x5, x6]) (s := s) ⟨x3, rfl, rfl⟩
  rw [hd] at e
  exact ⟨y, e⟩
theorem cmp_mid {r : Rt} {S m : Int} (hS : 0 < S) (hm : 0 < m) : cmpR r (Rat.divInt m S) = -(FS r S m).sign := by
  unfold cmpR
  have : 0 < Rat.divInt m S := divInt_pos hm hS
  rw [if_neg (by grind), FS_sign r hS, Rat.divInt_eq_div]
theorem floor_ok {r : Rt} (hr : SzR r) (hp : Prim r) {k : Nat} (hk : k ≤ 60) {t : Int} (t0 : 0 ≤ t) (t1 : FS r (10 ^ k) t ≤ 0) (t2 : 0 < FS r (10 ^ k) (t + 1)) (s : Sto) : r_floor_of [rootD r, .int k] s = .ok (.int t) s := by
  have e1 := look_rt hr hp s
  have e2 := isint_ok k 0 60 s
  rw [decide_eq_true (show (0 : Int) ≤ k by omega), decide_eq_true (show (k : Int) ≤ 60 by omega)] at e2
  have hS0 := ten_pos k
  have hSb : Bd 400 (10 ^ k) := (ten_bd hk).mono (by decide)
  obtain ⟨y, e3⟩ := fo_scale s (some (rootD r)) (some (.int k)) none none none k hk (rangeD 0 k) rangeD_len none
  have e3 : l_floor_of_5 [some (rootD r), some (.int k), some (.int 1), none, none, none, none] s = .nx [some (rootD r), some (.int k), some (.int (10 ^ k)), y, none, none, none] s := by
    unfold l_floor_of_5
    rw [for_ok (rng1_ok (n := k) (s1 := s) rfl (by omega))]
    exact e3
  generalize hSe : (10 : Int) ^ k = S at *
  -- the first bounds
  have i2 : ixD (rootD r) (.int 2) s = .ok (.int r.b) s := rfl
  have i3 : ixD (rootD r) (.int 3) s = .ok (.int r.c) s := rfl
  obtain ⟨M, hM, hM1, hM2⟩ : ∃ M : Int, (if -r.c > (if r.b < 0 then -r.b else r.b) then -r.c else (if r.b < 0 then -r.b else r.b)) = M ∧ (r.b.natAbs : Int) ≤ M ∧ -r.c ≤ M ∧ M ≤ r.b.natAbs + r.c.natAbs := ⟨_, rfl, by split <;> split <;> omega, by split <;> split <;> omega, by have := hr.c1; split <;> split <;> omega⟩
  have hMb : Bd 300 (M + 2) := by
    have h1 := hr.b; have h2 := hr.c
    unfold Bd at *
    have h3 : (2 : Nat) ^ 300 = 2 ^ 200 * 2 ^ 100 := Nat.pow_add 2 200 100
    have h4 : (1000 : Nat) ≤ 2 ^ 100 := by decide +kernel
    have h5 : (1 : Nat) ≤ 2 ^ 200 := Nat.one_le_two_pow
    have h6 : 2 ^ 200 * 1000 ≤ 2 ^ 200 * 2 ^ 100 := Nat.mul_le_mul_left _ h4
    rw [h3]
    generalize (2 : Nat) ^ 200 * 2 ^ 100 = z at *
    generalize (2 : Nat) ^ 200 = w at *
    omega
  have m1 := mulB s hMb hSb (by decide) (by decide) (by decide)
  have hhi : 0 < FS r S ((M + 2) * S) := by
    have hb : -M ≤ r.b := by omega
    have hc : -M ≤ r.c := by omega
    have ha := hr.a0
    have q0 : 0 < S * S := Int.mul_pos hS0 hS0
    have q1 : 1 * ((M + 2) * (M + 2)) ≤ r.a * ((M + 2) * (M + 2)) := Int.mul_le_mul_of_nonneg_right ha (Int.mul_nonneg (by omega) (by omega))
    have q2 : -M * (M + 2) ≤ r.b * (M + 2) := Int.mul_le_mul_of_nonneg_right hb (by omega)
    have q3 : 1 ≤ r.a * ((M + 2) * (M + 2)) + r.b * (M + 2) + r.c := by
      have : (M + 2) * (M + 2) = M * (M + 2) + 2 * M + 4 := by grind
      have : -M * (M + 2) = -(M * (M + 2)) := by grind
      omega
    have q4 : FS r S ((M + 2) * S) = (r.a * ((M + 2) * (M + 2)) + r.b * (M + 2) + r.c) * (S * S) := by unfold FS; grind
    rw [q4]
    exact Int.mul_pos (by omega) q0
  have hhib : Bd 700 ((M + 2) * S) := hMb.mul hSb
  have hlo : FS r S 0 ≤ 0 := by
    have q0 : 0 ≤ -r.c * (S * S) := Int.mul_nonneg (by have := hr.c1; omega) (Int.mul_nonneg (by omega) (by omega))
    have : FS r S 0 = -(-r.c * (S * S)) := by unfold FS; grind
    omega
  have hM0 : 0 < (M + 2) * S := Int.mul_pos (by omega) hS0
  obtain ⟨n', l', s', e, ⟨lo, hi, x6, el, et, p1, p2, p3, p4, p5, hn⟩, hf⟩ := while_inv (mc := mTest (mOp gtD (mOp subD (mVar 5) (mVar 4)) (mC (.int 1)))) (mb := b_floor_of_9)
    (fun m l u => ∃ lo hi x6, l = [some (rootD r), some (.int k), some (.int S), y, some (.int lo), some (.int hi), x6] ∧ u = s ∧ 0 ≤ lo ∧ lo < hi ∧ FS r S lo ≤ 0 ∧ 0 < FS r S hi ∧ Bd 700 hi ∧ m = (hi - lo).toNat)
    (fun m l u ⟨lo, hi, x6, el, et, p1, p2, p3, p4, p5, hn⟩ => by
      subst el et
      by_cases h : 1 < hi - lo
      · right
        have c1 : decide (1 < hi - lo) = true := decide_eq_true h
        obtain ⟨g1, g2⟩ := half_lt h
        have d2 := fdivB (i := lo + hi) u (show Bd 10 2 by decide) (by decide) (by decide) (by decide)
        have hmid : Bd 700 ((lo + hi).fdiv 2) := by
          unfold Bd at p5 ⊢
          generalize (2 : Nat) ^ 700 = m3 at *
          omega
        generalize (lo + hi).fdiv 2 = mid at *
        have f1 := fraction_ok (p := mid) u hSb (by omega) (by decide) (by decide)
        have sx : Sm 700 (Rat.divInt mid S) := divInt_sm hmid (hSb.mono (by decide)) (by omega)
        have c2 := cmpby_ok hr sx (by decide) (by decide) u
        rw [cmp_mid hS0 (show 0 < mid by omega)] at c2
        generalize fr (Rat.divInt mid S) = x at *
        by_cases h3 : FS r S mid ≤ 0
        · have c3 : decide ((0 : Int) ≤ -(FS r S mid).sign) = true := decide_eq_true (by
            rcases (show FS r S mid < 0 ∨ FS r S mid = 0 by omega) with z | z
            · rw [Int.sign_eq_neg_one_of_neg z]; decide
            · rw [z]; decide)
          refine ⟨?_, (hi - mid).toNat, [some (rootD r), some (.int k), some (.int S), y, some (.int mid), some (.int hi), some (.int mid)], u, by omega, .inl ?_, mid, hi, some (.int mid), rfl, rfl, by omega, by omega, h3, p4, p5, rfl⟩
          · generalize rootD r = rd at *
            repeat (first | walk_at "sem1" | simp only [c1])
          · generalize (FS r S mid).sign = sg at *
            generalize rootD r = rd at *
            unfold b_floor_of_9
            simp only [t_floor_of_11]
            repeat (first | walk_at "sem1" | simp only [d2, f1, c2, c3])
        · have c3 : decide ((0 : Int) ≤ -(FS r S mid).sign) = false := decide_eq_false (by rw [Int.sign_eq_one_of_pos (show 0 < FS r S mid by omega)]; decide)
          refine ⟨?_, (mid - lo).toNat, [some (rootD r), some (.int k), some (.int S), y, some (.int lo), some (.int mid), some (.int mid)], u, by omega, .inl ?_, lo, mid, some (.int mid), rfl, rfl, by omega, by omega, p3, by omega, hmid, rfl⟩
          · generalize rootD r = rd at *
            repeat (first | walk_at "sem1" | simp only [c1])
          · generalize (FS r S mid).sign = sg at *
            generalize rootD r = rd at *
            unfold b_floor_of_9
            simp only [t_floor_of_11]
            repeat (first | walk_at "sem1" | simp only [d2, f1, c2, c3])
      · left
        have c1 : decide (1 < hi - lo) = false := decide_eq_false h
        generalize rootD r = rd at *
        repeat (first | walk_at "sem1" | simp only [c1]))
    _ [some (rootD r), some (.int k), some (.int S), y, some (.int 0), some (.int ((M + 2) * S)), none] s ⟨0, (M + 2) * S, none, rfl, rfl, by decide, hM0, hlo, hhi, hhib, rfl⟩
  subst el et
  have hlt : hi = lo + 1 := by
    rcases Int.lt_or_le 1 (hi - lo) with z | z
    · exfalso
      have c1 : decide (1 < hi - lo) = true := decide_eq_true z
      have : mTest (mOp gtD (mOp subD (mVar 5) (mVar 4)) (mC (.int 1))) [some (rootD r), some (.int k), some (.int S), y, some (.int lo), some (.int hi), x6] s' = .ok true s' := by
        generalize rootD r = rd at *
        repeat (first | walk_at "sem1" | simp only [c1])
      rw [this] at hf
      cases hf
    · omega
  subst hlt
  have hS0' : (0 : Rat) < (S : Rat) := Rat.intCast_pos.mpr hS0
  have ht : lo = t := Flo.uniq hS0' hr.a0 hr.c1 (flo_of hS0 p1 p3 p4) (flo_of hS0 t0 t1 t2)
  subst ht
  have e : l_floor_of_9 [some (rootD r), some (.int k), some (.int S), y, some (.int 0), some (.int ((M + 2) * S)), none] s' = .nx [some (rootD r), some (.int k), some (.int S), y, some (.int lo), some (.int (lo + 1)), x6] s' := e
  unfold r_floor_of
  simp only [t_floor_of_2, t_floor_of_4, t_floor_of_5, t_floor_of_7, t_floor_of_8, t_floor_of_9, t_floor_of_15]
  generalize (M + 2) * S = hi0 at *
  generalize rootD r = rd at *
  repeat (first | walk_at "sem1" | simp only [e1, e2, e3, i2, i3, hM, m1, e, Bool.and_self])
/-! ### compare and what is told -/
theorem compare_ok {r : Rt} (hr : SzR r) (hp : Prim r) {x : Rat} {N : Nat} (hx : Sm N x) (hN : 0 < N) (h9 : N ≤ 100000) (s : Sto) : r_compare [rootD r, fr x] s = .ok (.int (cmpR r x)) s := by
  have e1 := look_rt hr hp s
  have e2 := isnum_fr x s
  have e3 := cmpby_ok hr hx hN h9 s
  unfold r_compare
  generalize rootD r = rd at *
  generalize fr x = f at *
  repeat (first | walk_at "sem1" | simp only [e1, e2, e3])
theorem lk1 (m1 m2 : MS) : ([("BadValue", m1), ("TooFar", m2)] : List (String × MS)).lookup "BadValue" = some m1 := rfl
theorem lk2 (m1 m2 : MS) : ([("BadValue", m1), ("TooFar", m2)] : List (String × MS)).lookup "TooFar" = some m2 := rfl
noncomputable abbrev toldFs : List (String × Nat × MF) := [("compare", 2, r_compare), ("floor_of", 2, r_floor_of), ("order", 2, r_order), ("fraction_of", 1, r_fraction_of)]
theorem told2 {f : String} {g : MF} (hf : toldFs.lookup f = some (2, g)) {a b : D} {s : Sto} {x w : String} (hw : x = "BadValue" ∧ w = "value" ∨ x = "TooFar" ∧ w = "far") (h : g [a, b] s = .ex ⟨x, none⟩ s) : r__law_told [.fn f, .tup [a, b]] s = .ok (.str w) s := by
  have hl : lenF [.tup [a, b]] s = .ok (.int 2) s := rfl
  have c3 : ((2 : Int) == 1) = false := by decide
  have x0 : ixD (.tup [a, b]) (.int 0) s = .ok a s := rfl
  have x1 : ixD (.tup [a, b]) (.int 1) s = .ok b s := rfl
  unfold r__law_told
  rcases hw with ⟨rfl, rfl⟩ | ⟨rfl, rfl⟩
  · repeat (first | walk_at "sem1" | simp only [mTry, mCallV, hl, c3, x0, x1, hf, h, lk1, noExO])
  · repeat (first | walk_at "sem1" | simp only [mTry, mCallV, hl, c3, x0, x1, hf, h, lk2, noExO])
theorem told1 {f : String} {g : MF} (hf : toldFs.lookup f = some (1, g)) {a : D} {s : Sto} (h : g [a] s = .ex ⟨"BadValue", none⟩ s) : r__law_told [.fn f, .tup [a]] s = .ok (.str "value") s := by
  have hl : lenF [.tup [a]] s = .ok (.int 1) s := rfl
  have x0 : ixD (.tup [a]) (.int 0) s = .ok a s := rfl
  unfold r__law_told
  repeat (first | walk_at "sem1" | simp only [mTry, mCallV, hl, x0, hf, h, lk1, noExO])
theorem look_bad {d : D} (hd : shp 3 d = true) (hb : isRoot d = false) (s : Sto) : r_look_at_root [d] s = .ex ⟨"BadValue", none⟩ s := by
  rw [look_root hd s, hb, if_neg Bool.false_ne_true]
theorem all_bad {d : D} (hd : shp 3 d = true) (hb : isRoot d = false) {r : Rt} (hr : SzR r) (hp : Prim r) (s : Sto) :
    r__law_told [.fn "compare", .tup [d, .tup [.int 1, .int 1]]] s = .ok (.str "value") s ∧ r__law_told [.fn "order", .tup [rootD r, d]] s = .ok (.str "value") s ∧ r__law_told [.fn "order", .tup [d, rootD r]] s = .ok (.str "value") s ∧
    r__law_told [.fn "floor_of", .tup [d, .int 1]] s = .ok (.str "value") s ∧ r__law_told [.fn "fraction_of", .tup [d]] s = .ok (.str "value") s := by
  have e1 := look_bad hd hb s
  have e2 := look_rt hr hp s
  refine ⟨told2 rfl (.inl ⟨rfl, rfl⟩) ?_, told2 rfl (.inl ⟨rfl, rfl⟩) ?_, told2 rfl (.inl ⟨rfl, rfl⟩) ?_, told2 rfl (.inl ⟨rfl, rfl⟩) ?_, told1 rfl ?_⟩
  · unfold r_compare
    repeat (first | walk_at "sem1" | simp only [e1])
  · unfold r_order
    simp only [t_order_2]
    generalize rootD r = rd at *
    repeat (first | walk_at "sem1" | simp only [e1, e2])
  · unfold r_order
    generalize rootD r = rd at *
    repeat (first | walk_at "sem1" | simp only [e1])
  · unfold r_floor_of
    repeat (first | walk_at "sem1" | simp only [e1])
  · unfold r_fraction_of
    repeat (first | walk_at "sem1" | simp only [e1])
/-! ### drawn roots -/
theorem gcdL3 (a b c : Int) : gcdL [a, b, c] 0 = Nat.gcd (Nat.gcd a.natAbs b.natAbs) c.natAbs := by
  simp [gcdL, Int.gcd]
/-- divided by the common divisor -/
theorem prim_div {a b c : Int} (ha : 1 ≤ a) : ∃ g : Nat, gcdL [a, b, c] 0 = g ∧ 0 < g ∧ (g : Int) ≤ a ∧ ((g : Int) ∣ a ∧ (g : Int) ∣ b ∧ (g : Int) ∣ c) ∧ gcdL [a / g, b / g, c / g] 0 = 1 := by
  refine ⟨_, rfl, ?_⟩
  rw [gcdL3]
  generalize hg : Nat.gcd (Nat.gcd a.natAbs b.natAbs) c.natAbs = g
  have ha0 : 0 < a.natAbs := by omega
  have h1 : g ∣ Nat.gcd a.natAbs b.natAbs := hg ▸ Nat.gcd_dvd_left ..
  have h2 : g ∣ a.natAbs := Nat.dvd_trans h1 (Nat.gcd_dvd_left ..)
  have h3 : g ∣ b.natAbs := Nat.dvd_trans h1 (Nat.gcd_dvd_right ..)
  have h4 : g ∣ c.natAbs := hg ▸ Nat.gcd_dvd_right ..
  have g0 : 0 < g := Nat.pos_of_dvd_of_pos h2 ha0
  have hle : g ≤ a.natAbs := Nat.le_of_dvd ha0 h2
  have d1 : (g : Int) ∣ a := Int.ofNat_dvd_left.mpr h2
  have d2 : (g : Int) ∣ b := Int.ofNat_dvd_left.mpr h3
  have d3 : (g : Int) ∣ c := Int.ofNat_dvd_left.mpr h4
  refine ⟨g0, by omega, ⟨d1, d2, d3⟩, ?_⟩
  rw [gcdL3, Int.natAbs_ediv_of_dvd d1, Int.natAbs_ediv_of_dvd d2, Int.natAbs_ediv_of_dvd d3, Int.natAbs_natCast, Nat.gcd_div h2 h3, Nat.gcd_div h1 h4, hg, Nat.div_self g0]
theorem div_bounds {b g lo hi : Int} (hg : 0 < g) (h1 : lo ≤ b) (h2 : b ≤ hi) (hlo : lo ≤ 0) (hhi : 0 ≤ hi) : lo ≤ b / g ∧ b / g ≤ hi := by
  rcases Int.le_total 0 b with z | z
  · have := Int.ediv_nonneg z (Int.le_of_lt hg)
    have := Int.ediv_le_self g z
    omega
  · have h3 : b / g ≤ 0 := by
      have := Int.ediv_le_ediv hg z
      rwa [Int.zero_ediv] at this
    have h4 : b ≤ b / g := by
      rw [Int.le_ediv_iff_mul_le hg]
      have h5 : -b * 1 ≤ -b * g := Int.mul_le_mul_of_nonneg_left (show (1 : Int) ≤ g by omega) (by omega)
      rw [Int.neg_mul, Int.neg_mul] at h5
      omega
    omega
theorem tail_root (s : Sto) (x0 x1 x2 x3 x5 : Option D) {a b c : Int} (ha : 1 ≤ a) (ha1 : a ≤ 60) (hb0 : -30 ≤ b) (hb1 : b ≤ 30) (hc0 : -60 ≤ c) (hc1 : c ≤ -1) :
    ∃ r : Rt, OkR r ∧ Prim r ∧ mRet (mOp addD (mTup (mCons (mC (.str "root")) mNil)) (mCB tupleF (mCons (mLc [5] (mIter (mVar 4)) (mgName 5) mYes (mOp fdivD (mVar 5) (mCall 1 r__law_common (mCons (mVar 4) mNil)))) mNil))) [x0, x1, x2, x3, some (.lst [.int a, .int b, .int c]), x5] s = .rt (rootD r) s := by
  obtain ⟨g, hg, g0, g1, ⟨d1, d2, d3⟩, hp⟩ := prim_div (b := b) (c := c) ha
  have hgI : (0 : Int) < g := by omega
  refine ⟨⟨a / g, b / g, c / g⟩, ⟨?_, ?_, ?_, ?_, ?_, ?_⟩, hp, ?_⟩
  · show 1 ≤ a / g
    have := Int.ediv_pos_of_pos_of_dvd (show 0 < a by omega) (Int.le_of_lt hgI) d1
    omega
  · exact (div_bounds hgI (show (0 : Int) ≤ a by omega) ha1 (by omega) (by omega)).2
  · exact (div_bounds hgI hb0 hb1 (by omega) (by omega)).1
  · exact (div_bounds hgI hb0 hb1 (by omega) (by omega)).2
  · exact (div_bounds hgI hc0 (show c ≤ 0 by omega) (by omega) (by omega)).1
  · show c / g ≤ -1
    have h1 : c / g < 0 := Int.ediv_neg_of_neg_of_pos (by omega) hgI
    omega
  · have hl := lgd_ok s (d := .lst [.int a, .int b, .int c]) (xs := [a, b, c]) rfl
    rw [hg] at hl
    have fd : ∀ x : Int, fdivD (.int x) (.int (g : Int)) s = .ok (.int (x / g)) s := fun x => by
      rw [fdivB s (show Bd 10 (g : Int) by unfold Bd; omega) (by omega) (by decide) (by decide), Int.fdiv_eq_ediv_of_nonneg _ (by omega)]
    have lc : mLc [5] (mIter (mVar 4)) (mgName 5) mYes (mOp fdivD (mVar 5) (mCall 1 r__law_common (mCons (mVar 4) mNil))) [x0, x1, x2, x3, some (.lst [.int a, .int b, .int c]), x5] s = .ok (.lst [.int (a / g), .int (b / g), .int (c / g)]) s := by
      have := lc_map (own := [5]) (mi := mIter (mVar 4)) (tg := mgName 5) (me := mOp fdivD (mVar 5) (mCall 1 r__law_common (mCons (mVar 4) mNil))) (l := [x0, x1, x2, x3, some (.lst [.int a, .int b, .int c]), x5]) (s := s) (fun d => match d with | .int x => .int (x / g) | _ => .non) (ds := [.int a, .int b, .int c]) rfl (by show 3 ≤ 100000; decide) (fun d hd => by
        obtain ⟨x, rfl⟩ : ∃ x, d = .int x := by
          simp only [List.mem_cons, List.not_mem_nil, or_false] at hd
          rcases hd with rfl | rfl | rfl <;> exact ⟨_, rfl⟩
        refine ⟨[x0, x1, x2, x3, some (.lst [.int a, .int b, .int c]), some (.int x)], rfl, ?_⟩
        have fx := fd x
        generalize D.lst [.int a, .int b, .int c] = row at *
        repeat (first | walk_at "sem1" | simp only [hl, fx]))
      exact this
    have ht : tupleF [.lst [.int (a / g), .int (b / g), .int (c / g)]] s = .ok (.tup [.int (a / g), .int (b / g), .int (c / g)]) s := rfl
    have hadd : addD (.tup [.str "root"]) (.tup [.int (a / g), .int (b / g), .int (c / g)]) s = .ok (rootD ⟨a / g, b / g, c / g⟩) s := by
      simp [addD, rootD]
    have z1 : (1 : Nat) ≤ 100000 := by decide
    generalize mLc [5] (mIter (mVar 4)) (mgName 5) mYes (mOp fdivD (mVar 5) (mCall 1 r__law_common (mCons (mVar 4) mNil))) = lcc at *
    generalize D.lst [.int a, .int b, .int c] = row at *
    generalize D.lst [.int (a / g), .int (b / g), .int (c / g)] = row2 at *
    generalize D.tup [.int (a / g), .int (b / g), .int (c / g)] = row3 at *
    repeat (first | walk_at "sem1" | simp only [lc, ht, hadd, z1])
theorem num_le {p q : Int} (hp : 0 < p) (hq : 0 < q) : 1 ≤ (Rat.divInt p q).num ∧ (Rat.divInt p q).num ≤ p := by
  refine ⟨?_, ?_⟩
  · have := num_pos.mpr (divInt_pos hp hq); omega
  · rw [divInt_num hq, Int.fdiv_eq_ediv_of_nonneg _ (by omega)]
    exact Int.ediv_le_self _ (by omega)
theorem lroot_ok {s : Sto} {n : Nat} (hB : BagAt s n) (hs : plS s) : ∃ (r : Rt) (s' : Sto), r__law_root [.ref n] s = .ok (rootD r) s' ∧ Drew s s' n ∧ OkR r ∧ Prim r := by
  have hn := hB.lt
  obtain ⟨r1, s1, e1, a1, b1, d1⟩ := draw_ok hB (many := 3) (by decide) (by decide)
  have hB1 := d1.bag hn
  have back : ∀ (s' : Sto) (r : Rt), Drew s s' n → backF s.length (.ok (rootD r) s') = .ok (rootD r) s' := fun s' r d => backF_eq d.len
  unfold r__law_root
  by_cases h0 : r1 = 0
  · subst h0
    obtain ⟨r2, s2, e2, a2, b2, d2⟩ := draw_ok hB1 (many := 9) (by decide) (by decide)
    have hB2 := d2.bag hB1.lt
    obtain ⟨r3, s3, e3, a3, b3, d3⟩ := draw_ok hB2 (many := 5) (by decide) (by decide)
    have hB3 := d3.bag hB2.lt
    obtain ⟨r4, s4, e4, a4, b4, d4⟩ := draw_ok hB3 (many := 6) (by decide) (by decide)
    have hf := lfr_ok (p := 1 + r2) s3 (N := 10) (show (1 + r3).natAbs < 2 ^ 10 by omega) (by omega) (by decide) (by decide)
    obtain ⟨n0, n1⟩ := num_le (show 0 < 1 + r2 by omega) (show 0 < 1 + r3 by omega)
    have q0 : (1 : Int) ≤ (Rat.divInt (1 + r2) (1 + r3)).den := den_pos' _
    have q1 : ((Rat.divInt (1 + r2) (1 + r3)).den : Int) ≤ 5 := den_le (by omega) (by omega)
    unfold fr at hf
    generalize (Rat.divInt (1 + r2) (1 + r3)).num = p at *
    generalize ((Rat.divInt (1 + r2) (1 + r3)).den : Int) = q at *
    have u1 : q * (1 + r4) ≤ 5 * 6 := Int.mul_le_mul (by omega) (by omega) (by omega) (by omega)
    have u2 : 1 * 1 ≤ q * (1 + r4) := Int.mul_le_mul (by omega) (by omega) (by omega) (by omega)
    have u3 : p * (1 + r4) ≤ 9 * 6 := Int.mul_le_mul (by omega) (by omega) (by omega) (by omega)
    have u4 : 1 * 1 ≤ p * (1 + r4) := Int.mul_le_mul (by omega) (by omega) (by omega) (by omega)
    have m1 : mulD (.int q) (.int (1 + r4)) s4 = .ok (.int (q * (1 + r4))) s4 := by
      simp only [mulD, mulOk_l (i := q) (j := 1 + r4) (by omega), if_true]
    have m2 : mulD (.int p) (.int (1 + r4)) s4 = .ok (.int (p * (1 + r4))) s4 := by
      simp only [mulD, mulOk_l (i := p) (j := 1 + r4) (by omega), if_true]
    obtain ⟨r, k1, k2, k3⟩ := tail_root s4 (some (.ref n)) (some (.int p)) (some (.int q)) (some (.int (1 + r4))) none (a := q) (b := q * (1 + r4) - p) (c := 0 - p * (1 + r4)) (by omega) (by omega) (by omega) (by omega) (by omega) (by omega)
    have d : Drew s s4 n := ((d1.trans d2).trans d3).trans d4
    refine ⟨r, s4, ?_, d, k1, k2⟩
    have z3 : (3 : Nat) ≤ 100000 := by decide
    have hback := back s4 r d
    generalize rootD r = rd at *
    generalize mRet (mOp addD (mTup (mCons (mC (.str "root")) mNil)) (mCB tupleF (mCons (mLc [5] (mIter (mVar 4)) (mgName 5) mYes (mOp fdivD (mVar 5) (mCall 1 r__law_common (mCons (mVar 4) mNil)))) mNil))) = rest at *
    simp only [mDef, List.length_cons, List.length_nil, Nat.reduceAdd, if_true, List.map_cons, List.map_nil, Nat.reduceSub, List.replicate_succ, List.replicate_zero, List.cons_append, List.nil_append]
    rw [← hback]
    congr 1
    repeat (first | walk_at "sem1" | simp only [e1, e2, e3, e4, hf, mgTup, m1, m2, k3, z3])
  · obtain ⟨r2, s2, e2, a2, b2, d2⟩ := draw_ok hB1 (many := 9) (by decide) (by decide)
    have hB2 := d2.bag hB1.lt
    obtain ⟨r3, s3, e3, a3, b3, d3⟩ := draw_ok hB2 (many := 41) (by decide) (by decide)
    have hB3 := d3.bag hB2.lt
    obtain ⟨r4, s4, e4, a4, b4, d4⟩ := draw_ok hB3 (many := 30) (by decide) (by decide)
    obtain ⟨r, k1, k2, k3⟩ := tail_root s4 (some (.ref n)) none none none none (a := 1 + r2) (b := r3 - 20) (c := -1 - r4) (by omega) (by omega) (by omega) (by omega) (by omega) (by omega)
    have d : Drew s s4 n := ((d1.trans d2).trans d3).trans d4
    refine ⟨r, s4, ?_, d, k1, k2⟩
    have z3 : (3 : Nat) ≤ 100000 := by decide
    have c0 : (r1 == 0) = false := by simp [h0]
    have hback := back s4 r d
    generalize rootD r = rd at *
    generalize mRet (mOp addD (mTup (mCons (mC (.str "root")) mNil)) (mCB tupleF (mCons (mLc [5] (mIter (mVar 4)) (mgName 5) mYes (mOp fdivD (mVar 5) (mCall 1 r__law_common (mCons (mVar 4) mNil)))) mNil))) = rest at *
    simp only [mDef, List.length_cons, List.length_nil, Nat.reduceAdd, if_true, List.map_cons, List.map_nil, Nat.reduceSub, List.replicate_succ, List.replicate_zero, List.cons_append, List.nil_append]
    rw [← hback]
    congr 1
    repeat (first | walk_at "sem1" | simp only [e1, e2, e3, e4, c0, k3, z3])
/-! ### one case -/
theorem lsign_ok (v : Int) (s : Sto) : r__law_sign [.int v] s = .ok (.int v.sign) s := by
  unfold r__law_sign
  repeat (first | walk_at "sem1")
  rw [sign_sub]
theorem rc30 {r : Rt} (h : OkR r) (hp : Prim r) (x0 x2 x3 x4 x5 x6 x7 x8 x9 x10 x11 x12 x13 x14 x15 x16 x17 x18 : Option D) (s : Sto) :
    t__law_case_28 [x0, some (rootD r), x2, x3, x4, x5, x6, x7, x8, x9, x10, x11, x12, x13, x14, x15, x16, x17, x18] s = .rt (.bl true) s := by
  have hr := h.sz
  have l1 := look_rt hr hp s
  have f1 : ∀ d, r_is_number [d] s = .ok (.bl false) s → r__law_told [.fn "compare", .tup [rootD r, d]] s = .ok (.str "value") s := fun d hd => told2 rfl (.inl ⟨rfl, rfl⟩) (by
    unfold r_compare
    generalize rootD r = rd at *
    repeat (first | walk_at "sem1" | simp only [l1, hd]))
  have f2 : ∀ d, r_is_integer [d, .int 0, .int 60] s = .ok (.bl false) s → r__law_told [.fn "floor_of", .tup [rootD r, d]] s = .ok (.str "far") s := fun d hd => told2 rfl (.inr ⟨rfl, rfl⟩) (by
    unfold r_floor_of
    simp only [t_floor_of_2]
    generalize rootD r = rd at *
    repeat (first | walk_at "sem1" | simp only [l1, hd]))
  have nn : ∀ d, isiF "tuple" d s = .ok (.bl false) s → r_is_number [d] s = .ok (.bl false) s := fun d hd => by
    unfold r_is_number
    repeat (first | walk_at "sem1" | simp only [hd])
  have g1 := f1 .non (nn _ rfl)
  have g2 := f1 (.tup [.int 2, .int 4]) (isnum_ok 2 4 s)
  have g3 := f1 (.int 3) (nn _ rfl)
  have g4 := f1 (.tup [.int 1, .int 0]) (isnum_ok 1 0 s)
  have k1 := f2 (.int (-1)) (isint_ok (-1) 0 60 s)
  have k2 := f2 (.int 61) (isint_ok 61 0 60 s)
  have k3 := f2 .non (isint_non _ _ s)
  have k4 := f2 (.bl true) (isint_bl _ _ _ s)
  have z2 : (2 : Nat) ≤ 100000 := by decide
  have c1 : mLc [17] (mIter (mLst (mCons (mC .non) (mCons (mTup (mCons (mC (.int 2)) (mCons (mC (.int 4)) mNil))) (mCons (mC (.int 3)) (mCons (mTup (mCons (mC (.int 1)) (mCons (mC (.int 0)) mNil))) mNil)))))) (mgName 17) mYes (mCall 2 r__law_told (mCons (mC (.fn "compare")) (mCons (mTup (mCons (mVar 1) (mCons (mVar 17) mNil))) mNil))) [x0, some (rootD r), x2, x3, x4, x5, x6, x7, x8, x9, x10, x11, x12, x13, x14, x15, x16, x17, x18] s = .ok (.lst ([D.non, .tup [.int 2, .int 4], .int 3, .tup [.int 1, .int 0]].map fun _ => .str "value")) s := by
    refine lc_map (fun _ => .str "value") (ds := [.non, .tup [.int 2, .int 4], .int 3, .tup [.int 1, .int 0]]) rfl (by decide) fun d hd => ⟨_, rfl, ?_⟩
    simp only [wipeD]
    generalize rootD r = rd at *
    simp only [List.mem_cons, List.not_mem_nil, or_false] at hd
    rcases hd with rfl | rfl | rfl | rfl
    · repeat (first | walk_at "sem1" | simp only [g1, z2])
    · repeat (first | walk_at "sem1" | simp only [g2, z2])
    · repeat (first | walk_at "sem1" | simp only [g3, z2])
    · repeat (first | walk_at "sem1" | simp only [g4, z2])
  have c2 : mLc [17] (mIter (mLst (mCons (mUn negD (mC (.int 1))) (mCons (mC (.int 61)) (mCons (mC .non) (mCons (mC (.bl true)) mNil)))))) (mgName 17) mYes (mCall 2 r__law_told (mCons (mC (.fn "floor_of")) (mCons (mTup (mCons (mVar 1) (mCons (mVar 17) mNil))) mNil))) [x0, some (rootD r), x2, x3, x4, x5, x6, x7, x8, x9, x10, x11, x12, x13, x14, x15, x16, x17, x18] s = .ok (.lst ([D.int (-1), .int 61, .non, .bl true].map fun _ => .str "far")) s := by
    refine lc_map (fun _ => .str "far") (ds := [.int (-1), .int 61, .non, .bl true]) rfl (by decide) fun d hd => ⟨_, rfl, ?_⟩
    simp only [wipeD]
    generalize rootD r = rd at *
    simp only [List.mem_cons, List.not_mem_nil, or_false] at hd
    rcases hd with rfl | rfl | rfl | rfl
    · repeat (first | walk_at "sem1" | simp only [k1, z2])
    · repeat (first | walk_at "sem1" | simp only [k2, z2])
    · repeat (first | walk_at "sem1" | simp only [k3, z2])
    · repeat (first | walk_at "sem1" | simp only [k4, z2])
  have m1 : mulD (.lst [.str "value"]) (.int 4) s = .ok (.lst ([D.non, .tup [.int 2, .int 4], .int 3, .tup [.int 1, .int 0]].map fun _ => .str "value")) s := rfl
  have m2 : mulD (.lst [.str "far"]) (.int 4) s = .ok (.lst ([D.int (-1), .int 61, .non, .bl true].map fun _ => .str "far")) s := rfl
  have q1 : neD (.lst ([D.non, .tup [.int 2, .int 4], .int 3, .tup [.int 1, .int 0]].map fun _ => .str "value")) (.lst ([D.non, .tup [.int 2, .int 4], .int 3, .tup [.int 1, .int 0]].map fun _ => .str "value")) s = .ok (.bl false) s := neD_no 2 rfl (by decide +kernel) (by decide)
  have q2 : eqD (.lst ([D.int (-1), .int 61, .non, .bl true].map fun _ => .str "far")) (.lst ([D.int (-1), .int 61, .non, .bl true].map fun _ => .str "far")) s = .ok (.bl true) s := eqD_yes 2 rfl (by decide +kernel) (by decide)
  have z1 : (1 : Nat) ≤ 100000 := by decide
  unfold t__law_case_28
  simp only [t__law_case_30]
  generalize ([D.non, .tup [.int 2, .int 4], .int 3, .tup [.int 1, .int 0]].map fun _ => D.str "value") = r1 at *
  generalize ([D.int (-1), .int 61, .non, .bl true].map fun _ => D.str "far") = r2 at *
  generalize rootD r = rd at *
  generalize mLc [17] (mIter (mLst (mCons (mC .non) (mCons (mTup (mCons (mC (.int 2)) (mCons (mC (.int 4)) mNil))) (mCons (mC (.int 3)) (mCons (mTup (mCons (mC (.int 1)) (mCons (mC (.int 0)) mNil))) mNil)))))) (mgName 17) mYes (mCall 2 r__law_told (mCons (mC (.fn "compare")) (mCons (mTup (mCons (mVar 1) (mCons (mVar 17) mNil))) mNil))) = lc1 at *
  generalize mLc [17] (mIter (mLst (mCons (mUn negD (mC (.int 1))) (mCons (mC (.int 61)) (mCons (mC .non) (mCons (mC (.bl true)) mNil)))))) (mgName 17) mYes (mCall 2 r__law_told (mCons (mC (.fn "floor_of")) (mCons (mTup (mCons (mVar 1) (mCons (mVar 17) mNil))) mNil))) = lc2 at *
  repeat (first | walk_at "sem1" | simp only [c1, c2, m1, m2, q1, q2, z1])
theorem rc25 {r : Rt} (h : OkR r) (hp : Prim r) (x0 x2 x3 x4 x5 x6 x7 x8 x9 x10 x11 x12 x13 x14 x15 x16 x18 : Option D) (ds : List D) (hds : ∀ d ∈ ds, shp 3 d = true ∧ isRoot d = false) (s : Sto) :
    t__law_case_25 [x0, some (rootD r), x2, x3, x4, x5, x6, x7, x8, x9, x10, x11, x12, x13, x14, x15, x16, some (.lst ds), x18] s = .rt (.bl true) s := by
  obtain ⟨l', s', e, y, rfl, rfl⟩ := forL_inv (mg := mgName 18) (mb := b__law_case_25) (ds := ds)
    (fun k l t => ∃ y, l = [x0, some (rootD r), x2, x3, x4, x5, x6, x7, x8, x9, x10, x11, x12, x13, x14, x15, x16, some (.lst ds), y] ∧ t = s)
    (fun k d l t hd ⟨y, el, et⟩ => by
      subst el et
      obtain ⟨hs, hb⟩ := hds d (List.mem_iff_getElem?.mpr ⟨k, hd⟩)
      obtain ⟨t1, t2, t3, t4, t5⟩ := all_bad hs hb h.sz hp t
      have n1 : neD (.lst [.str "value", .str "value", .str "value", .str "value", .str "value"]) (.lst [.str "value", .str "value", .str "value", .str "value", .str "value"]) t = .ok (.bl false) t := neD_no 2 rfl (by decide +kernel) (by decide)
      have m1 : mulD (.lst [.str "value"]) (.int 5) t = .ok (.lst [.str "value", .str "value", .str "value", .str "value", .str "value"]) t := rfl
      have z1 : (1 : Nat) ≤ 100000 := by decide
      have z2 : (2 : Nat) ≤ 100000 := by decide
      have z5 : (5 : Nat) ≤ 100000 := by decide
      refine ⟨_, _, rfl, _, _, ?_, some d, rfl, rfl⟩
      unfold b__law_case_25
      generalize rootD r = rd at *
      repeat (first | walk_at "sem1" | simp only [t1, t2, t3, t4, t5, n1, m1, z1, z2, z5]))
    (l := [x0, some (rootD r), x2, x3, x4, x5, x6, x7, x8, x9, x10, x11, x12, x13, x14, x15, x16, some (.lst ds), x18]) (s := s) ⟨x18, rfl, rfl⟩
  have e2 : l__law_case_25 [x0, some (rootD r), x2, x3, x4, x5, x6, x7, x8, x9, x10, x11, x12, x13, x14, x15, x16, some (.lst ds), x18] s' = .nx [x0, some (rootD r), x2, x3, x4, x5, x6, x7, x8, x9, x10, x11, x12, x13, x14, x15, x16, some (.lst ds), y] s' := by
    unfold l__law_case_25
    rw [for_ok (iter_ok rfl rfl)]
    exact e
  have e3 := rc30 h hp x0 x2 x3 x4 x5 x6 x7 x8 x9 x10 x11 x12 x13 x14 x15 x16 (some (.lst ds)) y s'
  unfold t__law_case_25
  simp only [mSeq, e2, e3]
theorem rc24 {r : Rt} (h : OkR r) (hp : Prim r) (x0 x2 x3 x4 x5 x6 x7 x8 x9 x10 x11 x12 x13 x14 x15 x16 x17 x18 : Option D) (s : Sto) :
    t__law_case_24 [x0, some (rootD r), x2, x3, x4, x5, x6, x7, x8, x9, x10, x11, x12, x13, x14, x15, x16, x17, x18] s = .rt (.bl true) s := by
  have e := rc25 h hp x0 x2 x3 x4 x5 x6 x7 x8 x9 x10 x11 x12 x13 x14 x15 x16 x18 [.non, .tup [.str "root", .int 1, .int 2], .tup [.str "roots", .int 1, .int 0, .int (-2)], .tup [.str "root", .int 0, .int 1, .int (-1)], .tup [.str "root", .int (-1), .int 0, .int 2], .tup [.str "root", .int 1, .int 0, .int 2], .tup [.str "root", .int 2, .int 0, .int (-4)], .tup [.str "root", .int 1, .int 0, .int 0], .tup [.str "root", .bl true, .int 0, .int (-2)], .tup [.str "root", .int 1, .non, .int (-2)]] (fun d hd => by
    simp only [List.mem_cons, List.not_mem_nil, or_false] at hd
    rcases hd with rfl | rfl | rfl | rfl | rfl | rfl | rfl | rfl | rfl | rfl <;> exact ⟨by decide +kernel, by decide +kernel⟩) s
  have z1 : (3 : Nat) ≤ 100000 := by decide
  have z2 : (4 : Nat) ≤ 100000 := by decide
  have z5 : (10 : Nat) ≤ 100000 := by decide
  unfold t__law_case_24
  generalize rootD r = rd at *
  generalize t__law_case_25 = t25 at *
  repeat (first | walk_at "sem1" | simp only [z1, z2, z5, e])
theorem opf_pl (x : Option Rat) : plN 2 (match x with | some y => fr y | none => D.non) = true := by cases x <;> rfl
theorem rc19 {r : Rt} (h : OkR r) (hp : Prim r) (x0 x2 x3 x7 x8 x9 x10 x11 x12 x13 x14 x15 x16 x17 x18 : Option D) (s : Sto) :
    t__law_case_19 [x0, some (rootD r), x2, x3, some (.int r.a), some (.int r.b), some (.int r.c), x7, x8, x9, x10, x11, x12, x13, x14, x15, x16, x17, x18] s = .rt (.bl true) s := by
  have hr := h.sz
  have m1 := mulB s hr.b hr.b (by decide) (by decide) (by decide)
  have m2 := mulB s (show Bd 3 4 by decide) hr.a (by decide) (by decide) (by decide)
  have m3 := mulB s ((show Bd 3 4 by decide).mul hr.a) hr.c (by decide) (by decide) (by decide)
  have hdd : r.b * r.b - 4 * r.a * r.c = disc r := rfl
  have hdpos : 1 ≤ disc r := by
    have h1 : 0 ≤ r.b * r.b := by
      rcases Int.le_total 0 r.b with z | z
      · exact Int.mul_nonneg z z
      · have := Int.mul_nonneg (show 0 ≤ -r.b by omega) (show 0 ≤ -r.b by omega)
        rwa [Int.neg_mul_neg] at this
    have h2 : 0 < r.a * -r.c := Int.mul_pos (by have := hr.a0; omega) (by have := hr.c1; omega)
    have : 4 * r.a * r.c = -(4 * (r.a * -r.c)) := by grind
    unfold disc
    omega
  -- the whole root
  have hsq : SzR ⟨1, 0, 0 - disc r⟩ ∨ True := .inr trivial
  have hdb : Bd 200 (0 - disc r) := by
    have a0 := h.a0; have a1 := h.a1; have b0 := h.b0; have b1 := h.b1; have c0 := h.c0; have c1 := h.c1
    have u1 : (r.b * r.b).natAbs ≤ 30 * 30 := by rw [Int.natAbs_mul]; exact Nat.mul_le_mul (by omega) (by omega)
    have u2 : (4 * r.a * r.c).natAbs ≤ 240 * 60 := by rw [Int.natAbs_mul]; exact Nat.mul_le_mul (by omega) (by omega)
    have u3 : (100000 : Nat) < 2 ^ 200 := by decide +kernel
    unfold Bd disc
    generalize (2 : Nat) ^ 200 = z at *
    omega
  obtain ⟨q, q0, q1, q2, e1⟩ := lfloor_ok (r := ⟨1, 0, 0 - disc r⟩) ⟨show Bd 200 1 by decide +kernel, show Bd 200 0 by decide +kernel, hdb, show (1 : Int) ≤ 1 by decide, by show 0 - disc r ≤ -1; omega⟩ (S := 1) (by decide) (by decide +kernel) s
  have w1 : q * q ≤ disc r := by
    have : FS ⟨1, 0, 0 - disc r⟩ 1 q = q * q - disc r := by unfold FS; grind
    omega
  have w2 : disc r < (q + 1) * (q + 1) := by
    have : FS ⟨1, 0, 0 - disc r⟩ 1 (q + 1) = (q + 1) * (q + 1) - disc r := by unfold FS; grind
    omega
  have e1 : r__law_floor [.tup [.str "root", .int 1, .int 0, .int (0 - disc r)], .int 1] s = .ok (.int q) s := e1
  have hq : Bd 405 q := by
    have hd := disc_bd hr
    unfold Bd at hd ⊢
    have h1 : q ≤ disc r ∨ q ≤ 0 := by
      rcases Int.lt_or_le 0 q with z | z
      · left
        have : q * 1 ≤ q * q := Int.mul_le_mul_of_nonneg_left (by omega) q0
        omega
      · exact .inr z
    have e1 : (2 : Nat) ^ 405 = 2 ^ 404 * 2 := by rw [← Nat.pow_succ]
    have e2 : (0 : Nat) < 2 ^ 404 := Nat.pow_pos (by decide)
    rw [e1]
    generalize (2 : Nat) ^ 404 = m at *
    omega
  have m4 := mulB s hq hq (by decide) (by decide) (by decide)
  have m5 := mulB s (show Bd 3 2 by decide) hr.a (by decide) (by decide) (by decide)
  have l1 := lfr_ok (p := q - r.b) s (N := 203) ((show Bd 3 2 by decide).mul hr.a) (by have := hr.a0; omega) (by decide) (by decide)
  have f1 := fracby_ok hr s q0 w1 w2
  have f2 : r_fraction_of [rootD r] s = .ok (if q * q = disc r then fr (Rat.divInt (q - r.b) (2 * r.a)) else .non) s := by
    have k := look_rt hr hp s
    unfold r_fraction_of
    generalize rootD r = rd at *
    generalize (if q * q = disc r then fr (Rat.divInt (q - r.b) (2 * r.a)) else .non) = res at *
    repeat (first | walk_at "sem1" | simp only [k, f1])
  have e24 := fun y14 y15 y16 => rc24 h hp x0 x2 x3 (some (.int r.a)) (some (.int r.b)) (some (.int r.c)) x7 x8 x9 x10 x11 x12 x13 y14 y15 y16 x17 x18 s
  have z4 : (4 : Nat) ≤ 100000 := by decide
  simp only [t__law_case_19, t__law_case_20, t__law_case_21, t__law_case_22]
  by_cases hpq : q * q = disc r
  · have c : (q * q == disc r) = true := by simp [hpq]
    rw [if_pos hpq] at f2
    have n1 : neD (fr (Rat.divInt (q - r.b) (2 * r.a))) (fr (Rat.divInt (q - r.b) (2 * r.a))) s = .ok (.bl false) s := neD_no 2 rfl (plN_fr _) (by decide)
    generalize fr (Rat.divInt (q - r.b) (2 * r.a)) = f at *
    generalize disc r = d at *
    generalize rootD r = rd at *
    generalize t__law_case_24 = t24 at *
    repeat (first | walk_at "sem1" | simp only [m1, m2, m3, hdd, e1, m4, c, m5, l1, f2, n1, z4, e24])
  · have c : (q * q == disc r) = false := by simp [hpq]
    rw [if_neg hpq] at f2
    have n1 : neD .non .non s = .ok (.bl false) s := neD_no 2 rfl rfl (by decide)
    generalize disc r = d at *
    generalize rootD r = rd at *
    generalize t__law_case_24 = t24 at *
    repeat (first | walk_at "sem1" | simp only [m1, m2, m3, hdd, e1, m4, c, f2, n1, z4, e24])
def greatI : Int := 10 ^ 40 * 10 ^ 40
theorem great_cast : ((greatI : Int) : Rat) = gapS := by decide +kernel
theorem great_pos : 0 < greatI := by decide +kernel
theorem great_bd : Bd 400 greatI := by unfold Bd; decide +kernel
/-- the law's floors at the great scale -/
theorem great_flo {r : Rt} (h : OkR r) (s : Sto) : ∃ t : Int, Flo r gapS t ∧ r__law_floor [rootD r, .int greatI] s = .ok (.int t) s := by
  obtain ⟨t, t0, t1, t2, e⟩ := lfloor_ok h.sz great_pos great_bd s
  exact ⟨t, by rw [← great_cast]; exact flo_of great_pos t0 t1 t2, e⟩
theorem rc15 {r r' : Rt} (h : OkR r) (hp : Prim r) (h' : OkR r') (hp' : Prim r') (x0 x3 x7 x8 x9 x10 x11 x12 x13 x14 x15 x16 x17 x18 : Option D) (s : Sto) :
    t__law_case_15 [x0, some (rootD r), some (rootD r'), x3, some (.int r.a), some (.int r.b), some (.int r.c), x7, x8, x9, x10, x11, x12, x13, x14, x15, x16, x17, x18] s = .rt (.bl true) s := by
  obtain ⟨t, f, e1⟩ := great_flo h s
  obtain ⟨t', f', e2⟩ := great_flo h' s
  have l1 := look_rt h.sz hp s
  have l2 := look_rt h'.sz hp' s
  have o1 := order_ok h h' s l1 l2 f f'
  have o2 := order_ok h' h s l2 l1 f' f
  have o3 := order_ok h h s l1 l1 f f
  have hs0 : (t - t).sign = 0 := by rw [Int.sub_self]; rfl
  rw [hs0] at o3
  have hs1 : (t' - t).sign = 0 - (t - t').sign := by rw [Int.zero_sub, ← Int.sign_neg]; congr 1; omega
  rw [hs1] at o2
  have ls := lsign_ok (t - t') s
  have p1 : powD (.int 10) (.int 40) s = .ok (.int (10 ^ 40)) s := by
    have : powOk 10 40 = true := by decide
    simp only [powD, this, if_true]; rfl
  have m1 : mulD (.int (10 ^ 40)) (.int (10 ^ 40)) s = .ok (.int greatI) s := by
    have hb : Bd 200 (10 ^ 40) := by unfold Bd; decide +kernel
    exact mulB s hb hb (by decide) (by decide) (by decide)
  have e19 := fun y12 y13 => rc19 h hp x0 (some (rootD r')) x3 x7 x8 x9 x10 x11 y12 y13 x14 x15 x16 x17 x18 s
  have c1 : ∀ v : Int, (!(v == v)) = false := fun v => by simp
  simp only [t__law_case_15, t__law_case_16, t__law_case_17]
  generalize (t - t').sign = sg at *
  generalize hG : greatI = G at *
  generalize hT : (10 : Int) ^ 40 = T at *
  generalize rootD r = rd at *
  generalize rootD r' = rd' at *
  generalize t__law_case_19 = t19 at *
  repeat (first | walk_at "sem1" | simp only [p1, m1, e1, e2, ls, o1, o2, o3, c1, e19])
/-! the fractions near the root -/
theorem rc11b {r : Rt} (h : OkR r) (hp : Prim r) {x : Rat} {N : Nat} (hx : Sm N x) (hN : 0 < N) (h9 : N ≤ 100000) (x0 x2 x3 x7 x8 x9 x10 x12 x13 x14 x15 x16 x17 x18 : Option D) (s : Sto) :
    ∃ y12, b__law_case_11 [x0, some (rootD r), x2, x3, some (.int r.a), some (.int r.b), some (.int r.c), x7, x8, x9, x10, some (fr x), x12, x13, x14, x15, x16, x17, x18] s = .nx [x0, some (rootD r), x2, x3, some (.int r.a), some (.int r.b), some (.int r.c), x7, x8, x9, x10, some (fr x), y12, x13, x14, x15, x16, x17, x18] s := by
  refine ⟨some (.int (cmpR r x)), ?_⟩
  have hr := h.sz
  have e1 := compare_ok hr hp hx hN h9 s
  have c1 : (!(cmpR r x == cmpR r x)) = false := by simp
  have i0 := ix0 x s
  have i1 := ix1 x s
  have m1 := mulB s hr.a (sm_num hx) (by decide) hN (by omega)
  have m2 := mulB s (hr.a.mul (sm_num hx)) (sm_num hx) (by omega) hN (by omega)
  have m3 := mulB s hr.b (sm_num hx) (by decide) hN (by omega)
  have m4 := mulB s (hr.b.mul (sm_num hx)) (sm_den hx) (by omega) hN (by omega)
  have m5 := mulB s hr.c (sm_den hx) (by decide) hN (by omega)
  have m6 := mulB s (hr.c.mul (sm_den hx)) (sm_den hx) (by omega) hN (by omega)
  have hc := cmpR_eq r x
  unfold b__law_case_11
  simp only [t__law_case_13]
  by_cases hn : x.num ≤ 0
  · have c2 : decide (x.num ≤ 0) = true := decide_eq_true hn
    rw [if_pos hn] at hc
    rw [hc] at e1 c1 ⊢
    generalize fr x = f at *
    generalize rootD r = rd at *
    repeat (first | walk_at "sem1" | simp only [i0, c2, e1, c1])
  · have c2 : decide (x.num ≤ 0) = false := decide_eq_false hn
    rw [if_neg hn] at hc
    have hz : 0 - (FS r x.den x.num).sign = cmpR r x := by rw [hc]; omega
    have ls := lsign_ok (FS r x.den x.num) s
    have hF : r.a * x.num * x.num + r.b * x.num * x.den + r.c * x.den * x.den = FS r x.den x.num := rfl
    generalize FS r x.den x.num = F at *
    generalize cmpR r x = cm at *
    generalize fr x = f at *
    generalize rootD r = rd at *
    generalize x.num = p at *
    generalize (x.den : Int) = q at *
    repeat (first | walk_at "sem1" | simp only [i0, i1, c2, m1, m2, m3, m4, m5, m6, hF, ls, hz, e1, c1])
theorem backF_bl {n : Nat} {base t : Sto} {b : Bool} (hn : n = base.length) (hb : plS base) : backF n (.ok (.bl b) (base ++ t)) = .ok (.bl b) base := by
  subst hn
  by_cases h : t = []
  · subst h; simp only [List.append_nil, backF, if_true]
  · have : (base ++ t).length ≠ base.length := by
      rw [List.length_append]
      have := List.length_pos_iff.mpr h
      omega
    simp only [backF, if_neg this, frz, List.take_left, plS_cl hb, if_true]
theorem bag_ok {ns : List Int} (h63 : ns.length ≤ 63) (k : Nat) (hk : k ≤ 63) (s : Sto) : ∃ a b c : Int, r__law_bag [.scr ns, .int k] s = .ok (.ref s.length) (s ++ [.lst [.int a, .int b, .int c]]) ∧ c.natAbs < 2 ^ 64 := by
  have hl : lenF [.scr ns] s = .ok (.int ns.length) s := by
    show R.ok (D.int ((ns.map D.int).length : Int)) s = _
    rw [List.length_map]
  have hc : ((k : Nat) : Int).natAbs < 2 ^ 64 := by
    have : (63 : Nat) < 2 ^ 64 := by decide
    omega
  have hp : powD (.int 10) (.int 18) s = .ok (.int 1000000000000000000) s := by
    have : powOk 10 18 = true := by decide
    simp only [powD, this, if_true]
    congr 2
  unfold r__law_bag
  by_cases h : k < ns.length
  · have e1 : decide (((k : Nat) : Int) < (ns.length : Int)) = true := decide_eq_true (by omega)
    have hx : ixD (.scr ns) (.int k) s = .ok (.int (ns[k]'h)) s := by
      have : (ns.map D.int)[k]? = some (.int (ns[k]'h)) := by rw [List.getElem?_map, List.getElem?_eq_getElem h]; rfl
      simp only [ixD, rdS, atI_of this]
    by_cases hb : (1000000000000000000 : Int) ≤ ns[k]'h
    · have e2 : decide ((1000000000000000000 : Int) ≤ ns[k]'h) = true := decide_eq_true hb
      refine ⟨ns[k]'h, ns[k]'h, (k : Nat), ?_, hc⟩
      repeat (first | walk_at "sem1" | simp only [hl, e1, hx, hp, e2, ge_iff_le, mNew])
    · have e2 : decide ((1000000000000000000 : Int) ≤ ns[k]'h) = false := decide_eq_false hb
      refine ⟨0, ns[k]'h, (k : Nat), ?_, hc⟩
      repeat (first | walk_at "sem1" | simp only [hl, e1, hx, hp, e2, ge_iff_le, mNew])
  · have e1 : decide (((k : Nat) : Int) < (ns.length : Int)) = false := decide_eq_false (by omega)
    have e2 : decide ((1000000000000000000 : Int) ≤ 0) = false := by decide
    refine ⟨0, 0, (k : Nat), ?_, hc⟩
    repeat (first | walk_at "sem1" | simp only [hl, e1, hp, e2, ge_iff_le, mNew])
theorem sm_of {p q : Int} {N : Nat} (hp : Bd N p) (hq : Bd N q) (h0 : q ≠ 0) : Sm N (Rat.divInt p q) := divInt_sm hp hq h0
theorem rc11 {r r' : Rt} (h : OkR r) (hp : Prim r) (h' : OkR r') (hp' : Prim r') {S t : Int} (hS0 : 0 < S) (hS : Bd 400 S) (ht0 : 0 ≤ t) (ht : Bd 700 t) (x0 x3 x7 x9 x11 x12 x13 x14 x15 x16 x17 x18 : Option D) (s : Sto) :
    t__law_case_11 [x0, some (rootD r), some (rootD r'), x3, some (.int r.a), some (.int r.b), some (.int r.c), x7, some (.int S), x9, some (.int t), x11, x12, x13, x14, x15, x16, x17, x18] s = .rt (.bl true) s := by
  have hS1 : Bd 700 S := hS.mono (by decide)
  have ht1 : Bd 701 (t + 1) := ht.add (show Bd 700 1 by unfold Bd; exact Nat.one_lt_two_pow (by decide))
  have h2t : Bd 703 (2 * t) := (show Bd 3 2 by decide).mul ht
  have ht2 : Bd 704 (2 * t + 1) := h2t.add (show Bd 703 1 by unfold Bd; exact Nat.one_lt_two_pow (by decide))
  have h2S : Bd 403 (2 * S) := (show Bd 3 2 by decide).mul hS
  have s1 : Sm 704 (Rat.divInt t S) := sm_of (ht.mono (by decide)) (hS.mono (by decide)) (by omega)
  have s2 : Sm 704 (Rat.divInt (t + 1) S) := sm_of (ht1.mono (by decide)) (hS.mono (by decide)) (by omega)
  have s3 : Sm 704 (Rat.divInt (2 * t + 1) (2 * S)) := sm_of ht2 (h2S.mono (by decide)) (by omega)
  have s4 : Sm 704 0 := ⟨by decide +kernel, by decide +kernel⟩
  have s5 : Sm 704 (mkRat (-3) 2) := Sm.mono (M := 3) ⟨by decide +kernel, by decide +kernel⟩ (by decide)
  have s6 : Sm 704 (1000000000 : Rat) := Sm.mono (M := 40) ⟨by decide +kernel, by decide +kernel⟩ (by decide)
  have l1 := lfr_ok (p := t) s hS (by omega) (by decide) (by decide)
  have l2 := lfr_ok (p := t + 1) s hS (by omega) (by decide) (by decide)
  have l3 := lfr_ok (p := 2 * t + 1) s h2S (by omega) (by decide) (by decide)
  have m1 := mulB s (show Bd 3 2 by decide) ht (by decide) (by decide) (by decide)
  have m2 := mulB s (show Bd 3 2 by decide) hS (by decide) (by decide) (by decide)
  have p1 : powD (.int 10) (.int 9) s = .ok (.int 1000000000) s := by
    have : powOk 10 9 = true := by decide
    simp only [powD, this, if_true]; rfl
  have hds : mIter (mLst (mCons (mCall 2 r__law_fr (mCons (mVar 10) (mCons (mVar 8) mNil))) (mCons (mCall 2 r__law_fr (mCons (mOp addD (mVar 10) (mC (.int 1))) (mCons (mVar 8) mNil))) (mCons (mCall 2 r__law_fr (mCons (mOp addD (mOp mulD (mC (.int 2)) (mVar 10)) (mC (.int 1))) (mCons (mOp mulD (mC (.int 2)) (mVar 8)) mNil))) (mCons (mTup (mCons (mC (.int 0)) (mCons (mC (.int 1)) mNil))) (mCons (mTup (mCons (mUn negD (mC (.int 3))) (mCons (mC (.int 2)) mNil))) (mCons (mTup (mCons (mOp powD (mC (.int 10)) (mC (.int 9))) (mCons (mC (.int 1)) mNil))) mNil))))))) [x0, some (rootD r), some (rootD r'), x3, some (.int r.a), some (.int r.b), some (.int r.c), x7, some (.int S), x9, some (.int t), x11, x12, x13, x14, x15, x16, x17, x18] s = .ok [fr (Rat.divInt t S), fr (Rat.divInt (t + 1) S), fr (Rat.divInt (2 * t + 1) (2 * S)), .tup [.int 0, .int 1], .tup [.int (-3), .int 2], .tup [.int 1000000000, .int 1]] s := by
    have z2 : (2 : Nat) ≤ 100000 := by decide
    have z6 : (6 : Nat) ≤ 100000 := by decide
    generalize fr (Rat.divInt t S) = f1 at *
    generalize fr (Rat.divInt (t + 1) S) = f2 at *
    generalize fr (Rat.divInt (2 * t + 1) (2 * S)) = f3 at *
    generalize rootD r = rd at *
    generalize rootD r' = rd' at *
    repeat (first | walk_at "sem1" | simp only [mIter, l1, l2, l3, m1, m2, p1, z2, z6, stands])
  have e5 : D.tup [.int (-3), .int 2] = fr (mkRat (-3) 2) := by
    have h1 : (mkRat (-3) 2).num = -3 := by decide +kernel
    have h2 : (mkRat (-3) 2).den = 2 := by decide +kernel
    simp only [fr, h1, h2]; rfl
  have e6 : D.tup [.int 1000000000, .int 1] = fr (1000000000 : Rat) := rfl
  rw [fr_zero, e5, e6] at hds
  have hall : ∀ d ∈ [fr (Rat.divInt t S), fr (Rat.divInt (t + 1) S), fr (Rat.divInt (2 * t + 1) (2 * S)), fr 0, fr (mkRat (-3) 2), fr (1000000000 : Rat)], ∃ x : Rat, d = fr x ∧ Sm 704 x := fun d hd => by
    simp only [List.mem_cons, List.not_mem_nil, or_false] at hd
    rcases hd with rfl | rfl | rfl | rfl | rfl | rfl
    · exact ⟨_, rfl, s1⟩
    · exact ⟨_, rfl, s2⟩
    · exact ⟨_, rfl, s3⟩
    · exact ⟨_, rfl, s4⟩
    · exact ⟨_, rfl, s5⟩
    · exact ⟨_, rfl, s6⟩
  generalize [fr (Rat.divInt t S), fr (Rat.divInt (t + 1) S), fr (Rat.divInt (2 * t + 1) (2 * S)), fr 0, fr (mkRat (-3) 2), fr (1000000000 : Rat)] = ds at *
  obtain ⟨l', s', e, y, z, rfl, rfl⟩ := forL_inv (mg := mgName 11) (mb := b__law_case_11) (ds := ds)
    (fun k l u => ∃ y z, l = [x0, some (rootD r), some (rootD r'), x3, some (.int r.a), some (.int r.b), some (.int r.c), x7, some (.int S), x9, some (.int t), y, z, x13, x14, x15, x16, x17, x18] ∧ u = s)
    (fun k d l u hd ⟨y, z, el, eu⟩ => by
      subst el eu
      obtain ⟨x, rfl, hx⟩ := hall d (List.mem_iff_getElem?.mpr ⟨k, hd⟩)
      obtain ⟨y12, e⟩ := rc11b h hp hx (by decide) (by decide) x0 (some (rootD r')) x3 x7 (some (.int S)) x9 (some (.int t)) z x13 x14 x15 x16 x17 x18 u
      exact ⟨_, _, rfl, _, _, e, _, _, rfl, rfl⟩)
    (l := [x0, some (rootD r), some (rootD r'), x3, some (.int r.a), some (.int r.b), some (.int r.c), x7, some (.int S), x9, some (.int t), x11, x12, x13, x14, x15, x16, x17, x18]) (s := s) ⟨_, _, rfl, rfl⟩
  have e2 : l__law_case_11 [x0, some (rootD r), some (rootD r'), x3, some (.int r.a), some (.int r.b), some (.int r.c), x7, some (.int S), x9, some (.int t), x11, x12, x13, x14, x15, x16, x17, x18] s' = .nx [x0, some (rootD r), some (rootD r'), x3, some (.int r.a), some (.int r.b), some (.int r.c), x7, some (.int S), x9, some (.int t), y, z, x13, x14, x15, x16, x17, x18] s' := by
    unfold l__law_case_11
    rw [for_ok hds]
    exact e
  have e3 := rc15 h hp h' hp' x0 x3 x7 (some (.int S)) x9 (some (.int t)) y z x13 x14 x15 x16 x17 x18 s'
  unfold t__law_case_11
  simp only [mSeq, e2, e3]
theorem rc3 {r r' : Rt} (h : OkR r) (hp : Prim r) (h' : OkR r') (hp' : Prim r') {n : Nat} {s : Sto} (hB : BagAt s n) : ∃ s', Drew s s' n ∧ 
    t__law_case_3 [some (.ref n), some (rootD r), some (rootD r'), none, none, none, none, none, none, none, none, none, none, none, none, none, none, none, none] s = .rt (.bl true) s' := by
  obtain ⟨k1, s1, e1, h1, h2, d1⟩ := draw_ok hB (many := 30) (by decide) (by decide)
  obtain ⟨k, rfl⟩ : ∃ k : Nat, k1 = (k : Int) := ⟨k1.toNat, by omega⟩
  refine ⟨s1, d1, ?_⟩
  have hk : k ≤ 60 := by omega
  have hS0 := ten_pos k
  have hSb : Bd 400 (10 ^ k) := (ten_bd hk).mono (by decide)
  obtain ⟨t, t0, t1, t2, e2⟩ := lfloor_ok h.sz hS0 hSb s1
  have e3 := floor_ok h.sz hp hk t0 t1 t2 s1
  have htb : Bd 700 t := bd_big r h.sz hSb t0 hS0 t1
  have e4 := fun y9 => rc11 h hp h' hp' hS0 hSb t0 htb (some (.ref n)) (some (.str "root")) (some (.int k)) y9 none none none none none none none none s1
  obtain ⟨l', s', e, y, rfl, rfl⟩ := forL_inv (mg := mgName 9) (mb := b__law_case_6) (ds := rangeD 0 k)
    (fun j l u => ∃ y, l = [some (.ref n), some (rootD r), some (rootD r'), some (.str "root"), some (.int r.a), some (.int r.b), some (.int r.c), some (.int k), some (.int (10 ^ j)), y, none, none, none, none, none, none, none, none, none] ∧ u = s1)
    (fun j d l u hj ⟨y, el, eu⟩ => by
      subst el eu
      have m1 : mulD (.int 10) (.int (10 ^ j)) u = .ok (.int (10 ^ (j + 1))) u := by
        have : mulOk 10 (10 ^ j) = true := mulOk_l (by decide)
        simp only [mulD, this, if_true, Int.pow_succ, Int.mul_comm]
      refine ⟨_, _, rfl, _, _, ?_, some d, rfl, rfl⟩
      unfold b__law_case_6
      generalize (10 : Int) ^ (j + 1) = q2 at *
      generalize (10 : Int) ^ j = q at *
      generalize rootD r = rd at *
      generalize rootD r' = rd' at *
      repeat (first | walk_at "sem1" | simp only [m1]))
    (l := [some (.ref n), some (rootD r), some (rootD r'), some (.str "root"), some (.int r.a), some (.int r.b), some (.int r.c), some (.int k), some (.int 1), none, none, none, none, none, none, none, none, none, none]) (s := s1) ⟨none, rfl, rfl⟩
  rw [rangeD_len] at e
  have e5 : l__law_case_6 [some (.ref n), some (rootD r), some (rootD r'), some (.str "root"), some (.int r.a), some (.int r.b), some (.int r.c), some (.int k), some (.int 1), none, none, none, none, none, none, none, none, none, none] s' = .nx [some (.ref n), some (rootD r), some (rootD r'), some (.str "root"), some (.int r.a), some (.int r.b), some (.int r.c), some (.int k), some (.int (10 ^ k)), y, none, none, none, none, none, none, none, none, none] s' := by
    unfold l__law_case_6
    rw [for_ok (rng1_ok (n := k) (s1 := s') rfl (by omega))]
    exact e
  have c1 : (!(t == t)) = false := by simp
  have hg : mgTup 4 (mgCons (mgName 3) (mgCons (mgName 4) (mgCons (mgName 5) (mgCons (mgName 6) mgNil)))) (rootD r) [some (.ref n), some (rootD r), some (rootD r'), none, none, none, none, none, none, none, none, none, none, none, none, none, none, none, none] s = .ok [some (.ref n), some (rootD r), some (rootD r'), some (.str "root"), some (.int r.a), some (.int r.b), some (.int r.c), none, none, none, none, none, none, none, none, none, none, none, none] s := rfl
  simp only [t__law_case_3, t__law_case_4, t__law_case_5, t__law_case_6, t__law_case_8, t__law_case_9]
  generalize mgTup 4 (mgCons (mgName 3) (mgCons (mgName 4) (mgCons (mgName 5) (mgCons (mgName 6) mgNil)))) = tg at *
  generalize (10 : Int) ^ k = S at *
  generalize rootD r = rd at *
  generalize rootD r' = rd' at *
  have key : ∀ lp t11 : MS, lp [some (.ref n), some rd, some rd', some (.str "root"), some (.int r.a), some (.int r.b), some (.int r.c), some (.int k), some (.int 1), none, none, none, none, none, none, none, none, none, none] s' = .nx [some (.ref n), some rd, some rd', some (.str "root"), some (.int r.a), some (.int r.b), some (.int r.c), some (.int k), some (.int S), y, none, none, none, none, none, none, none, none, none] s' →
      (t11 [some (.ref n), some rd, some rd', some (.str "root"), some (.int r.a), some (.int r.b), some (.int r.c), some (.int k), some (.int S), y, some (.int t), none, none, none, none, none, none, none, none] s' = .rt (.bl true) s') →
      mSeq (mAsg (mVar 1) tg) (mSeq (mAsg (mCall 2 r__law_draw (mCons (mVar 0) (mCons (mC (.int 30)) mNil))) (mgName 7)) (mSeq (mAsg (mC (.int 1)) (mgName 8)) (mSeq lp (mSeq (mAsg (mCall 2 r__law_floor (mCons (mVar 1) (mCons (mVar 8) mNil))) (mgName 10)) (mSeq (mIfS (mTest (mOp neD (mCall 2 r_floor_of (mCons (mVar 1) (mCons (mVar 7) mNil))) (mVar 10))) (mRet (mC (.bl false))) mNext) t11))))) [some (.ref n), some rd, some rd', none, none, none, none, none, none, none, none, none, none, none, none, none, none, none, none] s = .rt (.bl true) s' := fun lp t11 e5 e4 => by
    repeat (first | walk_at "sem1" | simp only [hg, e1, e2, e3, e5, c1, e4])
  exact key _ _ e5 (e4 y)
theorem case_ok {s : Sto} {n : Nat} (hB : BagAt s n) (hs : plS s) : ∃ s', r__law_case [.ref n] s = .ok (.bl true) s' ∧ plS s' := by
  obtain ⟨r, s1, e1, d1, h, hp⟩ := lroot_ok hB hs
  obtain ⟨r', s2, e2, d2, h', hp'⟩ := lroot_ok (d1.bag hB.lt) (d1.plS hs)
  obtain ⟨s3, d3, e3⟩ := rc3 h hp h' hp' (d2.bag (d1.bag hB.lt).lt)
  refine ⟨s3, ?_, d3.plS (d2.plS (d1.plS hs))⟩
  have hb : backF s.length (.ok (.bl true) s3) = .ok (.bl true) s3 := backF_eq ((d3.len.trans d2.len).trans d1.len)
  unfold r__law_case
  simp only [t__law_case_2]
  simp only [mDef, List.length_cons, List.length_nil, Nat.reduceAdd, if_true, List.map_cons, List.map_nil, Nat.reduceSub, List.replicate_succ, List.replicate_zero, List.cons_append, List.nil_append]
  rw [← hb]
  congr 1
  generalize rootD r = rd at *
  generalize rootD r' = rd' at *
  have key : ∀ t3 : MS, t3 [some (.ref n), some rd, some rd', none, none, none, none, none, none, none, none, none, none, none, none, none, none, none, none] s2 = .rt (.bl true) s3 → outR (mSeq (mAsg (mCall 1 r__law_root (mCons (mVar 0) mNil)) (mgName 1)) (mSeq (mAsg (mCall 1 r__law_root (mCons (mVar 0) mNil)) (mgName 2)) t3) [some (.ref n), none, none, none, none, none, none, none, none, none, none, none, none, none, none, none, none, none, none] s) = .ok (.bl true) s3 := fun t3 e3 => by
    repeat (first | walk_at "sem1" | simp only [e1, e2, e3])
  exact key _ e3
def gold : Rt := ⟨1, -1, -1⟩
def r6 : Rt := ⟨1, 1, -6⟩
def r8 : Rt := ⟨1, 2, -8⟩
theorem okg : OkR gold := ⟨by decide, by decide, by decide, by decide, by decide, by decide⟩
theorem ok6 : OkR r6 := ⟨by decide, by decide, by decide, by decide, by decide, by decide⟩
theorem ok8 : OkR r8 := ⟨by decide, by decide, by decide, by decide, by decide, by decide⟩
theorem fracof {r : Rt} (h : OkR r) (hp : Prim r) (s : Sto) {q : Int} (q0 : 0 ≤ q) (w1 : q * q ≤ disc r) (w2 : disc r < (q + 1) * (q + 1)) : r_fraction_of [rootD r] s = .ok (if q * q = disc r then fr (Rat.divInt (q - r.b) (2 * r.a)) else .non) s := by
  have k := look_rt h.sz hp s
  have f1 := fracby_ok h.sz s q0 w1 w2
  unfold r_fraction_of
  generalize rootD r = rd at *
  generalize (if q * q = disc r then fr (Rat.divInt (q - r.b) (2 * r.a)) else .non) = res at *
  repeat (first | walk_at "sem1" | simp only [k, f1])
theorem main : ∀ ns : List Int, ns.length ≤ 63 → r_law [.scr ns] [] = .ok (.bl true) [] := by
  intro ns h63
  have hl : ∀ s, lenF [.scr ns] s = .ok (.int ns.length) s := fun s => by
    show R.ok (D.int ((ns.map D.int).length : Int)) s = _
    rw [List.length_map]
  obtain ⟨cells, hcells, hc5⟩ : ∃ c : Nat, (if (5 : Int) < (if (1 : Int) > (ns.length : Int) then 1 else (ns.length : Int)) then 5 else (if (1 : Int) > (ns.length : Int) then 1 else (ns.length : Int))) = (c : Int) ∧ c ≤ 5 := by
    refine ⟨(if (5 : Int) < (if (1 : Int) > (ns.length : Int) then 1 else (ns.length : Int)) then 5 else (if (1 : Int) > (ns.length : Int) then 1 else (ns.length : Int))).toNat, ?_, ?_⟩ <;> split <;> split <;> omega
  obtain ⟨l', s', e, x1, rfl, hp⟩ := forL_inv (mg := mgName 2) (mb := b_law_4) (ds := rangeD 0 cells)
    (fun _ l s => ∃ x1, l = [some (.scr ns), some (rootD gold), x1] ∧ plS s)
    (fun k d l s hd ⟨x1, el, hp⟩ => by
      subst el
      obtain ⟨hk, rfl⟩ := rangeD_get hd
      rw [Int.zero_add]
      obtain ⟨a, b, c, e1, hc⟩ := bag_ok h63 k (by omega) s
      have hB : BagAt (s ++ [.lst [.int a, .int b, .int c]]) s.length := ⟨a, b, c, by rw [List.getElem?_append_right (Nat.le_refl _), Nat.sub_self]; rfl, hc⟩
      have hp1 : plS (s ++ [.lst [.int a, .int b, .int c]]) := plS_app hp (plS_one rfl)
      obtain ⟨s2, e2, hp2⟩ := case_ok hB hp1
      refine ⟨_, _, rfl, [some (.scr ns), some (rootD gold), some (.int (k : Nat))], s2, ?_, ⟨_, rfl, hp2⟩⟩
      simp only [b_law_4]
      generalize rootD gold = g at *
      repeat (first | walk_at "sem1" | simp only [e1, e2]))
    (l := [some (.scr ns), some (rootD gold), none]) (s := []) ⟨_, rfl, plS_nil⟩
  have hL : l_law_4 [some (.scr ns), some (rootD gold), none] [] = .nx [some (.scr ns), some (rootD gold), x1] s' := by
    unfold l_law_4
    generalize rootD gold = g at *
    rw [for_ok (rng1_ok (n := cells) (s1 := []) (by
      rw [← hcells]
      repeat (first | walk_at "sem1" | simp only [hl])) (by omega)), e]
  have f1 : r_floor_of [rootD gold, .int 10] [] = .ok (.int 16180339887) [] := floor_ok okg.sz (by unfold Prim; decide +kernel) (k := 10) (by decide) (by decide) (by decide +kernel) (by decide +kernel) []
  have f2 : r_fraction_of [rootD gold] [] = .ok .non [] := fracof okg (by unfold Prim; decide +kernel) [] (q := 2) (by decide) (by decide +kernel) (by decide +kernel)
  have f3 : r_fraction_of [rootD r6] [] = .ok (.tup [.int 2, .int 1]) [] := by
    have h := fracof ok6 (by unfold Prim; decide +kernel) [] (q := 5) (by decide) (by decide +kernel) (by decide +kernel)
    rw [if_pos (by decide +kernel)] at h
    have e2 : Rat.divInt (5 - r6.b) (2 * r6.a) = 2 := by decide +kernel
    rw [e2] at h
    exact h
  have f4 : r_order [rootD r6, rootD r8] [] = .ok (.int 0) [] := by
    have w6 := look_rt ok6.sz (by unfold Prim; decide +kernel) []
    have w8 := look_rt ok8.sz (by unfold Prim; decide +kernel) []
    have g6 : Flo r6 gapS (2 * greatI) := by
      rw [← great_cast]; exact flo_of great_pos (by decide +kernel) (by decide +kernel) (by decide +kernel)
    have g8 : Flo r8 gapS (2 * greatI) := by
      rw [← great_cast]; exact flo_of great_pos (by decide +kernel) (by decide +kernel) (by decide +kernel)
    have := order_ok ok6 ok8 [] w6 w8 g6 g8
    rwa [Int.sub_self] at this
  have n1 : (!((16180339887 : Int) == 16180339887)) = false := by decide
  have n2 : notND .non .non [] = .ok (.bl false) [] := rfl
  have n3 : neD (.tup [.int 2, .int 1]) (.tup [.int 2, .int 1]) [] = .ok (.bl false) [] := neD_no 2 rfl (by decide +kernel) (by decide)
  have n4 : (!((0 : Int) == 0)) = false := by decide
  have hb := backF_bl (n := 0) (base := []) (t := s') (b := true) rfl plS_nil
  rw [List.nil_append] at hb
  have z2 : (2 : Nat) ≤ 100000 := by decide
  have z4 : (4 : Nat) ≤ 100000 := by decide
  have eg : D.tup [.str "root", .int 1, .int (-1), .int (-1)] = rootD gold := rfl
  have e6 : D.tup [.str "root", .int 1, .int 1, .int (-6)] = rootD r6 := rfl
  have e8 : D.tup [.str "root", .int 1, .int 2, .int (-8)] = rootD r8 := rfl
  unfold r_law
  simp only [t_law_2, t_law_4, t_law_7]
  simp only [mDef, List.length_cons, List.length_nil, Nat.reduceAdd, if_true, List.map_cons, List.map_nil, Nat.reduceSub, List.replicate_succ, List.replicate_zero, List.cons_append, List.nil_append]
  have key : ∀ (lp m1 m2 : MS), m1 [some (.scr ns), none, none] [] = .nx [some (.scr ns), some (rootD gold), none] [] → m2 [some (.scr ns), some (rootD gold), none] [] = .nx [some (.scr ns), some (rootD gold), none] [] → lp [some (.scr ns), some (rootD gold), none] [] = .nx [some (.scr ns), some (rootD gold), x1] s' → outR (mSeq m1 (mSeq m2 (mSeq lp (mRet (mC (.bl true))))) [some (.scr ns), none, none] []) = .ok (.bl true) s' := fun lp m1 m2 k1 k2 k3 => by
    generalize rootD gold = g at *
    repeat (first | walk_at "sem1" | simp only [k1, k2, k3])
  rw [key _ _ _ ?_ ?_ hL]
  · exact hb
  · repeat (first | walk_at "sem1" | simp only [z4])
    rfl
  · generalize rootD gold = g at *
    repeat (first | walk_at "sem1" | simp only [z4, z2, e6, e8, f1, f2, f3, f4, n1, n2, n3, n4])
end K70


namespace K70
open PySem PySem.Spec PyProof.Rows L2 DL
theorem top_mk {K : PySem.W.Frag} {h : Heap} {mg : Str → Option Value} (X : K.In h) (Gn : h.Ns mainGlobals mg)
    {fa0 : Addr} {od0 an0 : Option Addr} {sl0 : Array (Option Value)} {oc0 kV0 dc0 pm0 cd0 ct0 : Value}
    (a0 : PySem.W.nsIn K mainGlobals "greatest_divisor" = some (some (.ref fa0))) (l0 : K.lookup fa0 = some ⟨oc0, od0, .func (PySem.W.fnOf "greatest_divisor" "greatest_divisor" (defArgs s_greatest_divisor) (defBody s_greatest_divisor) (defScope s_greatest_divisor) .none kV0 dc0 pm0 an0 cd0 ct0), sl0⟩) (c0 : PySem.W.codeIn K cd0 "greatest_divisor" = true) (k0 : PySem.W.keepIn K (.ref fa0) = true)
    {fa1 : Addr} {od1 an1 : Option Addr} {sl1 : Array (Option Value)} {oc1 kV1 dc1 pm1 cd1 ct1 : Value}
    (a1 : PySem.W.nsIn K mainGlobals "is_root" = some (some (.ref fa1))) (l1 : K.lookup fa1 = some ⟨oc1, od1, .func (PySem.W.fnOf "is_root" "is_root" (defArgs s_is_root) (defBody s_is_root) (defScope s_is_root) .none kV1 dc1 pm1 an1 cd1 ct1), sl1⟩) (c1 : PySem.W.codeIn K cd1 "is_root" = true) (k1 : PySem.W.keepIn K (.ref fa1) = true)
    {fa2 : Addr} {od2 an2 : Option Addr} {sl2 : Array (Option Value)} {oc2 kV2 dc2 pm2 cd2 ct2 : Value}
    (a2 : PySem.W.nsIn K mainGlobals "look_at_root" = some (some (.ref fa2))) (l2 : K.lookup fa2 = some ⟨oc2, od2, .func (PySem.W.fnOf "look_at_root" "look_at_root" (defArgs s_look_at_root) (defBody s_look_at_root) (defScope s_look_at_root) .none kV2 dc2 pm2 an2 cd2 ct2), sl2⟩) (c2 : PySem.W.codeIn K cd2 "look_at_root" = true) (k2 : PySem.W.keepIn K (.ref fa2) = true)
    {fa3 : Addr} {od3 an3 : Option Addr} {sl3 : Array (Option Value)} {oc3 kV3 dc3 pm3 cd3 ct3 : Value}
    (a3 : PySem.W.nsIn K mainGlobals "is_integer" = some (some (.ref fa3))) (l3 : K.lookup fa3 = some ⟨oc3, od3, .func (PySem.W.fnOf "is_integer" "is_integer" (defArgs s_is_integer) (defBody s_is_integer) (defScope s_is_integer) .none kV3 dc3 pm3 an3 cd3 ct3), sl3⟩) (c3 : PySem.W.codeIn K cd3 "is_integer" = true) (k3 : PySem.W.keepIn K (.ref fa3) = true)
    {fa4 : Addr} {od4 an4 : Option Addr} {sl4 : Array (Option Value)} {oc4 kV4 dc4 pm4 cd4 ct4 : Value}
    (a4 : PySem.W.nsIn K mainGlobals "compare_by" = some (some (.ref fa4))) (l4 : K.lookup fa4 = some ⟨oc4, od4, .func (PySem.W.fnOf "compare_by" "compare_by" (defArgs s_compare_by) (defBody s_compare_by) (defScope s_compare_by) .none kV4 dc4 pm4 an4 cd4 ct4), sl4⟩) (c4 : PySem.W.codeIn K cd4 "compare_by" = true) (k4 : PySem.W.keepIn K (.ref fa4) = true)
    {fa5 : Addr} {od5 an5 : Option Addr} {sl5 : Array (Option Value)} {oc5 kV5 dc5 pm5 cd5 ct5 : Value}
    (a5 : PySem.W.nsIn K mainGlobals "common" = some (some (.ref fa5))) (l5 : K.lookup fa5 = some ⟨oc5, od5, .func (PySem.W.fnOf "common" "common" (defArgs s_common) (defBody s_common) (defScope s_common) .none kV5 dc5 pm5 an5 cd5 ct5), sl5⟩) (c5 : PySem.W.codeIn K cd5 "common" = true) (k5 : PySem.W.keepIn K (.ref fa5) = true)
    {fa6 : Addr} {od6 an6 : Option Addr} {sl6 : Array (Option Value)} {oc6 kV6 dc6 pm6 cd6 ct6 : Value}
    (a6 : PySem.W.nsIn K mainGlobals "fraction" = some (some (.ref fa6))) (l6 : K.lookup fa6 = some ⟨oc6, od6, .func (PySem.W.fnOf "fraction" "fraction" (defArgs s_fraction) (defBody s_fraction) (defScope s_fraction) .none kV6 dc6 pm6 an6 cd6 ct6), sl6⟩) (c6 : PySem.W.codeIn K cd6 "fraction" = true) (k6 : PySem.W.keepIn K (.ref fa6) = true)
    {fa7 : Addr} {od7 an7 : Option Addr} {sl7 : Array (Option Value)} {oc7 kV7 dc7 pm7 cd7 ct7 : Value}
    (a7 : PySem.W.nsIn K mainGlobals "floor_of" = some (some (.ref fa7))) (l7 : K.lookup fa7 = some ⟨oc7, od7, .func (PySem.W.fnOf "floor_of" "floor_of" (defArgs s_floor_of) (defBody s_floor_of) (defScope s_floor_of) .none kV7 dc7 pm7 an7 cd7 ct7), sl7⟩) (c7 : PySem.W.codeIn K cd7 "floor_of" = true) (k7 : PySem.W.keepIn K (.ref fa7) = true)
    {fa8 : Addr} {od8 an8 : Option Addr} {sl8 : Array (Option Value)} {oc8 kV8 dc8 pm8 cd8 ct8 : Value}
    (a8 : PySem.W.nsIn K mainGlobals "square_root" = some (some (.ref fa8))) (l8 : K.lookup fa8 = some ⟨oc8, od8, .func (PySem.W.fnOf "square_root" "square_root" (defArgs s_square_root) (defBody s_square_root) (defScope s_square_root) .none kV8 dc8 pm8 an8 cd8 ct8), sl8⟩) (c8 : PySem.W.codeIn K cd8 "square_root" = true) (k8 : PySem.W.keepIn K (.ref fa8) = true)
    {fa9 : Addr} {od9 an9 : Option Addr} {sl9 : Array (Option Value)} {oc9 kV9 dc9 pm9 cd9 ct9 : Value}
    (a9 : PySem.W.nsIn K mainGlobals "fraction_by" = some (some (.ref fa9))) (l9 : K.lookup fa9 = some ⟨oc9, od9, .func (PySem.W.fnOf "fraction_by" "fraction_by" (defArgs s_fraction_by) (defBody s_fraction_by) (defScope s_fraction_by) .none kV9 dc9 pm9 an9 cd9 ct9), sl9⟩) (c9 : PySem.W.codeIn K cd9 "fraction_by" = true) (k9 : PySem.W.keepIn K (.ref fa9) = true)
    {fa10 : Addr} {od10 an10 : Option Addr} {sl10 : Array (Option Value)} {oc10 kV10 dc10 pm10 cd10 ct10 : Value}
    (a10 : PySem.W.nsIn K mainGlobals "fraction_of" = some (some (.ref fa10))) (l10 : K.lookup fa10 = some ⟨oc10, od10, .func (PySem.W.fnOf "fraction_of" "fraction_of" (defArgs s_fraction_of) (defBody s_fraction_of) (defScope s_fraction_of) .none kV10 dc10 pm10 an10 cd10 ct10), sl10⟩) (c10 : PySem.W.codeIn K cd10 "fraction_of" = true) (k10 : PySem.W.keepIn K (.ref fa10) = true)
    {fa11 : Addr} {od11 an11 : Option Addr} {sl11 : Array (Option Value)} {oc11 kV11 dc11 pm11 cd11 ct11 : Value}
    (a11 : PySem.W.nsIn K mainGlobals "sign" = some (some (.ref fa11))) (l11 : K.lookup fa11 = some ⟨oc11, od11, .func (PySem.W.fnOf "sign" "sign" (defArgs s_sign) (defBody s_sign) (defScope s_sign) .none kV11 dc11 pm11 an11 cd11 ct11), sl11⟩) (c11 : PySem.W.codeIn K cd11 "sign" = true) (k11 : PySem.W.keepIn K (.ref fa11) = true)
    {fa12 : Addr} {od12 an12 : Option Addr} {sl12 : Array (Option Value)} {oc12 kV12 dc12 pm12 cd12 ct12 : Value}
    (a12 : PySem.W.nsIn K mainGlobals "order" = some (some (.ref fa12))) (l12 : K.lookup fa12 = some ⟨oc12, od12, .func (PySem.W.fnOf "order" "order" (defArgs s_order) (defBody s_order) (defScope s_order) .none kV12 dc12 pm12 an12 cd12 ct12), sl12⟩) (c12 : PySem.W.codeIn K cd12 "order" = true) (k12 : PySem.W.keepIn K (.ref fa12) = true)
    {fa13 : Addr} {od13 an13 : Option Addr} {sl13 : Array (Option Value)} {oc13 kV13 dc13 pm13 cd13 ct13 : Value}
    (a13 : PySem.W.nsIn K mainGlobals "_law_draw" = some (some (.ref fa13))) (l13 : K.lookup fa13 = some ⟨oc13, od13, .func (PySem.W.fnOf "_law_draw" "_law_draw" (defArgs s__law_draw) (defBody s__law_draw) (defScope s__law_draw) .none kV13 dc13 pm13 an13 cd13 ct13), sl13⟩) (c13 : PySem.W.codeIn K cd13 "_law_draw" = true) (k13 : PySem.W.keepIn K (.ref fa13) = true)
    {fa14 : Addr} {od14 an14 : Option Addr} {sl14 : Array (Option Value)} {oc14 kV14 dc14 pm14 cd14 ct14 : Value}
    (a14 : PySem.W.nsIn K mainGlobals "_law_fr" = some (some (.ref fa14))) (l14 : K.lookup fa14 = some ⟨oc14, od14, .func (PySem.W.fnOf "_law_fr" "_law_fr" (defArgs s__law_fr) (defBody s__law_fr) (defScope s__law_fr) .none kV14 dc14 pm14 an14 cd14 ct14), sl14⟩) (c14 : PySem.W.codeIn K cd14 "_law_fr" = true) (k14 : PySem.W.keepIn K (.ref fa14) = true)
    {fa15 : Addr} {od15 an15 : Option Addr} {sl15 : Array (Option Value)} {oc15 kV15 dc15 pm15 cd15 ct15 : Value}
    (a15 : PySem.W.nsIn K mainGlobals "_law_common" = some (some (.ref fa15))) (l15 : K.lookup fa15 = some ⟨oc15, od15, .func (PySem.W.fnOf "_law_common" "_law_common" (defArgs s__law_common) (defBody s__law_common) (defScope s__law_common) .none kV15 dc15 pm15 an15 cd15 ct15), sl15⟩) (c15 : PySem.W.codeIn K cd15 "_law_common" = true) (k15 : PySem.W.keepIn K (.ref fa15) = true)
    {fa16 : Addr} {od16 an16 : Option Addr} {sl16 : Array (Option Value)} {oc16 kV16 dc16 pm16 cd16 ct16 : Value}
    (a16 : PySem.W.nsIn K mainGlobals "_law_root" = some (some (.ref fa16))) (l16 : K.lookup fa16 = some ⟨oc16, od16, .func (PySem.W.fnOf "_law_root" "_law_root" (defArgs s__law_root) (defBody s__law_root) (defScope s__law_root) .none kV16 dc16 pm16 an16 cd16 ct16), sl16⟩) (c16 : PySem.W.codeIn K cd16 "_law_root" = true) (k16 : PySem.W.keepIn K (.ref fa16) = true)
    {fa17 : Addr} {od17 an17 : Option Addr} {sl17 : Array (Option Value)} {oc17 kV17 dc17 pm17 cd17 ct17 : Value}
    (a17 : PySem.W.nsIn K mainGlobals "_law_floor" = some (some (.ref fa17))) (l17 : K.lookup fa17 = some ⟨oc17, od17, .func (PySem.W.fnOf "_law_floor" "_law_floor" (defArgs s__law_floor) (defBody s__law_floor) (defScope s__law_floor) .none kV17 dc17 pm17 an17 cd17 ct17), sl17⟩) (c17 : PySem.W.codeIn K cd17 "_law_floor" = true) (k17 : PySem.W.keepIn K (.ref fa17) = true)
    {fa18 : Addr} {od18 an18 : Option Addr} {sl18 : Array (Option Value)} {oc18 kV18 dc18 pm18 cd18 ct18 : Value}
    (a18 : PySem.W.nsIn K mainGlobals "_law_sign" = some (some (.ref fa18))) (l18 : K.lookup fa18 = some ⟨oc18, od18, .func (PySem.W.fnOf "_law_sign" "_law_sign" (defArgs s__law_sign) (defBody s__law_sign) (defScope s__law_sign) .none kV18 dc18 pm18 an18 cd18 ct18), sl18⟩) (c18 : PySem.W.codeIn K cd18 "_law_sign" = true) (k18 : PySem.W.keepIn K (.ref fa18) = true)
    {fa19 : Addr} {od19 an19 : Option Addr} {sl19 : Array (Option Value)} {oc19 kV19 dc19 pm19 cd19 ct19 : Value}
    (a19 : PySem.W.nsIn K mainGlobals "is_number" = some (some (.ref fa19))) (l19 : K.lookup fa19 = some ⟨oc19, od19, .func (PySem.W.fnOf "is_number" "is_number" (defArgs s_is_number) (defBody s_is_number) (defScope s_is_number) .none kV19 dc19 pm19 an19 cd19 ct19), sl19⟩) (c19 : PySem.W.codeIn K cd19 "is_number" = true) (k19 : PySem.W.keepIn K (.ref fa19) = true)
    {fa20 : Addr} {od20 an20 : Option Addr} {sl20 : Array (Option Value)} {oc20 kV20 dc20 pm20 cd20 ct20 : Value}
    (a20 : PySem.W.nsIn K mainGlobals "compare" = some (some (.ref fa20))) (l20 : K.lookup fa20 = some ⟨oc20, od20, .func (PySem.W.fnOf "compare" "compare" (defArgs s_compare) (defBody s_compare) (defScope s_compare) .none kV20 dc20 pm20 an20 cd20 ct20), sl20⟩) (c20 : PySem.W.codeIn K cd20 "compare" = true) (k20 : PySem.W.keepIn K (.ref fa20) = true)
    {fa21 : Addr} {od21 an21 : Option Addr} {sl21 : Array (Option Value)} {oc21 kV21 dc21 pm21 cd21 ct21 : Value}
    (a21 : PySem.W.nsIn K mainGlobals "_law_told" = some (some (.ref fa21))) (l21 : K.lookup fa21 = some ⟨oc21, od21, .func (PySem.W.fnOf "_law_told" "_law_told" (defArgs s__law_told) (defBody s__law_told) (defScope s__law_told) .none kV21 dc21 pm21 an21 cd21 ct21), sl21⟩) (c21 : PySem.W.codeIn K cd21 "_law_told" = true) (k21 : PySem.W.keepIn K (.ref fa21) = true)
    {fa22 : Addr} {od22 an22 : Option Addr} {sl22 : Array (Option Value)} {oc22 kV22 dc22 pm22 cd22 ct22 : Value}
    (a22 : PySem.W.nsIn K mainGlobals "_law_case" = some (some (.ref fa22))) (l22 : K.lookup fa22 = some ⟨oc22, od22, .func (PySem.W.fnOf "_law_case" "_law_case" (defArgs s__law_case) (defBody s__law_case) (defScope s__law_case) .none kV22 dc22 pm22 an22 cd22 ct22), sl22⟩) (c22 : PySem.W.codeIn K cd22 "_law_case" = true) (k22 : PySem.W.keepIn K (.ref fa22) = true)
    {fa23 : Addr} {od23 an23 : Option Addr} {sl23 : Array (Option Value)} {oc23 kV23 dc23 pm23 cd23 ct23 : Value}
    (a23 : PySem.W.nsIn K mainGlobals "_law_bag" = some (some (.ref fa23))) (l23 : K.lookup fa23 = some ⟨oc23, od23, .func (PySem.W.fnOf "_law_bag" "_law_bag" (defArgs s__law_bag) (defBody s__law_bag) (defScope s__law_bag) .none kV23 dc23 pm23 an23 cd23 ct23), sl23⟩) (c23 : PySem.W.codeIn K cd23 "_law_bag" = true) (k23 : PySem.W.keepIn K (.ref fa23) = true)
    {fa24 : Addr} {od24 an24 : Option Addr} {sl24 : Array (Option Value)} {oc24 kV24 dc24 pm24 cd24 ct24 : Value}
    (a24 : PySem.W.nsIn K mainGlobals "law" = some (some (.ref fa24))) (l24 : K.lookup fa24 = some ⟨oc24, od24, .func (PySem.W.fnOf "law" "law" (defArgs s_law) (defBody s_law) (defScope s_law) .none kV24 dc24 pm24 an24 cd24 ct24), sl24⟩) (c24 : PySem.W.codeIn K cd24 "law" = true) (k24 : PySem.W.keepIn K (.ref fa24) = true)
    {C0 : Addr} (ca0 : PySem.W.nsIn K mainGlobals "BadValue" = some (some (.ref C0))) (cx0 : PySem.W.excIn K C0 veL "ValueError.__new__" = true) (ck0 : PySem.W.keepIn K (.ref C0) = true) (cs0 : PySem.W.subIn K (.ref C0) (.type "BaseException") = some true) (ct1000 : PySem.W.typeIn K (.ref C0) = some (.type "type"))
    (ci0 : PySem.W.isClsIn K C0 = true)
    {C1 : Addr} (ca1 : PySem.W.nsIn K mainGlobals "TooFar" = some (some (.ref C1))) (cx1 : PySem.W.excIn K C1 veL "ValueError.__new__" = true) (ck1 : PySem.W.keepIn K (.ref C1) = true) (cs1 : PySem.W.subIn K (.ref C1) (.type "BaseException") = some true) (ct1001 : PySem.W.typeIn K (.ref C1) = some (.type "type"))
    (ci1 : PySem.W.isClsIn K C1 = true)
    (e0_0 : PySem.W.subIn K (.ref C0) (.ref C0) = some true)
    (e0_1 : PySem.W.subIn K (.ref C0) (.ref C1) = some false)
    (e1_0 : PySem.W.subIn K (.ref C1) (.ref C0) = some false)
    (e1_1 : PySem.W.subIn K (.ref C1) (.ref C1) = some true)
    {t0 : Tok} (ga0 : PySem.W.nsIn K mainGlobals "MOST_PLACES" = some (some (.int 60 t0)))
    (z5000 : PySem.W.nsIn K mainGlobals "abs" = some none)
    (z5001 : PySem.W.nsIn K mainGlobals "all" = some none)
    (z5002 : PySem.W.nsIn K mainGlobals "bool" = some none)
    (z5003 : PySem.W.nsIn K mainGlobals "int" = some none)
    (z5004 : PySem.W.nsIn K mainGlobals "isinstance" = some none)
    (z5005 : PySem.W.nsIn K mainGlobals "len" = some none)
    (z5006 : PySem.W.nsIn K mainGlobals "max" = some none)
    (z5007 : PySem.W.nsIn K mainGlobals "min" = some none)
    (z5008 : PySem.W.nsIn K mainGlobals "range" = some none)
    (z5009 : PySem.W.nsIn K mainGlobals "str" = some none)
    (z5010 : PySem.W.nsIn K mainGlobals "tuple" = some none)
    : Top K mg ⟨fun x => [("greatest_divisor", fa0), ("is_root", fa1), ("look_at_root", fa2), ("is_integer", fa3), ("compare_by", fa4), ("common", fa5), ("fraction", fa6), ("floor_of", fa7), ("square_root", fa8), ("fraction_by", fa9), ("fraction_of", fa10), ("sign", fa11), ("order", fa12), ("_law_draw", fa13), ("_law_fr", fa14), ("_law_common", fa15), ("_law_root", fa16), ("_law_floor", fa17), ("_law_sign", fa18), ("is_number", fa19), ("compare", fa20), ("_law_told", fa21), ("_law_case", fa22), ("_law_bag", fa23), ("law", fa24)].lookup x, fun x => [("BadValue", C0), ("TooFar", C1)].lookup x, fun x => ([("MOST_PLACES", (.int 60 : V))].lookup x).getD .non, K⟩ := by
  refine ⟨⟨fa0, _, fun_mk l0 c0 k0, PySem.W.mg_of X Gn a0, rfl⟩, ⟨fa1, _, fun_mk l1 c1 k1, PySem.W.mg_of X Gn a1, rfl⟩, ⟨fa2, _, fun_mk l2 c2 k2, PySem.W.mg_of X Gn a2, rfl⟩, ⟨fa3, _, fun_mk l3 c3 k3, PySem.W.mg_of X Gn a3, rfl⟩, ⟨fa4, _, fun_mk l4 c4 k4, PySem.W.mg_of X Gn a4, rfl⟩, ⟨fa5, _, fun_mk l5 c5 k5, PySem.W.mg_of X Gn a5, rfl⟩, ⟨fa6, _, fun_mk l6 c6 k6, PySem.W.mg_of X Gn a6, rfl⟩, ⟨fa7, _, fun_mk l7 c7 k7, PySem.W.mg_of X Gn a7, rfl⟩, ⟨fa8, _, fun_mk l8 c8 k8, PySem.W.mg_of X Gn a8, rfl⟩, ⟨fa9, _, fun_mk l9 c9 k9, PySem.W.mg_of X Gn a9, rfl⟩, ⟨fa10, _, fun_mk l10 c10 k10, PySem.W.mg_of X Gn a10, rfl⟩, ⟨fa11, _, fun_mk l11 c11 k11, PySem.W.mg_of X Gn a11, rfl⟩, ⟨fa12, _, fun_mk l12 c12 k12, PySem.W.mg_of X Gn a12, rfl⟩, ⟨fa13, _, fun_mk l13 c13 k13, PySem.W.mg_of X Gn a13, rfl⟩, ⟨fa14, _, fun_mk l14 c14 k14, PySem.W.mg_of X Gn a14, rfl⟩, ⟨fa15, _, fun_mk l15 c15 k15, PySem.W.mg_of X Gn a15, rfl⟩, ⟨fa16, _, fun_mk l16 c16 k16, PySem.W.mg_of X Gn a16, rfl⟩, ⟨fa17, _, fun_mk l17 c17 k17, PySem.W.mg_of X Gn a17, rfl⟩, ⟨fa18, _, fun_mk l18 c18 k18, PySem.W.mg_of X Gn a18, rfl⟩, ⟨fa19, _, fun_mk l19 c19 k19, PySem.W.mg_of X Gn a19, rfl⟩, ⟨fa20, _, fun_mk l20 c20 k20, PySem.W.mg_of X Gn a20, rfl⟩, ⟨fa21, _, fun_mk l21 c21 k21, PySem.W.mg_of X Gn a21, rfl⟩, ⟨fa22, _, fun_mk l22 c22 k22, PySem.W.mg_of X Gn a22, rfl⟩, ⟨fa23, _, fun_mk l23 c23 k23, PySem.W.mg_of X Gn a23, rfl⟩, ⟨fa24, _, fun_mk l24 c24 k24, PySem.W.mg_of X Gn a24, rfl⟩, PySem.W.mg_none_of X Gn z5000, PySem.W.mg_none_of X Gn z5001, PySem.W.mg_none_of X Gn z5002, PySem.W.mg_none_of X Gn z5003, PySem.W.mg_none_of X Gn z5004, PySem.W.mg_none_of X Gn z5005, PySem.W.mg_none_of X Gn z5006, PySem.W.mg_none_of X Gn z5007, PySem.W.mg_none_of X Gn z5008, PySem.W.mg_none_of X Gn z5009, PySem.W.mg_none_of X Gn z5010, ⟨C0, rfl, PySem.W.mg_of X Gn ca0, cx0, ck0, cs0, ct1000⟩, ⟨C1, rfl, PySem.W.mg_of X Gn ca1, cx1, ck1, cs1, ct1001⟩, ⟨⟨_, PySem.W.mg_of X Gn ga0, ⟨_, rfl⟩, fun H μ => .int _⟩⟩, ?_⟩
  refine exm_mk (cs := [("BadValue", C0), ("TooFar", C1)]) ?_
  intro p hp q hq
  simp only [List.mem_cons, List.not_mem_nil, or_false] at hp hq
  rcases hp with rfl | rfl <;> rcases hq with rfl | rfl
  · exact (exm_of cs0 ci0 ct1000 e0_0).trans (by rfl)
  · exact (exm_of cs1 ci1 ct1001 e0_1).trans (by rfl)
  · exact (exm_of cs0 ci0 ct1000 e1_0).trans (by rfl)
  · exact (exm_of cs1 ci1 ct1001 e1_1).trans (by rfl)
theorem law_mk {l : PySem.W.OpenLaw} {w : World} {K : PySem.W.Frag} {h : Heap} {mg : Str → Option Value} {fa : Addr} (X : K.In h) (Gn : h.Ns mainGlobals mg) (hfa : mg "law" = some (.ref fa)) (hr : ∀ ns : List Int, ns.length ≤ 63 → r_law [.scr ns] [] = .ok (.bl true) [])
    {fa0 : Addr} {od0 an0 : Option Addr} {sl0 : Array (Option Value)} {oc0 kV0 dc0 pm0 cd0 ct0 : Value}
    (a0 : PySem.W.nsIn K mainGlobals "greatest_divisor" = some (some (.ref fa0))) (l0 : K.lookup fa0 = some ⟨oc0, od0, .func (PySem.W.fnOf "greatest_divisor" "greatest_divisor" (defArgs s_greatest_divisor) (defBody s_greatest_divisor) (defScope s_greatest_divisor) .none kV0 dc0 pm0 an0 cd0 ct0), sl0⟩) (c0 : PySem.W.codeIn K cd0 "greatest_divisor" = true) (k0 : PySem.W.keepIn K (.ref fa0) = true)
    {fa1 : Addr} {od1 an1 : Option Addr} {sl1 : Array (Option Value)} {oc1 kV1 dc1 pm1 cd1 ct1 : Value}
    (a1 : PySem.W.nsIn K mainGlobals "is_root" = some (some (.ref fa1))) (l1 : K.lookup fa1 = some ⟨oc1, od1, .func (PySem.W.fnOf "is_root" "is_root" (defArgs s_is_root) (defBody s_is_root) (defScope s_is_root) .none kV1 dc1 pm1 an1 cd1 ct1), sl1⟩) (c1 : PySem.W.codeIn K cd1 "is_root" = true) (k1 : PySem.W.keepIn K (.ref fa1) = true)
    {fa2 : Addr} {od2 an2 : Option Addr} {sl2 : Array (Option Value)} {oc2 kV2 dc2 pm2 cd2 ct2 : Value}
    (a2 : PySem.W.nsIn K mainGlobals "look_at_root" = some (some (.ref fa2))) (l2 : K.lookup fa2 = some ⟨oc2, od2, .func (PySem.W.fnOf "look_at_root" "look_at_root" (defArgs s_look_at_root) (defBody s_look_at_root) (defScope s_look_at_root) .none kV2 dc2 pm2 an2 cd2 ct2), sl2⟩) (c2 : PySem.W.codeIn K cd2 "look_at_root" = true) (k2 : PySem.W.keepIn K (.ref fa2) = true)
    {fa3 : Addr} {od3 an3 : Option Addr} {sl3 : Array (Option Value)} {oc3 kV3 dc3 pm3 cd3 ct3 : Value}
    (a3 : PySem.W.nsIn K mainGlobals "is_integer" = some (some (.ref fa3))) (l3 : K.lookup fa3 = some ⟨oc3, od3, .func (PySem.W.fnOf "is_integer" "is_integer" (defArgs s_is_integer) (defBody s_is_integer) (defScope s_is_integer) .none kV3 dc3 pm3 an3 cd3 ct3), sl3⟩) (c3 : PySem.W.codeIn K cd3 "is_integer" = true) (k3 : PySem.W.keepIn K (.ref fa3) = true)
    {fa4 : Addr} {od4 an4 : Option Addr} {sl4 : Array (Option Value)} {oc4 kV4 dc4 pm4 cd4 ct4 : Value}
    (a4 : PySem.W.nsIn K mainGlobals "compare_by" = some (some (.ref fa4))) (l4 : K.lookup fa4 = some ⟨oc4, od4, .func (PySem.W.fnOf "compare_by" "compare_by" (defArgs s_compare_by) (defBody s_compare_by) (defScope s_compare_by) .none kV4 dc4 pm4 an4 cd4 ct4), sl4⟩) (c4 : PySem.W.codeIn K cd4 "compare_by" = true) (k4 : PySem.W.keepIn K (.ref fa4) = true)
    {fa5 : Addr} {od5 an5 : Option Addr} {sl5 : Array (Option Value)} {oc5 kV5 dc5 pm5 cd5 ct5 : Value}
    (a5 : PySem.W.nsIn K mainGlobals "common" = some (some (.ref fa5))) (l5 : K.lookup fa5 = some ⟨oc5, od5, .func (PySem.W.fnOf "common" "common" (defArgs s_common) (defBody s_common) (defScope s_common) .none kV5 dc5 pm5 an5 cd5 ct5), sl5⟩) (c5 : PySem.W.codeIn K cd5 "common" = true) (k5 : PySem.W.keepIn K (.ref fa5) = true)
    {fa6 : Addr} {od6 an6 : Option Addr} {sl6 : Array (Option Value)} {oc6 kV6 dc6 pm6 cd6 ct6 : Value}
    (a6 : PySem.W.nsIn K mainGlobals "fraction" = some (some (.ref fa6))) (l6 : K.lookup fa6 = some ⟨oc6, od6, .func (PySem.W.fnOf "fraction" "fraction" (defArgs s_fraction) (defBody s_fraction) (defScope s_fraction) .none kV6 dc6 pm6 an6 cd6 ct6), sl6⟩) (c6 : PySem.W.codeIn K cd6 "fraction" = true) (k6 : PySem.W.keepIn K (.ref fa6) = true)
    {fa7 : Addr} {od7 an7 : Option Addr} {sl7 : Array (Option Value)} {oc7 kV7 dc7 pm7 cd7 ct7 : Value}
    (a7 : PySem.W.nsIn K mainGlobals "floor_of" = some (some (.ref fa7))) (l7 : K.lookup fa7 = some ⟨oc7, od7, .func (PySem.W.fnOf "floor_of" "floor_of" (defArgs s_floor_of) (defBody s_floor_of) (defScope s_floor_of) .none kV7 dc7 pm7 an7 cd7 ct7), sl7⟩) (c7 : PySem.W.codeIn K cd7 "floor_of" = true) (k7 : PySem.W.keepIn K (.ref fa7) = true)
    {fa8 : Addr} {od8 an8 : Option Addr} {sl8 : Array (Option Value)} {oc8 kV8 dc8 pm8 cd8 ct8 : Value}
    (a8 : PySem.W.nsIn K mainGlobals "square_root" = some (some (.ref fa8))) (l8 : K.lookup fa8 = some ⟨oc8, od8, .func (PySem.W.fnOf "square_root" "square_root" (defArgs s_square_root) (defBody s_square_root) (defScope s_square_root) .none kV8 dc8 pm8 an8 cd8 ct8), sl8⟩) (c8 : PySem.W.codeIn K cd8 "square_root" = true) (k8 : PySem.W.keepIn K (.ref fa8) = true)
    {fa9 : Addr} {od9 an9 : Option Addr} {sl9 : Array (Option Value)} {oc9 kV9 dc9 pm9 cd9 ct9 : Value}
    (a9 : PySem.W.nsIn K mainGlobals "fraction_by" = some (some (.ref fa9))) (l9 : K.lookup fa9 = some ⟨oc9, od9, .func (PySem.W.fnOf "fraction_by" "fraction_by" (defArgs s_fraction_by) (defBody s_fraction_by) (defScope s_fraction_by) .none kV9 dc9 pm9 an9 cd9 ct9), sl9⟩) (c9 : PySem.W.codeIn K cd9 "fraction_by" = true) (k9 : PySem.W.keepIn K (.ref fa9) = true)
    {fa10 : Addr} {od10 an10 : Option Addr} {sl10 : Array (Option Value)} {oc10 kV10 dc10 pm10 cd10 ct10 : Value}
    (a10 : PySem.W.nsIn K mainGlobals "fraction_of" = some (some (.ref fa10))) (l10 : K.lookup fa10 = some ⟨oc10, od10, .func (PySem.W.fnOf "fraction_of" "fraction_of" (defArgs s_fraction_of) (defBody s_fraction_of) (defScope s_fraction_of) .none kV10 dc10 pm10 an10 cd10 ct10), sl10⟩) (c10 : PySem.W.codeIn K cd10 "fraction_of" = true) (k10 : PySem.W.keepIn K (.ref fa10) = true)
    {fa11 : Addr} {od11 an11 : Option Addr} {sl11 : Array (Option Value)} {oc11 kV11 dc11 pm11 cd11 ct11 : Value}
    (a11 : PySem.W.nsIn K mainGlobals "sign" = some (some (.ref fa11))) (l11 : K.lookup fa11 = some ⟨oc11, od11, .func (PySem.W.fnOf "sign" "sign" (defArgs s_sign) (defBody s_sign) (defScope s_sign) .none kV11 dc11 pm11 an11 cd11 ct11), sl11⟩) (c11 : PySem.W.codeIn K cd11 "sign" = true) (k11 : PySem.W.keepIn K (.ref fa11) = true)
    {fa12 : Addr} {od12 an12 : Option Addr} {sl12 : Array (Option Value)} {oc12 kV12 dc12 pm12 cd12 ct12 : Value}
    (a12 : PySem.W.nsIn K mainGlobals "order" = some (some (.ref fa12))) (l12 : K.lookup fa12 = some ⟨oc12, od12, .func (PySem.W.fnOf "order" "order" (defArgs s_order) (defBody s_order) (defScope s_order) .none kV12 dc12 pm12 an12 cd12 ct12), sl12⟩) (c12 : PySem.W.codeIn K cd12 "order" = true) (k12 : PySem.W.keepIn K (.ref fa12) = true)
    {fa13 : Addr} {od13 an13 : Option Addr} {sl13 : Array (Option Value)} {oc13 kV13 dc13 pm13 cd13 ct13 : Value}
    (a13 : PySem.W.nsIn K mainGlobals "_law_draw" = some (some (.ref fa13))) (l13 : K.lookup fa13 = some ⟨oc13, od13, .func (PySem.W.fnOf "_law_draw" "_law_draw" (defArgs s__law_draw) (defBody s__law_draw) (defScope s__law_draw) .none kV13 dc13 pm13 an13 cd13 ct13), sl13⟩) (c13 : PySem.W.codeIn K cd13 "_law_draw" = true) (k13 : PySem.W.keepIn K (.ref fa13) = true)
    {fa14 : Addr} {od14 an14 : Option Addr} {sl14 : Array (Option Value)} {oc14 kV14 dc14 pm14 cd14 ct14 : Value}
    (a14 : PySem.W.nsIn K mainGlobals "_law_fr" = some (some (.ref fa14))) (l14 : K.lookup fa14 = some ⟨oc14, od14, .func (PySem.W.fnOf "_law_fr" "_law_fr" (defArgs s__law_fr) (defBody s__law_fr) (defScope s__law_fr) .none kV14 dc14 pm14 an14 cd14 ct14), sl14⟩) (c14 : PySem.W.codeIn K cd14 "_law_fr" = true) (k14 : PySem.W.keepIn K (.ref fa14) = true)
    {fa15 : Addr} {od15 an15 : Option Addr} {sl15 : Array (Option Value)} {oc15 kV15 dc15 pm15 cd15 ct15 : Value}
    (a15 : PySem.W.nsIn K mainGlobals "_law_common" = some (some (.ref fa15))) (l15 : K.lookup fa15 = some ⟨oc15, od15, .func (PySem.W.fnOf "_law_common" "_law_common" (defArgs s__law_common) (defBody s__law_common) (defScope s__law_common) .none kV15 dc15 pm15 an15 cd15 ct15), sl15⟩) (c15 : PySem.W.codeIn K cd15 "_law_common" = true) (k15 : PySem.W.keepIn K (.ref fa15) = true)
    {fa16 : Addr} {od16 an16 : Option Addr} {sl16 : Array (Option Value)} {oc16 kV16 dc16 pm16 cd16 ct16 : Value}
    (a16 : PySem.W.nsIn K mainGlobals "_law_root" = some (some (.ref fa16))) (l16 : K.lookup fa16 = some ⟨oc16, od16, .func (PySem.W.fnOf "_law_root" "_law_root" (defArgs s__law_root) (defBody s__law_root) (defScope s__law_root) .none kV16 dc16 pm16 an16 cd16 ct16), sl16⟩) (c16 : PySem.W.codeIn K cd16 "_law_root" = true) (k16 : PySem.W.keepIn K (.ref fa16) = true)
    {fa17 : Addr} {od17 an17 : Option Addr} {sl17 : Array (Option Value)} {oc17 kV17 dc17 pm17 cd17 ct17 : Value}
    (a17 : PySem.W.nsIn K mainGlobals "_law_floor" = some (some (.ref fa17))) (l17 : K.lookup fa17 = some ⟨oc17, od17, .func (PySem.W.fnOf "_law_floor" "_law_floor" (defArgs s__law_floor) (defBody s__law_floor) (defScope s__law_floor) .none kV17 dc17 pm17 an17 cd17 ct17), sl17⟩) (c17 : PySem.W.codeIn K cd17 "_law_floor" = true) (k17 : PySem.W.keepIn K (.ref fa17) = true)
    {fa18 : Addr} {od18 an18 : Option Addr} {sl18 : Array (Option Value)} {oc18 kV18 dc18 pm18 cd18 ct18 : Value}
    (a18 : PySem.W.nsIn K mainGlobals "_law_sign" = some (some (.ref fa18))) (l18 : K.lookup fa18 = some ⟨oc18, od18, .func (PySem.W.fnOf "_law_sign" "_law_sign" (defArgs s__law_sign) (defBody s__law_sign) (defScope s__law_sign) .none kV18 dc18 pm18 an18 cd18 ct18), sl18⟩) (c18 : PySem.W.codeIn K cd18 "_law_sign" = true) (k18 : PySem.W.keepIn K (.ref fa18) = true)
    {fa19 : Addr} {od19 an19 : Option Addr} {sl19 : Array (Option Value)} {oc19 kV19 dc19 pm19 cd19 ct19 : Value}
    (a19 : PySem.W.nsIn K mainGlobals "is_number" = some (some (.ref fa19))) (l19 : K.lookup fa19 = some ⟨oc19, od19, .func (PySem.W.fnOf "is_number" "is_number" (defArgs s_is_number) (defBody s_is_number) (defScope s_is_number) .none kV19 dc19 pm19 an19 cd19 ct19), sl19⟩) (c19 : PySem.W.codeIn K cd19 "is_number" = true) (k19 : PySem.W.keepIn K (.ref fa19) = true)
    {fa20 : Addr} {od20 an20 : Option Addr} {sl20 : Array (Option Value)} {oc20 kV20 dc20 pm20 cd20 ct20 : Value}
    (a20 : PySem.W.nsIn K mainGlobals "compare" = some (some (.ref fa20))) (l20 : K.lookup fa20 = some ⟨oc20, od20, .func (PySem.W.fnOf "compare" "compare" (defArgs s_compare) (defBody s_compare) (defScope s_compare) .none kV20 dc20 pm20 an20 cd20 ct20), sl20⟩) (c20 : PySem.W.codeIn K cd20 "compare" = true) (k20 : PySem.W.keepIn K (.ref fa20) = true)
    {fa21 : Addr} {od21 an21 : Option Addr} {sl21 : Array (Option Value)} {oc21 kV21 dc21 pm21 cd21 ct21 : Value}
    (a21 : PySem.W.nsIn K mainGlobals "_law_told" = some (some (.ref fa21))) (l21 : K.lookup fa21 = some ⟨oc21, od21, .func (PySem.W.fnOf "_law_told" "_law_told" (defArgs s__law_told) (defBody s__law_told) (defScope s__law_told) .none kV21 dc21 pm21 an21 cd21 ct21), sl21⟩) (c21 : PySem.W.codeIn K cd21 "_law_told" = true) (k21 : PySem.W.keepIn K (.ref fa21) = true)
    {fa22 : Addr} {od22 an22 : Option Addr} {sl22 : Array (Option Value)} {oc22 kV22 dc22 pm22 cd22 ct22 : Value}
    (a22 : PySem.W.nsIn K mainGlobals "_law_case" = some (some (.ref fa22))) (l22 : K.lookup fa22 = some ⟨oc22, od22, .func (PySem.W.fnOf "_law_case" "_law_case" (defArgs s__law_case) (defBody s__law_case) (defScope s__law_case) .none kV22 dc22 pm22 an22 cd22 ct22), sl22⟩) (c22 : PySem.W.codeIn K cd22 "_law_case" = true) (k22 : PySem.W.keepIn K (.ref fa22) = true)
    {fa23 : Addr} {od23 an23 : Option Addr} {sl23 : Array (Option Value)} {oc23 kV23 dc23 pm23 cd23 ct23 : Value}
    (a23 : PySem.W.nsIn K mainGlobals "_law_bag" = some (some (.ref fa23))) (l23 : K.lookup fa23 = some ⟨oc23, od23, .func (PySem.W.fnOf "_law_bag" "_law_bag" (defArgs s__law_bag) (defBody s__law_bag) (defScope s__law_bag) .none kV23 dc23 pm23 an23 cd23 ct23), sl23⟩) (c23 : PySem.W.codeIn K cd23 "_law_bag" = true) (k23 : PySem.W.keepIn K (.ref fa23) = true)
    {fa24 : Addr} {od24 an24 : Option Addr} {sl24 : Array (Option Value)} {oc24 kV24 dc24 pm24 cd24 ct24 : Value}
    (a24 : PySem.W.nsIn K mainGlobals "law" = some (some (.ref fa24))) (l24 : K.lookup fa24 = some ⟨oc24, od24, .func (PySem.W.fnOf "law" "law" (defArgs s_law) (defBody s_law) (defScope s_law) .none kV24 dc24 pm24 an24 cd24 ct24), sl24⟩) (c24 : PySem.W.codeIn K cd24 "law" = true) (k24 : PySem.W.keepIn K (.ref fa24) = true)
    {C0 : Addr} (ca0 : PySem.W.nsIn K mainGlobals "BadValue" = some (some (.ref C0))) (cx0 : PySem.W.excIn K C0 veL "ValueError.__new__" = true) (ck0 : PySem.W.keepIn K (.ref C0) = true) (cs0 : PySem.W.subIn K (.ref C0) (.type "BaseException") = some true) (ct1000 : PySem.W.typeIn K (.ref C0) = some (.type "type"))
    (ci0 : PySem.W.isClsIn K C0 = true)
    {C1 : Addr} (ca1 : PySem.W.nsIn K mainGlobals "TooFar" = some (some (.ref C1))) (cx1 : PySem.W.excIn K C1 veL "ValueError.__new__" = true) (ck1 : PySem.W.keepIn K (.ref C1) = true) (cs1 : PySem.W.subIn K (.ref C1) (.type "BaseException") = some true) (ct1001 : PySem.W.typeIn K (.ref C1) = some (.type "type"))
    (ci1 : PySem.W.isClsIn K C1 = true)
    (e0_0 : PySem.W.subIn K (.ref C0) (.ref C0) = some true)
    (e0_1 : PySem.W.subIn K (.ref C0) (.ref C1) = some false)
    (e1_0 : PySem.W.subIn K (.ref C1) (.ref C0) = some false)
    (e1_1 : PySem.W.subIn K (.ref C1) (.ref C1) = some true)
    {t0 : Tok} (ga0 : PySem.W.nsIn K mainGlobals "MOST_PLACES" = some (some (.int 60 t0)))
    (z5000 : PySem.W.nsIn K mainGlobals "abs" = some none)
    (z5001 : PySem.W.nsIn K mainGlobals "all" = some none)
    (z5002 : PySem.W.nsIn K mainGlobals "bool" = some none)
    (z5003 : PySem.W.nsIn K mainGlobals "int" = some none)
    (z5004 : PySem.W.nsIn K mainGlobals "isinstance" = some none)
    (z5005 : PySem.W.nsIn K mainGlobals "len" = some none)
    (z5006 : PySem.W.nsIn K mainGlobals "max" = some none)
    (z5007 : PySem.W.nsIn K mainGlobals "min" = some none)
    (z5008 : PySem.W.nsIn K mainGlobals "range" = some none)
    (z5009 : PySem.W.nsIn K mainGlobals "str" = some none)
    (z5010 : PySem.W.nsIn K mainGlobals "tuple" = some none)
    : ∃ fd : FuncData, (∀ (s : Shared) (v : Value), BindsTo s fd ⟨[v], []⟩ [("script", v)]) ∧ ∀ base : Heap, K.In base → base.Ns mainGlobals mg → FnOk l.prog w K mg base (L2.CX l.prog w) 7 fa fd ["script"] (spAny K) := by
  have e := hfa.symm.trans (PySem.W.mg_of X Gn a24)
  cases e
  have T := top_mk X Gn a0 l0 c0 k0 a1 l1 c1 k1 a2 l2 c2 k2 a3 l3 c3 k3 a4 l4 c4 k4 a5 l5 c5 k5 a6 l6 c6 k6 a7 l7 c7 k7 a8 l8 c8 k8 a9 l9 c9 k9 a10 l10 c10 k10 a11 l11 c11 k11 a12 l12 c12 k12 a13 l13 c13 k13 a14 l14 c14 k14 a15 l15 c15 k15 a16 l16 c16 k16 a17 l17 c17 k17 a18 l18 c18 k18 a19 l19 c19 k19 a20 l20 c20 k20 a21 l21 c21 k21 a22 l22 c22 k22 a23 l23 c23 k23 a24 l24 c24 k24 ca0 cx0 ck0 cs0 ct1000 ci0 ca1 cx1 ck1 cs1 ct1001 ci1 e0_0 e0_1 e1_0 e1_1 ga0 z5000 z5001 z5002 z5003 z5004 z5005 z5006 z5007 z5008 z5009 z5010
  refine ⟨_, fun s v => ?_, fun base _ _ => (fn_law (G := ⟨fun x => [("greatest_divisor", fa0), ("is_root", fa1), ("look_at_root", fa2), ("is_integer", fa3), ("compare_by", fa4), ("common", fa5), ("fraction", fa6), ("floor_of", fa7), ("square_root", fa8), ("fraction_by", fa9), ("fraction_of", fa10), ("sign", fa11), ("order", fa12), ("_law_draw", fa13), ("_law_fr", fa14), ("_law_common", fa15), ("_law_root", fa16), ("_law_floor", fa17), ("_law_sign", fa18), ("is_number", fa19), ("compare", fa20), ("_law_told", fa21), ("_law_case", fa22), ("_law_bag", fa23), ("law", fa)].lookup x, fun x => [("BadValue", C0), ("TooFar", C1)].lookup x, fun x => ([("MOST_PLACES", (.int 60 : V))].lookup x).getD .non, K⟩) T (fun_mk l24 c24 k24)).imp (law_sp hr)⟩
  exact .of_eq rfl
end K70
open PySem PySem.W PyProof.Rows
set_option maxHeartbeats 0 in
theorem PySem.Challenge.cw_currentwebs_k70_whole_roots_holds : PySem.Challenge.rw_currentwebs_k70_whole_roots.Holds := by
  w_on; o_law; k_head; (case hw => w_witness2)
  k_fill
  refine L2.walk_of (l := PySem.Challenge.rw_currentwebs_k70_whole_roots) (n := 63) (k := 7) (x := "script") (CX := fun w => L2.CX (PySem.Challenge.rw_currentwebs_k70_whole_roots).prog w) (sp := fun w => DL.spAny _) rfl (by decide) rfl ⟨rfl, by decide, by decide⟩ (fun w h Y => PySem.W.kIn_of Y) ?F (fun _ H a ns hl ho hS => ⟨a, ns, rfl, hS, ho, hl, fun _ => rfl⟩) (fun _ H s e s2 z => DL.cx_none H s e s2 z)
  case F =>
    intro w mg fa h KX G hmg
    refine' K70.law_mk KX G hmg K70.main ?a0 ?l0 ?c0 ?k0 ?a1 ?l1 ?c1 ?k1 ?a2 ?l2 ?c2 ?k2 ?a3 ?l3 ?c3 ?k3 ?a4 ?l4 ?c4 ?k4 ?a5 ?l5 ?c5 ?k5 ?a6 ?l6 ?c6 ?k6 ?a7 ?l7 ?c7 ?k7 ?a8 ?l8 ?c8 ?k8 ?a9 ?l9 ?c9 ?k9 ?a10 ?l10 ?c10 ?k10 ?a11 ?l11 ?c11 ?k11 ?a12 ?l12 ?c12 ?k12 ?a13 ?l13 ?c13 ?k13 ?a14 ?l14 ?c14 ?k14 ?a15 ?l15 ?c15 ?k15 ?a16 ?l16 ?c16 ?k16 ?a17 ?l17 ?c17 ?k17 ?a18 ?l18 ?c18 ?k18 ?a19 ?l19 ?c19 ?k19 ?a20 ?l20 ?c20 ?k20 ?a21 ?l21 ?c21 ?k21 ?a22 ?l22 ?c22 ?k22 ?a23 ?l23 ?c23 ?k23 ?a24 ?l24 ?c24 ?k24 ?ca0 ?cx0 ?ck0 ?cs0 ?ct1000 ?ci0 ?ca1 ?cx1 ?ck1 ?cs1 ?ct1001 ?ci1 ?e0_0 ?e0_1 ?e1_0 ?e1_1 ?ga0 ?z5000 ?z5001 ?z5002 ?z5003 ?z5004 ?z5005 ?z5006 ?z5007 ?z5008 ?z5009 ?z5010
    (case a0 => k_is)
    (case l0 => k_is)
    (case c0 => k_is)
    (case k0 => k_is)
    (case a1 => k_is)
    (case l1 => k_is)
    (case c1 => k_is)
    (case k1 => k_is)
    (case a2 => k_is)
    (case l2 => k_is)
    (case c2 => k_is)
    (case k2 => k_is)
    (case a3 => k_is)
    (case l3 => k_is)
    (case c3 => k_is)
    (case k3 => k_is)
    (case a4 => k_is)
    (case l4 => k_is)
    (case c4 => k_is)
    (case k4 => k_is)
    (case a5 => k_is)
    (case l5 => k_is)
    (case c5 => k_is)
    (case k5 => k_is)
    (case a6 => k_is)
    (case l6 => k_is)
    (case c6 => k_is)
    (case k6 => k_is)
    (case a7 => k_is)
    (case l7 => k_is)
    (case c7 => k_is)
    (case k7 => k_is)
    (case a8 => k_is)
    (case l8 => k_is)
    (case c8 => k_is)
    (case k8 => k_is)
    (case a9 => k_is)
    (case l9 => k_is)
    (case c9 => k_is)
    (case k9 => k_is)
    (case a10 => k_is)
    (case l10 => k_is)
    (case c10 => k_is)
    (case k10 => k_is)
    (case a11 => k_is)
    (case l11 => k_is)
    (case c11 => k_is)
    (case k11 => k_is)
    (case a12 => k_is)
    (case l12 => k_is)
    (case c12 => k_is)
    (case k12 => k_is)
    (case a13 => k_is)
    (case l13 => k_is)
    (case c13 => k_is)
    (case k13 => k_is)
    (case a14 => k_is)
    (case l14 => k_is)
    (case c14 => k_is)
    (case k14 => k_is)
    (case a15 => k_is)
    (case l15 => k_is)
    (case c15 => k_is)
    (case k15 => k_is)
    (case a16 => k_is)
    (case l16 => k_is)
    (case c16 => k_is)
    (case k16 => k_is)
    (case a17 => k_is)
    (case l17 => k_is)
    (case c17 => k_is)
    (case k17 => k_is)
    (case a18 => k_is)
    (case l18 => k_is)
    (case c18 => k_is)
    (case k18 => k_is)
    (case a19 => k_is)
    (case l19 => k_is)
    (case c19 => k_is)
    (case k19 => k_is)
    (case a20 => k_is)
    (case l20 => k_is)
    (case c20 => k_is)
    (case k20 => k_is)
    (case a21 => k_is)
    (case l21 => k_is)
    (case c21 => k_is)
    (case k21 => k_is)
    (case a22 => k_is)
    (case l22 => k_is)
    (case c22 => k_is)
    (case k22 => k_is)
    (case a23 => k_is)
    (case l23 => k_is)
    (case c23 => k_is)
    (case k23 => k_is)
    (case a24 => k_is)
    (case l24 => k_is)
    (case c24 => k_is)
    (case k24 => k_is)
    (case ca0 => k_is)
    (case cx0 => k_exc)
    (case ck0 => k_is)
    (case cs0 => k_is)
    (case ct1000 => k_is)
    (case ci0 => k_is)
    (case ca1 => k_is)
    (case cx1 => k_exc)
    (case ck1 => k_is)
    (case cs1 => k_is)
    (case ct1001 => k_is)
    (case ci1 => k_is)
    (case e0_0 => k_is)
    (case e0_1 => k_is)
    (case e1_0 => k_is)
    (case e1_1 => k_is)
    (case ga0 => k_is)
    (case z5000 => k_is)
    (case z5001 => k_is)
    (case z5002 => k_is)
    (case z5003 => k_is)
    (case z5004 => k_is)
    (case z5005 => k_is)
    (case z5006 => k_is)
    (case z5007 => k_is)
    (case z5008 => k_is)
    (case z5009 => k_is)
    (case z5010 => k_is)


